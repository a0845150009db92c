import PyProof.Rows.All
import Wide.All
import OpenK.AllK
import Wide.FinOn
import HandS.ForMost
import HandS.ForExc
import HandS.Wide
import HandS.IsInst
import HandS.EndBits
import HandS.TupLe
import HandS.TupAny
import HandS.WideBits
import HandS.RevRange
import HandS.Zip
import HandS.Iter
import HandS.ExcCtx
import HandS.SetFor
import PyProof.ReprRoads
import HandS.Deep
import HandS.HotCalls
import HandS.Hot
import HandS.List
import PyProof.ConsumeWalk
import HandS.ExcIs
import HandS.Conv
import HandS.Text
import HandS.StrMore
import HandS.DictTup
import HandS.SortRule
import KE.KDictSum
import HandS.ExcInitHot
import HandS.SuiteRaise
import HandS.ExcField
import HandS.ClsMeth
import KE.KExcIs
import PySem.Challenge.RW_splitstream_k11_texts_misread
import PyProof.Rows.StrCut
set_option Elab.async false
set_option linter.all false
set_option autoImplicit false
set_option maxRecDepth 100000
/-! A layer of total functions over the hand layer: values whose tuples are plain data, a heap of the mutable things by number, a def's body as one Lean function. -/
namespace DL
open PySem PySem.Spec PyProof.Rows L2

/-! ### values, things, results -/
inductive D where
  | non | bl (b : Bool) | int (i : Int) | str (x : Str) | tup (xs : List D) | ref (n : Nat)
  /-- a tuple of ints that may be a dict's key; the script -/
  | key (ks : List Key) | rol (xs : List Int)
  /-- an address that is none of ours: an exception in hand -/
  | adr (a : Addr)
inductive O where
  | lst (xs : List D) | dK (kvs : List (Key × D)) | dT (kvs : List (List Key × D)) | ins (c : Nat) (fs : List (Str × D)) | xd (fs : List (Str × D))
  /-- a dict that is walked: locked from then on -/
  | lkK (kvs : List (Key × D)) | lkT (kvs : List (List Key × D))
abbrev Sl := List (Option D)
abbrev Hv := List O
inductive Ex where
  | own (c : Nat) (d : Option Nat)
  /-- with a number as its row -/
  | row (c : Nat) (k : Int)
inductive R (α : Type) where
  | ok (a : α) (h : Hv) | ex (e : Ex) (h : Hv) | no
def R.bind {α β : Type} (r : R α) (k : α → Hv → R β) : R β := match r with
  | .ok a h => k a h
  | .ex e h => .ex e h
  | .no => .no
inductive SR where
  | nx (ρ : Sl) (h : Hv) | rt (x : D) (h : Hv) | bk (ρ : Sl) (h : Hv) | ct (ρ : Sl) (h : Hv) | ex (e : Ex) (ρ : Sl) (h : Hv) | no
@[simp] theorem R.bind_ok {α β : Type} {a : α} {h : Hv} {k : α → Hv → R β} : (R.ok a h).bind k = k a h := id rfl
@[simp] theorem R.bind_ex {α β : Type} {e : Ex} {h : Hv} {k : α → Hv → R β} : (R.ex e h : R α).bind k = .ex e h := id rfl
@[simp] theorem R.bind_no {α β : Type} {k : α → Hv → R β} : (R.no : R α).bind k = .no := id rfl

/-! ### how they stand in the hand layer's heap -/
/-- a list that stands, locked or of the written part -/
def RoL (K : PySem.W.Frag) (H : Hp) (a : Addr) (vs : List V) : Prop := (∃ o, H a = some (.frz o (.lst vs))) ∨
  ∃ (o : Obj) (its : Array Value) (n : Nat), K.lookup a = some o ∧ o.cls = .type "list" ∧ o.dict = none ∧ o.data = .seq its n ∧ its.size ≤ sizeLine ∧ Vals vs its.toList
theorem RoL.sq {K : PySem.W.Frag} {H : Hp} {a : Addr} {vs : List V} (h : RoL K H a vs) : SqL K H a vs := h.elim (fun h => .inl (.inr h)) .inr
section
variable (K : PySem.W.Frag) (g : Nat → Addr)
mutual
def Rep (φ : List Addr) (H : Hp) : D → V → Prop
  | .non, v => v = .non
  | .bl b, v => v = .bl b
  | .int i, v => v = .int i
  | .str x, v => v = .str x
  | .tup xs, v => ∃ p vs, v = .ref p ∧ SqT K H p vs ∧ RepL φ H xs vs
  | .ref n, v => ∃ a, v = .ref a ∧ φ[n]? = some a
  | .key ks, v => ∃ p, v = .ref p ∧ H p = some (.tup (ks.map kV))
  | .rol xs, v => ∃ p, v = .ref p ∧ RoL K H p (xs.map V.int)
  | .adr a, v => v = .ref a
def RepL (φ : List Addr) (H : Hp) : List D → List V → Prop
  | [], vs => vs = []
  | x :: xs, vs => ∃ v r, vs = v :: r ∧ Rep φ H x v ∧ RepL φ H xs r
end
structure Le (φ φ' : List Addr) (H H' : Hp) : Prop where
  pre : φ <+: φ'
  tup : ∀ p vs, SqT K H p vs → SqT K H' p vs
  trk : ∀ p vs, H p = some (.tup vs) → H' p = some (.tup vs)
  frz : ∀ p o u, H p = some (.frz o u) → H' p = some (.frz o u)
theorem Le.refl {φ : List Addr} {H : Hp} : Le K φ φ H H := ⟨List.prefix_refl _, fun _ _ h => h, fun _ _ h => h, fun _ _ _ h => h⟩
variable {K g}
theorem Le.trans {φ φ1 φ2 : List Addr} {H H1 H2 : Hp} (a : Le K φ φ1 H H1) (b : Le K φ1 φ2 H1 H2) : Le K φ φ2 H H2 :=
  ⟨a.pre.trans b.pre, fun p vs h => b.tup p vs (a.tup p vs h), fun p vs h => b.trk p vs (a.trk p vs h), fun p o vs h => b.frz p o vs (a.frz p o vs h)⟩
theorem prefix_get {α : Type} {l l' : List α} (h : l <+: l') {n : Nat} {a : α} (e : l[n]? = some a) : l'[n]? = some a := by
  obtain ⟨t, rfl⟩ := h
  have hn := (List.getElem?_eq_some_iff.mp e).1
  rw [List.getElem?_append_left hn]
  exact e
mutual
theorem Rep.mono {φ φ' : List Addr} {H H' : Hp} (le : Le K φ φ' H H') : ∀ (x : D) (v : V), Rep K φ H x v → Rep K φ' H' x v
  | .non, _, h => h
  | .bl _, _, h => h
  | .int _, _, h => h
  | .str _, _, h => h
  | .tup xs, _, ⟨p, vs, e, hs, hl⟩ => ⟨p, vs, e, le.tup p vs hs, RepL.mono le xs vs hl⟩
  | .ref _, _, ⟨a, e, hn⟩ => ⟨a, e, prefix_get le.pre hn⟩
  | .key _, _, ⟨p, e, hp⟩ => ⟨p, e, le.trk _ _ hp⟩
  | .rol _, _, ⟨p, e, hp⟩ => ⟨p, e, hp.elim (fun ⟨o, z⟩ => .inl ⟨o, le.frz _ _ _ z⟩) .inr⟩
  | .adr _, _, h => h
theorem RepL.mono {φ φ' : List Addr} {H H' : Hp} (le : Le K φ φ' H H') : ∀ (xs : List D) (vs : List V), RepL K φ H xs vs → RepL K φ' H' xs vs
  | [], _, h => h
  | x :: xs, _, ⟨v, r, e, h1, h2⟩ => ⟨v, r, e, Rep.mono le x v h1, RepL.mono le xs r h2⟩
end
theorem RepL.length {φ : List Addr} {H : Hp} : ∀ {xs : List D} {vs : List V}, RepL K φ H xs vs → vs.length = xs.length
  | [], _, h => by cases (show _ = _ from h); rfl
  | x :: xs, _, ⟨v, r, e, _, h2⟩ => by subst e; simp [RepL.length h2]
theorem RepL.get {φ : List Addr} {H : Hp} : ∀ {xs : List D} {vs : List V}, RepL K φ H xs vs → ∀ {i : Nat} {x : D}, xs[i]? = some x → ∃ v, vs[i]? = some v ∧ Rep K φ H x v
  | [], _, _, _, _, e => by simp at e
  | x :: xs, _, ⟨v, r, e, h1, h2⟩, 0, y, hy => by
    subst e
    have : x = y := by simpa using hy
    subst this
    exact ⟨v, rfl, h1⟩
  | x :: xs, _, ⟨v, r, e, h1, h2⟩, i + 1, y, hy => by
    subst e
    obtain ⟨u, hu, ru⟩ := RepL.get h2 (i := i) (x := y) (by simpa using hy)
    exact ⟨u, by simpa using hu, ru⟩
theorem RepL.append {φ : List Addr} {H : Hp} : ∀ {xs ys : List D} {vs ws : List V}, RepL K φ H xs vs → RepL K φ H ys ws → RepL K φ H (xs ++ ys) (vs ++ ws)
  | [], _, _, _, h, h' => by cases (show _ = _ from h); exact h'
  | x :: xs, _, _, _, ⟨v, r, e, h1, h2⟩, h' => by subst e; exact ⟨v, _, rfl, h1, RepL.append h2 h'⟩
theorem RepL.one {φ : List Addr} {H : Hp} {x : D} {v : V} (h : Rep K φ H x v) : RepL K φ H [x] [v] := ⟨v, [], rfl, h, rfl⟩
theorem RepL.drop {φ : List Addr} {H : Hp} : ∀ {xs : List D} {vs : List V} (n : Nat), RepL K φ H xs vs → RepL K φ H (xs.drop n) (vs.drop n)
  | _, _, 0, h => h
  | [], _, _ + 1, h => by cases (show _ = _ from h); rfl
  | x :: xs, _, n + 1, ⟨v, r, e, _, h2⟩ => by subst e; exact RepL.drop n h2
theorem RepL.take {φ : List Addr} {H : Hp} : ∀ {xs : List D} {vs : List V} (n : Nat), RepL K φ H xs vs → RepL K φ H (xs.take n) (vs.take n)
  | _, _, 0, _ => rfl
  | [], _, _ + 1, h => by cases (show _ = _ from h); rfl
  | x :: xs, _, n + 1, ⟨v, r, e, h1, h2⟩ => by subst e; exact ⟨v, _, rfl, h1, RepL.take n h2⟩
theorem RepL.set {φ : List Addr} {H : Hp} {y : D} {u : V} (hy : Rep K φ H y u) : ∀ {xs : List D} {vs : List V} (n : Nat), RepL K φ H xs vs → RepL K φ H (xs.set n y) (vs.set n u)
  | [], _, n, h => by cases (show _ = _ from h); cases n <;> rfl
  | x :: xs, _, 0, ⟨v, r, e, _, h2⟩ => by subst e; exact ⟨u, r, rfl, hy, h2⟩
  | x :: xs, _, n + 1, ⟨v, r, e, h1, h2⟩ => by subst e; exact ⟨v, _, rfl, h1, RepL.set hy n h2⟩
theorem RepL.reverse {φ : List Addr} {H : Hp} : ∀ {xs : List D} {vs : List V}, RepL K φ H xs vs → RepL K φ H xs.reverse vs.reverse
  | [], _, h => by cases (show _ = _ from h); rfl
  | x :: xs, _, ⟨v, r, e, h1, h2⟩ => by
    subst e
    rw [List.reverse_cons, List.reverse_cons]
    exact RepL.append (RepL.reverse h2) (RepL.one h1)

/-- values by keys -/
def RepKV {κ : Type} (K : PySem.W.Frag) (φ : List Addr) (H : Hp) : List (κ × D) → List (κ × V) → Prop
  | [], vs => vs = []
  | p :: ps, vs => ∃ v r, vs = (p.1, v) :: r ∧ Rep K φ H p.2 v ∧ RepKV K φ H ps r
theorem RepKV.mono {κ : Type} {φ φ' : List Addr} {H H' : Hp} (le : Le K φ φ' H H') : ∀ (xs : List (κ × D)) (vs : List (κ × V)), RepKV K φ H xs vs → RepKV K φ' H' xs vs
  | [], _, h => h
  | x :: xs, _, ⟨v, r, e, h1, h2⟩ => ⟨v, r, e, Rep.mono le _ v h1, RepKV.mono le xs r h2⟩
theorem RepKV.length {κ : Type} {φ : List Addr} {H : Hp} : ∀ {xs : List (κ × D)} {vs : List (κ × V)}, RepKV K φ H xs vs → vs.length = xs.length
  | [], _, h => by cases (show _ = _ from h); rfl
  | x :: xs, _, ⟨v, r, e, _, h2⟩ => by subst e; simp [RepKV.length h2]

inductive RepO (K : PySem.W.Frag) (g : Nat → Addr) (φ : List Addr) (H : Hp) : O → HO → Prop
  | lst {xs : List D} {vs : List V} (r : RepL K φ H xs vs) : RepO K g φ H (.lst xs) (.lst vs)
  | dK {xs : List (Key × D)} {vs : List (Key × V)} (r : RepKV K φ H xs vs) : RepO K g φ H (.dK xs) (.dK vs)
  | dT {xs : List (List Key × D)} {vs : List (List Key × V)} (r : RepKV K φ H xs vs) : RepO K g φ H (.dT xs) (.dT vs)
  | ins {c : Nat} {dx : Addr} {fs : List (Str × D)} {vs : List (Str × V)} (r : RepKV K φ H fs vs) : RepO K g φ H (.ins c fs) (.ins (g c) dx vs)
  | xd {fs : List (Str × D)} {vs : List (Str × V)} (r : RepKV K φ H fs vs) : RepO K g φ H (.xd fs) (.xd vs)
  | lkK {xs : List (Key × D)} {vs : List (Key × V)} {o : Obj} (r : RepKV K φ H xs vs) : RepO K g φ H (.lkK xs) (.frz o (.dK vs))
  | lkT {xs : List (List Key × D)} {vs : List (List Key × V)} {o : Obj} (r : RepKV K φ H xs vs) : RepO K g φ H (.lkT xs) (.frz o (.dT vs))
theorem RepO.mono {φ φ' : List Addr} {H H' : Hp} (le : Le K φ φ' H H') {o : O} {u : HO} (h : RepO K g φ H o u) : RepO K g φ' H' o u := by
  cases h with
  | lst r => exact .lst (RepL.mono le _ _ r)
  | dK r => exact .dK (RepKV.mono le _ _ r)
  | dT r => exact .dT (RepKV.mono le _ _ r)
  | ins r => exact .ins (RepKV.mono le _ _ r)
  | xd r => exact .xd (RepKV.mono le _ _ r)
  | lkK r => exact .lkK (RepKV.mono le _ _ r)
  | lkT r => exact .lkT (RepKV.mono le _ _ r)

structure Sim (K : PySem.W.Frag) (g : Nat → Addr) (φ : List Addr) (h : Hv) (H : Hp) : Prop where
  len : φ.length = h.length
  nd : φ.Nodup
  obj : ∀ (n : Nat) (a : Addr) (o : O), φ[n]? = some a → h[n]? = some o → ∃ u, H a = some u ∧ RepO K g φ H o u
theorem Sim.at {φ : List Addr} {h : Hv} {H : Hp} (S : Sim K g φ h H) {n : Nat} {o : O} (e : h[n]? = some o) : ∃ a u, φ[n]? = some a ∧ H a = some u ∧ RepO K g φ H o u := by
  have hn : n < φ.length := by rw [S.len]; exact (List.getElem?_eq_some_iff.mp e).1
  obtain ⟨u, h1, h2⟩ := S.obj n φ[n] o (List.getElem?_eq_getElem hn) e
  exact ⟨φ[n], u, List.getElem?_eq_getElem hn, h1, h2⟩
/-- a fresh address is none of ours -/
theorem Sim.new {φ : List Addr} {h : Hv} {H : Hp} (S : Sim K g φ h H) {p : Addr} (hp : H p = none) : p ∉ φ := fun hm => by
  obtain ⟨n, hn, e⟩ := List.mem_iff_getElem.mp hm
  have hh : n < h.length := by rw [← S.len]; exact hn
  obtain ⟨u, h1, _⟩ := S.obj n p h[n] (by rw [List.getElem?_eq_getElem hn, e]) (List.getElem?_eq_getElem hh)
  rw [hp] at h1
  cases h1
theorem sqT_new {H : Hp} {p : Addr} {o : HO} (hp : H p = none) {a : Addr} {vs : List V} (h : SqT K H a vs) : SqT K (upd H p o) a vs := by
  rcases h with (h | ⟨u, h⟩) | h
  · exact .inl (.inl (by rw [upd_ne (ne_of_none h hp)]; exact h))
  · exact .inl (.inr ⟨u, by rw [upd_ne (ne_of_none h hp)]; exact h⟩)
  · exact .inr h
/-- a new thing that we do not number (a tuple) -/
theorem Le.newT {φ : List Addr} {H : Hp} {p : Addr} {o : HO} (hp : H p = none) : Le K φ φ H (upd H p o) := ⟨List.prefix_refl _, fun _ _ h => sqT_new hp h, fun _ _ h => by rw [upd_ne (ne_of_none h hp)]; exact h, fun _ _ _ h => by rw [upd_ne (ne_of_none h hp)]; exact h⟩
theorem Sim.newT {φ : List Addr} {h : Hv} {H : Hp} (S : Sim K g φ h H) {p : Addr} {o : HO} (hp : H p = none) : Sim K g φ h (upd H p o) :=
  ⟨S.len, S.nd, fun n a ob e1 e2 => by
    obtain ⟨u, h1, h2⟩ := S.obj n a ob e1 e2
    exact ⟨u, by rw [upd_ne (ne_of_none h1 hp)]; exact h1, h2.mono (Le.newT hp)⟩⟩
/-- a new thing that gets the next number -/
theorem Le.newO {φ : List Addr} {H : Hp} {p : Addr} {o : HO} (hp : H p = none) : Le K φ (φ ++ [p]) H (upd H p o) := ⟨⟨[p], rfl⟩, fun _ _ h => sqT_new hp h, fun _ _ h => by rw [upd_ne (ne_of_none h hp)]; exact h, fun _ _ _ h => by rw [upd_ne (ne_of_none h hp)]; exact h⟩
theorem Sim.newO {φ : List Addr} {h : Hv} {H : Hp} (S : Sim K g φ h H) {p : Addr} {u : HO} {o : O} (hp : H p = none) (r : RepO K g φ H o u) : Sim K g (φ ++ [p]) (h ++ [o]) (upd H p u) := by
  refine ⟨by simp [S.len], List.nodup_append.mpr ⟨S.nd, by simp, fun a ha b hb => ?_⟩, fun n a ob e1 e2 => ?_⟩
  · have : b = p := by simpa using hb
    subst this
    exact fun z => S.new hp (z ▸ ha)
  · by_cases hn : n < h.length
    · rw [List.getElem?_append_left hn] at e2
      rw [List.getElem?_append_left (by rw [S.len]; exact hn)] at e1
      obtain ⟨v, h1, h2⟩ := S.obj n a ob e1 e2
      exact ⟨v, by rw [upd_ne (ne_of_none h1 hp)]; exact h1, h2.mono (Le.newO hp)⟩
    · rw [List.getElem?_append_right (by omega)] at e2
      rw [List.getElem?_append_right (by rw [S.len]; omega)] at e1
      have z : n - h.length = 0 := by
        cases q : n - h.length with
        | zero => rfl
        | succ k => rw [q] at e2; simp at e2
      rw [S.len] at e1
      rw [z] at e1 e2
      have ea : p = a := by simpa using e1
      have eo : o = ob := by simpa using e2
      subst ea eo
      exact ⟨u, upd_same, r.mono (Le.newO hp)⟩
theorem newO_get {φ : List Addr} {h : Hv} {H : Hp} (S : Sim K g φ h H) {p : Addr} : (φ ++ [p])[h.length]? = some p := by
  rw [List.getElem?_append_right (by rw [S.len]; exact Nat.le_refl _), S.len, Nat.sub_self]
  rfl
/-- a thing of ours changed -/
theorem sqT_mut {H : Hp} {p : Addr} {u o : HO} (hp : H p = some u) (hu : ∀ vs, u ≠ .tup vs) (hz : ∀ ob vs, u ≠ .frz ob vs) {a : Addr} {vs : List V} (h : SqT K H a vs) : SqT K (upd H p o) a vs := by
  rcases h with (h | ⟨w, h⟩) | h
  · have : a ≠ p := fun z => by subst z; rw [h] at hp; exact hu vs (Option.some.inj hp).symm
    exact .inl (.inl (by rw [upd_ne this]; exact h))
  · have : a ≠ p := fun z => by subst z; rw [h] at hp; exact hz _ _ (Option.some.inj hp).symm
    exact .inl (.inr ⟨w, by rw [upd_ne this]; exact h⟩)
  · exact .inr h
theorem Le.mut {φ : List Addr} {H : Hp} {p : Addr} {u o : HO} (hp : H p = some u) (hu : ∀ vs, u ≠ .tup vs) (hz : ∀ ob vs, u ≠ .frz ob vs) : Le K φ φ H (upd H p o) :=
  ⟨List.prefix_refl _, fun _ _ h => sqT_mut hp hu hz h, fun a vs h => by
    have : a ≠ p := fun z => by subst z; rw [h] at hp; exact hu vs (Option.some.inj hp).symm
    rw [upd_ne this]; exact h, fun a o vs h => by
    have : a ≠ p := fun z => by subst z; rw [h] at hp; exact hz _ _ (Option.some.inj hp).symm
    rw [upd_ne this]; exact h⟩
theorem Sim.mut {φ : List Addr} {h : Hv} {H : Hp} (S : Sim K g φ h H) {n : Nat} {p : Addr} {u w : HO} {o : O} (hn : φ[n]? = some p) (hp : H p = some u) (hu : ∀ vs, u ≠ .tup vs) (hz : ∀ ob vs, u ≠ .frz ob vs)
    (r : RepO K g φ H o w) : Sim K g φ (h.set n o) (upd H p w) := by
  refine ⟨by simp [S.len], S.nd, fun m a ob e1 e2 => ?_⟩
  by_cases hm : m = n
  · subst hm
    rw [hn] at e1
    have ea : p = a := Option.some.inj e1
    subst ea
    have hl : m < h.length := by rw [← S.len]; exact (List.getElem?_eq_some_iff.mp hn).1
    rw [List.getElem?_set_self hl] at e2
    have eo : o = ob := Option.some.inj e2
    subst eo
    exact ⟨w, upd_same, r.mono (Le.mut hp hu hz)⟩
  · rw [List.getElem?_set_ne (Ne.symm hm)] at e2
    obtain ⟨v, h1, h2⟩ := S.obj m a ob e1 e2
    have na : a ≠ p := fun z => by
      subst z
      obtain ⟨l1, q1⟩ := List.getElem?_eq_some_iff.mp e1
      obtain ⟨l2, q2⟩ := List.getElem?_eq_some_iff.mp hn
      exact hm ((List.getElem_inj S.nd).mp (q1.trans q2.symm))
    exact ⟨v, by rw [upd_ne na]; exact h1, h2.mono (Le.mut hp hu hz)⟩

/-- slots -/
def EnvR (K : PySem.W.Frag) (φ : List Addr) (H : Hp) (ρ : Sl) (σ : L2.St) : Prop := ρ.length = σ.length ∧ ∀ (i : Nat) (x : D), ρ[i]? = some (some x) → ∃ v, σ[i]? = some (some v) ∧ Rep K φ H x v
theorem EnvR.mono {φ φ' : List Addr} {H H' : Hp} {ρ : Sl} {σ : L2.St} (le : Le K φ φ' H H') (e : EnvR K φ H ρ σ) : EnvR K φ' H' ρ σ :=
  ⟨e.1, fun i x h => let ⟨v, h1, h2⟩ := e.2 i x h; ⟨v, h1, Rep.mono le x v h2⟩⟩
theorem EnvR.set {φ : List Addr} {H : Hp} {ρ : Sl} {σ : L2.St} {x : D} {v : V} (e : EnvR K φ H ρ σ) (i : Nat) (r : Rep K φ H x v) : EnvR K φ H (ρ.set i (some x)) (σ.set i (some v)) := by
  refine ⟨by simp [e.1], fun j y h => ?_⟩
  by_cases hj : i = j
  · subst hj
    have hl : i < ρ.length := by
      have := (List.getElem?_eq_some_iff.mp h).1
      simpa using this
    rw [List.getElem?_set_self hl] at h
    have : x = y := by simpa using h
    subst this
    exact ⟨v, by rw [List.getElem?_set_self (by rw [← e.1]; exact hl)], r⟩
  · rw [List.getElem?_set_ne hj] at h
    obtain ⟨u, h1, h2⟩ := e.2 j y h
    exact ⟨u, by rw [List.getElem?_set_ne hj]; exact h1, h2⟩
theorem EnvR.unset {φ : List Addr} {H : Hp} {ρ : Sl} {σ : L2.St} (e : EnvR K φ H ρ σ) (i : Nat) (z : Option V) : EnvR K φ H (ρ.set i none) (σ.set i z) := by
  refine ⟨by simp [e.1], fun j y h => ?_⟩
  by_cases hj : i = j
  · subst hj
    by_cases hl : i < ρ.length
    · rw [List.getElem?_set_self hl] at h
      simp at h
    · rw [List.getElem?_eq_none (by simp; omega)] at h
      simp at h
  · rw [List.getElem?_set_ne hj] at h
    obtain ⟨u, h1, h2⟩ := e.2 j y h
    exact ⟨u, by rw [List.getElem?_set_ne hj]; exact h1, h2⟩

/-! ### what is wanted behind a result -/
def RepX (g : Nat → Addr) (φ : List Addr) (H : Hp) : Ex → Value → Option Addr → Prop
  | .own c none, cls, d => cls = .ref (g c) ∧ d = none
  | .own c (some n), cls, d => cls = .ref (g c) ∧ ∃ a, d = some a ∧ φ[n]? = some a
  | .row c k, cls, d => cls = .ref (g c) ∧ ∃ a, d = some a ∧ H a = some (.xd [("row", .int k)]) ∧ a ∉ φ
def Post {α β : Type} (K : PySem.W.Frag) (g : Nat → Addr) (RR : List Addr → Hp → α → β → Prop) (W : WX) (σ : L2.St) (φ : List Addr) (H : Hp) (r : R α) (Q : β → Hp → Prop) : Prop :=
  match r with
  | .ok a h' => ∀ φ' H' b, Le K φ φ' H H' → Sim K g φ' h' H' → RR φ' H' a b → Q b H'
  | .ex e h' => ∀ φ' H' c d, Le K φ φ' H H' → Sim K g φ' h' H' → RepX g φ' H' e c d → W c d σ H'
  | .no => False
theorem Post.mono {α β : Type} {RR : List Addr → Hp → α → β → Prop} {W : WX} {σ : L2.St} {φ φ' : List Addr} {H H' : Hp} {r : R α} {Q : β → Hp → Prop} (le : Le K φ φ' H H') (p : Post K g RR W σ φ H r Q) : Post K g RR W σ φ' H' r Q := by
  cases r with
  | ok a h' => exact fun φ2 H2 b l S q => p φ2 H2 b (le.trans l) S q
  | ex e h' => exact fun φ2 H2 c d l S q => p φ2 H2 c d (le.trans l) S q
  | no => exact p
theorem Post.bind {α β γ δ : Type} {RR : List Addr → Hp → α → β → Prop} {RS : List Addr → Hp → γ → δ → Prop} {W : WX} {σ : L2.St} {φ : List Addr} {H : Hp} {r : R α} {k : α → Hv → R γ} {Q : δ → Hp → Prop} {Q' : β → Hp → Prop}
    (p : Post K g RS W σ φ H (r.bind k) Q) (step : ∀ φ' H' a h' b, Le K φ φ' H H' → Sim K g φ' h' H' → RR φ' H' a b → Post K g RS W σ φ' H' (k a h') Q → Q' b H') : Post K g RR W σ φ H r Q' := by
  cases r with
  | ok a h' => exact fun φ2 H2 b l S q => step φ2 H2 a h' b l S q (Post.mono l p)
  | ex e h' => exact p
  | no => exact p
theorem Post.here {α β : Type} {RR : List Addr → Hp → α → β → Prop} {W : WX} {σ : L2.St} {φ : List Addr} {H : Hp} {a : α} {h : Hv} {b : β} {Q : β → Hp → Prop} (p : Post K g RR W σ φ H (.ok a h) Q) (S : Sim K g φ h H) (q : RR φ H a b) : Q b H :=
  p φ H b (Le.refl K) S q
abbrev RB : List Addr → Hp → Bool → Bool → Prop := fun _ _ a b => a = b
abbrev RI : List Addr → Hp → Option Int → Option Int → Prop := fun _ _ a b => a = b

abbrev DE := Sl → Hv → R D
abbrev DT := Sl → Hv → R Bool
abbrev DA := Sl → Hv → R (List D)
abbrev DO := Sl → Hv → R (Option Int)
abbrev DS := Sl → Hv → SR
abbrev DG := D → Sl → Option Sl
abbrev DGs := List D → Sl → Option Sl

def tE (K : PySem.W.Frag) (g : Nat → Addr) (W : WX) (d : DE) : TE := fun σ H Q => ∃ φ ρ h, Sim K g φ h H ∧ EnvR K φ H ρ σ ∧ Post K g (Rep K) W σ φ H (d ρ h) Q
def tT (K : PySem.W.Frag) (g : Nat → Addr) (W : WX) (d : DT) : TT := fun σ H Q => ∃ φ ρ h, Sim K g φ h H ∧ EnvR K φ H ρ σ ∧ Post K g RB W σ φ H (d ρ h) Q
def tA (K : PySem.W.Frag) (g : Nat → Addr) (W : WX) (d : DA) : TA := fun σ H Q => ∃ φ ρ h, Sim K g φ h H ∧ EnvR K φ H ρ σ ∧ Post K g (RepL K) W σ φ H (d ρ h) Q
def tO (K : PySem.W.Frag) (g : Nat → Addr) (W : WX) (d : DO) : TO := fun σ H Q => ∃ φ ρ h, Sim K g φ h H ∧ EnvR K φ H ρ σ ∧ Post K g RI W σ φ H (d ρ h) Q
/-- slots outside vs are as they were -/
def Off (vs : List Nat) (σ σ' : L2.St) : Prop := σ'.length = σ.length ∧ ∀ i, i ∉ vs → σ'[i]? = σ[i]?
theorem Off.refl {vs : List Nat} {σ : L2.St} : Off vs σ σ := ⟨rfl, fun _ _ => rfl⟩
theorem Off.trans {vs ws us : List Nat} {σ σ1 σ2 : L2.St} (a : Off vs σ σ1) (b : Off ws σ1 σ2) (h1 : ∀ i ∈ vs, i ∈ us) (h2 : ∀ i ∈ ws, i ∈ us) : Off us σ σ2 :=
  ⟨b.1.trans a.1, fun i h => (b.2 i fun z => h (h2 i z)).trans (a.2 i fun z => h (h1 i z))⟩
theorem Off.set {vs : List Nat} {σ : L2.St} {i : Nat} {z : Option V} (h : i ∈ vs) : Off vs σ (σ.set i z) :=
  ⟨by simp, fun j hj => List.getElem?_set_ne (fun e => hj (by subst e; exact h))⟩
def tG (K : PySem.W.Frag) (vs : List Nat) (d : DG) : TG := fun v σ H Q => ∃ φ ρ x ρ', EnvR K φ H ρ σ ∧ Rep K φ H x v ∧ d x ρ = some ρ' ∧ ∀ σ', EnvR K φ H ρ' σ' → Off vs σ σ' → Q σ' H
def tGs (K : PySem.W.Frag) (vs : List Nat) (d : DGs) : TGs := fun us σ H Q => ∃ φ ρ xs ρ', EnvR K φ H ρ σ ∧ RepL K φ H xs us ∧ d xs ρ = some ρ' ∧ ∀ σ', EnvR K φ H ρ' σ' → Off vs σ σ' → Q σ' H

def PostS (K : PySem.W.Frag) (g : Nat → Addr) (W : WX) (B : Ends) (φ : List Addr) (H : Hp) (r : SR) : Prop :=
  match r with
  | .nx ρ' h' => ∀ φ' H' σ', Le K φ φ' H H' → Sim K g φ' h' H' → EnvR K φ' H' ρ' σ' → B.nx σ' H'
  | .bk ρ' h' => ∀ φ' H' σ', Le K φ φ' H H' → Sim K g φ' h' H' → EnvR K φ' H' ρ' σ' → B.bk σ' H'
  | .ct ρ' h' => ∀ φ' H' σ', Le K φ φ' H H' → Sim K g φ' h' H' → EnvR K φ' H' ρ' σ' → B.ct σ' H'
  | .rt x h' => ∀ φ' H' v, Le K φ φ' H H' → Sim K g φ' h' H' → Rep K φ' H' x v → B.rt v H'
  | .ex e ρ' h' => ∀ φ' H' σ' c d, Le K φ φ' H H' → Sim K g φ' h' H' → EnvR K φ' H' ρ' σ' → RepX g φ' H' e c d → W c d σ' H'
  | .no => False
theorem PostS.mono {W : WX} {B : Ends} {φ φ' : List Addr} {H H' : Hp} {r : SR} (le : Le K φ φ' H H') (p : PostS K g W B φ H r) : PostS K g W B φ' H' r := by
  cases r with
  | nx ρ h => exact fun φ2 H2 σ2 l => p φ2 H2 σ2 (le.trans l)
  | bk ρ h => exact fun φ2 H2 σ2 l => p φ2 H2 σ2 (le.trans l)
  | ct ρ h => exact fun φ2 H2 σ2 l => p φ2 H2 σ2 (le.trans l)
  | rt x h => exact fun φ2 H2 v l => p φ2 H2 v (le.trans l)
  | ex e ρ h => exact fun φ2 H2 σ2 c d l => p φ2 H2 σ2 c d (le.trans l)
  | no => exact p
def tS (K : PySem.W.Frag) (g : Nat → Addr) (W : WX) (d : DS) : TS := fun B σ H => ∃ φ ρ h, Sim K g φ h H ∧ EnvR K φ H ρ σ ∧ PostS K g W B φ H (d ρ h)
/-- an expression's result, then a statement's -/
def SR.of {α : Type} (ρ : Sl) (r : R α) (k : α → Hv → SR) : SR := match r with
  | .ok a h => k a h
  | .ex e h => .ex e ρ h
  | .no => .no
@[simp] theorem SR.of_ok {α : Type} {ρ : Sl} {a : α} {h : Hv} {k : α → Hv → SR} : SR.of ρ (.ok a h) k = k a h := id rfl
@[simp] theorem SR.of_ex {α : Type} {ρ : Sl} {e : Ex} {h : Hv} {k : α → Hv → SR} : SR.of ρ (.ex e h) k = .ex e ρ h := id rfl
@[simp] theorem SR.of_no {α : Type} {ρ : Sl} {k : α → Hv → SR} : SR.of ρ .no k = .no := id rfl
theorem PostS.of {α β : Type} {RR : List Addr → Hp → α → β → Prop} {W : WX} {B : Ends} {σ : L2.St} {ρ : Sl} {φ : List Addr} {H : Hp} {r : R α} {k : α → Hv → SR} {Q' : β → Hp → Prop} (E : EnvR K φ H ρ σ)
    (p : PostS K g W B φ H (SR.of ρ r k)) (step : ∀ φ' H' a h' b, Le K φ φ' H H' → Sim K g φ' h' H' → EnvR K φ' H' ρ σ → RR φ' H' a b → PostS K g W B φ' H' (k a h') → Q' b H') : Post K g RR W σ φ H r Q' := by
  cases r with
  | ok a h' => exact fun φ2 H2 b l S q => step φ2 H2 a h' b l S (E.mono l) q (PostS.mono l p)
  | ex e h' => exact fun φ2 H2 c d l S q => p φ2 H2 σ c d l S (E.mono l) q
  | no => exact p

/-! ### judgements through a weaker reading -/
section
variable {X : Cx} {e : Expr} {es : List Expr} {st : Stmt} {sts : List Stmt}
theorem pe_imp {t t' : TE} (h : PE X e t) (f : ∀ σ H Q, t' σ H Q → t σ H Q) : PE X e t' := ⟨fun pins s σ H Q I q => h.run pins s σ H Q I (f σ H Q q)⟩
theorem pt_imp {t t' : TT} (h : PT X e t) (f : ∀ σ H Q, t' σ H Q → t σ H Q) : PT X e t' := ⟨fun pins s σ H Q I q => h.run pins s σ H Q I (f σ H Q q)⟩
theorem pw_imp {t t' : TT} (h : PW X e t) (f : ∀ σ H Q, t' σ H Q → t σ H Q) : PW X e t' := ⟨fun wh pins s σ H Q I q => h.run wh pins s σ H Q I (f σ H Q q)⟩
theorem pa_imp {t t' : TA} (h : PA X es t) (f : ∀ σ H Q, t' σ H Q → t σ H Q) : PA X es t' := ⟨fun pos pins s σ H Q I q => h.run pos pins s σ H Q I (f σ H Q q)⟩
theorem ps_imp {t t' : TS} (h : PS X st t) (f : ∀ B σ H, t' B σ H → t B σ H) : PS X st t' := ⟨fun pins s σ H B I q => h.run pins s σ H B I (f B σ H q)⟩
theorem pss_imp {t t' : TS} (h : PSs X sts t) (f : ∀ B σ H, t' B σ H → t B σ H) : PSs X sts t' := ⟨fun pins s σ H B I q => h.run pins s σ H B I (f B σ H q)⟩
theorem pg_imp {t t' : TG} (h : PG X e t) (f : ∀ v σ H Q, t' v σ H Q → t v σ H Q) : PG X e t' := ⟨fun pins s σ H v u Q I r q => h.run pins s σ H v u Q I r (f v σ H Q q)⟩
theorem pgs_imp {t t' : TGs} (h : PGs X es t) (f : ∀ v σ H Q, t' v σ H Q → t v σ H Q) : PGs X es t' := ⟨fun pins s σ H v u Q I r q => h.run pins s σ H v u Q I r (f v σ H Q q)⟩
theorem po_imp {o : Option Expr} {t t' : TO} (h : PO X o t) (f : ∀ σ H Q, t' σ H Q → t σ H Q) : PO X o t' := ⟨fun pins s σ H Q I q => h.run pins s σ H Q I (f σ H Q q)⟩
/-- one of two readings -/
theorem pe_or2 {t t' : TE} (h : PE X e t) (h' : PE X e t') : PE X e (fun σ H Q => t σ H Q ∨ t' σ H Q) := ⟨fun pins s σ H Q I q => q.elim (h.run pins s σ H Q I) (h'.run pins s σ H Q I)⟩
end
end
end DL

set_option Elab.async false
set_option linter.all false
set_option autoImplicit false
set_option maxRecDepth 100000
namespace DL
open PySem PySem.Spec PyProof.Rows L2

def cap : Nat := 1000000
theorem cap_le {n : Nat} (h : n ≤ cap) : n ≤ sizeLine := Nat.le_trans h (by decide)
theorem cap_lt {n : Nat} (h : n < cap) : n < sizeLine := Nat.lt_of_lt_of_le h (by decide)

/-! ### names and constants -/
def dVar (i : Nat) : DE := fun ρ h => match ρ[i]? with
  | some (some x) => .ok x h
  | _ => .no
def dC (x : D) : DE := fun _ h => .ok x h
section
variable {X : Cx} {g : Nat → Addr} {W : WX}
theorem de_var (i : Nat) {x : Str} {pos : Pos} (hN : X.N[i]? = some x := by rfl) (hv : Vis X.env.scope x := by first | exact Or.inl rfl | exact Or.inr (Or.inl rfl) | exact Or.inr (Or.inr rfl)) (hd : (x == ("__debug__" : Str)) = false := by decide)
    (hcd : (x == ("__classdict__" : Str)) = false := by decide) : PE X (.Name x pos) (tE X.K g W (dVar i)) := by
  refine pe_imp (pe_var hN hv hd hcd) fun σ H Q ⟨φ, ρ, h, S, E, p⟩ => ?_
  unfold dVar at p
  split at p
  · rename_i x hx
    obtain ⟨v, h1, h2⟩ := E.2 i x hx
    exact ⟨v, h1, p.here S h2⟩
  · exact p.elim
theorem tC_of {x : D} {v : V} (r : ∀ φ H, Rep X.K φ H x v) (σ : L2.St) (H : Hp) (Q : VK) (z : tE X.K g W (dC x) σ H Q) : tC v σ H Q := by
  obtain ⟨φ, ρ, h, S, E, p⟩ := z
  exact Post.here (show Post X.K g (Rep X.K) W σ φ H (.ok x h) Q from p) S (r φ H)
theorem de_int {i j pos} : PE X (.Constant (.int i) j pos) (tE X.K g W (dC (.int i))) := pe_imp pe_int (tC_of fun _ _ => rfl)
theorem de_bl {b j pos} : PE X (.Constant (.bool b) j pos) (tE X.K g W (dC (.bl b))) := pe_imp pe_bl (tC_of fun _ _ => rfl)
theorem de_non {j pos} : PE X (.Constant .none j pos) (tE X.K g W (dC .non)) := pe_imp pe_non (tC_of fun _ _ => rfl)
theorem de_str {x j pos} : PE X (.Constant (.str x) j pos) (tE X.K g W (dC (.str x))) := pe_imp pe_str (tC_of fun _ _ => rfl)
/-- a constant of the module -/
theorem de_glob {x : Str} {d : D} {v : V} {u : Value} {pos : Pos} (hm : X.mg x = some u) (r : RelV v u) (rd : ∀ φ H, Rep X.K φ H d v) (hg : Gl X x := by rfl) (hd : (x == ("__debug__" : Str)) = false := by decide) : PE X (.Name x pos) (tE X.K g W (dC d)) :=
  pe_imp (pe_glob hg hm r hd) (tC_of rd)
end

/-! ### operators on values -/
abbrev F2 := D → D → Hv → R D
def OpD (X : Cx) (g : Nat → Addr) (F : Value → Value → Sem Value) (f : F2) : Prop := ∃ r : R2, OpR X F r ∧
  ∀ (W : WX) (σ : L2.St) (φ : List Addr) (H : Hp) (h : Hv) (x y : D) (v u : V) (Q : VK), Sim X.K g φ h H → Rep X.K φ H x v → Rep X.K φ H y u → Post X.K g (Rep X.K) W σ φ H (f x y h) Q → r v u H Q
def dOp (f : F2) (a b : DE) : DE := fun ρ h => (a ρ h).bind fun x h1 => (b ρ h1).bind fun y h2 => f x y h2
def dB (a : DE) : DT := fun ρ h => (a ρ h).bind fun x h1 => match x with
  | .bl b => .ok b h1
  | _ => .no
section
variable {X : Cx} {g : Nat → Addr} {W : WX} {a b c : Expr} {da db dc : DE} {pos : Pos} {f : F2}
theorem tOp_of {r : R2} (hr : ∀ (W : WX) (σ : L2.St) (φ : List Addr) (H : Hp) (h : Hv) (x y : D) (v u : V) (Q : VK), Sim X.K g φ h H → Rep X.K φ H x v → Rep X.K φ H y u → Post X.K g (Rep X.K) W σ φ H (f x y h) Q → r v u H Q)
    (σ : L2.St) (H : Hp) (Q : VK) (z : tE X.K g W (dOp f da db) σ H Q) : tOp r (tE X.K g W da) (tE X.K g W db) σ H Q := by
  obtain ⟨φ, ρ, h, S, E, p⟩ := z
  refine ⟨φ, ρ, h, S, E, Post.bind p fun φ1 H1 x h1 v le1 S1 r1 p1 => ?_⟩
  refine ⟨φ1, ρ, h1, S1, E.mono le1, Post.bind p1 fun φ2 H2 y h2 u le2 S2 r2 p2 => ?_⟩
  exact hr W σ φ2 H2 h2 x y v u Q S2 (Rep.mono le2 x v r1) r2 p2
theorem de_op {op : Operator} (ho : OpD X g (binaryOp op) f) (ha : PE X a (tE X.K g W da)) (hb : PE X b (tE X.K g W db)) : PE X (.BinOp a op b pos) (tE X.K g W (dOp f da db)) := by
  obtain ⟨r, h1, h2⟩ := ho
  exact pe_imp (pe_op h1 ha hb) (tOp_of h2)
theorem de_cmp {op : CmpOp} (ho : OpD X g (compareOp op) f) (ha : PE X a (tE X.K g W da)) (hb : PE X b (tE X.K g W db)) (hm : behindInMarks op b = false := by first | rfl | exact nomark _) : PE X (.Compare a [op] [b] pos) (tE X.K g W (dOp f da db)) := by
  obtain ⟨r, h1, h2⟩ := ho
  exact pe_imp (pe_cmpR h1 ha hb hm) (tOp_of h2)
/-- a bool's value as a test's answer -/
theorem Post.truth {σ : L2.St} {φ : List Addr} {H : Hp} {x : D} {h : Hv} {Q : Bool → Hp → Prop} (p : Post X.K g RB W σ φ H (match x with | .bl b => .ok b h | _ => .no) Q) {v : V} (S : Sim X.K g φ h H) (r : Rep X.K φ H x v) : ∃ k, v = .bl k ∧ Q k H := by
  cases x with
  | bl b => exact ⟨b, r, Post.here (show Post X.K g RB W σ φ H (.ok b h) Q from p) S rfl⟩
  | non => exact p.elim
  | int _ => exact p.elim
  | str _ => exact p.elim
  | tup _ => exact p.elim
  | ref _ => exact p.elim
  | key _ => exact p.elim
  | rol _ => exact p.elim
  | adr _ => exact p.elim
theorem dB_of (σ : L2.St) (H : Hp) (Q : Bool → Hp → Prop) (z : tT X.K g W (dB da) σ H Q) : tE X.K g W da σ H fun v H1 => ∃ k, v = .bl k ∧ Q k H1 := by
  obtain ⟨φ, ρ, h, S, E, p⟩ := z
  exact ⟨φ, ρ, h, S, E, Post.bind p fun φ1 H1 x h1 v le1 S1 r1 p1 => Post.truth p1 S1 r1⟩
theorem dt_cmp {op : CmpOp} (ho : OpD X g (compareOp op) f) (ha : PE X a (tE X.K g W da)) (hb : PE X b (tE X.K g W db)) (hm : behindInMarks op b = false := by first | rfl | exact nomark _) : PT X (.Compare a [op] [b] pos) (tT X.K g W (dB (dOp f da db))) := by
  obtain ⟨r, h1, h2⟩ := ho
  refine pt_imp (pt_cmpR h1 ha hb hm) fun σ H Q z => ?_
  obtain ⟨φ, ρ, h, S, E, p⟩ := z
  have p' : Post X.K g RB W σ φ H ((da ρ h).bind fun x h1 => ((db ρ h1).bind fun y h2 => f x y h2).bind fun x h1 => match x with | .bl b => .ok b h1 | _ => .no) Q := by
    have e : dB (dOp f da db) ρ h = ((da ρ h).bind fun x h1 => ((db ρ h1).bind fun y h2 => f x y h2).bind fun x h1 => match x with | .bl b => .ok b h1 | _ => .no) := by
      unfold dB dOp
      cases da ρ h <;> rfl
    rw [← e]
    exact p
  refine ⟨φ, ρ, h, S, E, Post.bind p' fun φ1 H1 x h1' v le1 S1 r1 p1 => ?_⟩
  have p1' : Post X.K g RB W σ φ1 H1 ((db ρ h1').bind fun y h2 => (f x y h2).bind fun x h1 => match x with | .bl b => .ok b h1 | _ => .no) Q := by
    cases e : db ρ h1' <;> (rw [e] at p1; exact p1)
  refine ⟨φ1, ρ, h1', S1, E.mono le1, Post.bind p1' fun φ2 H2 y h2' u le2 S2 r2 p2 => ?_⟩
  refine h2 W σ φ2 H2 h2' x y v u _ S2 (Rep.mono le2 x v r1) r2 (Post.bind p2 fun φ3 H3 x3 h3 v3 le3 S3 r3 p3 => Post.truth p3 S3 r3)
theorem dt_val {e : Expr} {d : DE} (he : PE X e (tE X.K g W d)) (ht : ∀ whole, isTrue e X.env whole = (do let v ← whole; standAt e.pos; holding [v] (truthy v)) := by intro _; rfl) : PT X e (tT X.K g W (dB d)) :=
  pt_imp (pt_val he ht) fun σ H Q z => dB_of σ H Q z
end

/-! ### and, or, not, if else -/
def dNot (t : DT) : DT := fun ρ h => (t ρ h).bind fun b h1 => .ok (!b) h1
def dAnd (t u : DT) : DT := fun ρ h => (t ρ h).bind fun b h1 => if b = true then u ρ h1 else .ok false h1
def dOr (t u : DT) : DT := fun ρ h => (t ρ h).bind fun b h1 => if b = true then .ok true h1 else u ρ h1
def dNotV (t : DE) : DE := fun ρ h => (t ρ h).bind fun x h1 => match x with
  | .bl b => .ok (.bl (!b)) h1
  | _ => .no
def dAndV (t u : DE) : DE := fun ρ h => (t ρ h).bind fun x h1 => match x with
  | .bl b => if b = true then u ρ h1 else .ok (.bl false) h1
  | _ => .no
def dOrV (t u : DE) : DE := fun ρ h => (t ρ h).bind fun x h1 => match x with
  | .bl b => if b = true then .ok (.bl true) h1 else u ρ h1
  | _ => .no
def dIfE (t : DT) (a b : DE) : DE := fun ρ h => (t ρ h).bind fun c h1 => if c = true then a ρ h1 else b ρ h1
section
variable {X : Cx} {g : Nat → Addr} {W : WX} {a b c : Expr} {rest : List Expr} {da db : DE} {ta tb : DT} {pos : Pos}
theorem dt_not (ha : PT X a (tT X.K g W ta)) : PT X (.UnaryOp .Not a pos) (tT X.K g W (dNot ta)) := by
  refine pt_imp (pt_not ha) fun σ H Q ⟨φ, ρ, h, S, E, p⟩ => ?_
  exact ⟨φ, ρ, h, S, E, Post.bind p fun φ1 H1 b h1 k le1 S1 r1 p1 => by cases r1; exact Post.here (show Post X.K g RB W σ φ1 H1 (.ok (!b) h1) Q from p1) S1 rfl⟩
theorem dw_one {op : BoolOp} (ha : PT X a (tT X.K g W ta)) : PW X (.BoolOp op [a] pos) (tT X.K g W ta) := by
  cases op with
  | And => exact pw_and1 ha
  | Or => exact pw_or1 ha
theorem dw_and (ha : PT X a (tT X.K g W ta)) (hb : PW X (.BoolOp .And (b :: rest) pos) (tT X.K g W tb)) : PW X (.BoolOp .And (a :: b :: rest) pos) (tT X.K g W (dAnd ta tb)) := by
  refine pw_imp (pw_and ha hb) fun σ H Q ⟨φ, ρ, h, S, E, p⟩ => ?_
  refine ⟨φ, ρ, h, S, E, Post.bind p fun φ1 H1 b h1 k le1 S1 r1 p1 => ?_⟩
  cases r1
  cases b with
  | true => exact ⟨φ1, ρ, h1, S1, E.mono le1, p1⟩
  | false => exact Post.here (show Post X.K g RB W σ φ1 H1 (.ok false h1) Q from p1) S1 rfl
theorem dw_or (ha : PT X a (tT X.K g W ta)) (hb : PW X (.BoolOp .Or (b :: rest) pos) (tT X.K g W tb)) : PW X (.BoolOp .Or (a :: b :: rest) pos) (tT X.K g W (dOr ta tb)) := by
  refine pw_imp (pw_or ha hb) fun σ H Q ⟨φ, ρ, h, S, E, p⟩ => ?_
  refine ⟨φ, ρ, h, S, E, Post.bind p fun φ1 H1 b h1 k le1 S1 r1 p1 => ?_⟩
  cases r1
  cases b with
  | true => exact Post.here (show Post X.K g RB W σ φ1 H1 (.ok true h1) Q from p1) S1 rfl
  | false => exact ⟨φ1, ρ, h1, S1, E.mono le1, p1⟩
theorem dt_w (h : PW X a (tT X.K g W ta)) : PT X a (tT X.K g W ta) := h.pt
/-- a bool's value, going on by it -/
theorem Post.truthE {σ : L2.St} {φ : List Addr} {H : Hp} {x : D} {h : Hv} {k : Bool → R D} {Q : VK} (p : Post X.K g (Rep X.K) W σ φ H (match x with | .bl b => k b | _ => .no) Q) {v : V} (r : Rep X.K φ H x v) : ∃ b, v = .bl b ∧ Post X.K g (Rep X.K) W σ φ H (k b) Q := by
  cases x with
  | bl b => exact ⟨b, r, p⟩
  | non => exact p.elim
  | int _ => exact p.elim
  | str _ => exact p.elim
  | tup _ => exact p.elim
  | ref _ => exact p.elim
  | key _ => exact p.elim
  | rol _ => exact p.elim
  | adr _ => exact p.elim
theorem de_not (ha : PE X a (tE X.K g W da)) : PE X (.UnaryOp .Not a pos) (tE X.K g W (dNotV da)) := by
  refine pe_imp (pe_not ha) fun σ H Q ⟨φ, ρ, h, S, E, p⟩ => ?_
  refine ⟨φ, ρ, h, S, E, Post.bind p fun φ1 H1 x h1 v le1 S1 r1 p1 => ?_⟩
  obtain ⟨b, rfl, p2⟩ := Post.truthE (k := fun b => .ok (.bl (!b)) h1) (h := h1) p1 r1
  exact ⟨b, rfl, Post.here p2 S1 rfl⟩
theorem de_one {op : BoolOp} (ha : PE X a (tE X.K g W da)) : PE X (.BoolOp op [a] pos) (tE X.K g W da) := pe_one ha
theorem de_and (ha : PE X a (tE X.K g W da)) (hb : PE X (.BoolOp .And (b :: rest) pos) (tE X.K g W db)) : PE X (.BoolOp .And (a :: b :: rest) pos) (tE X.K g W (dAndV da db)) := by
  refine pe_imp (pe_and ha hb) fun σ H Q ⟨φ, ρ, h, S, E, p⟩ => ?_
  refine ⟨φ, ρ, h, S, E, Post.bind p fun φ1 H1 x h1 v le1 S1 r1 p1 => ?_⟩
  obtain ⟨b, rfl, p2⟩ := Post.truthE (k := fun b => if b = true then db ρ h1 else .ok (.bl false) h1) (h := h1) p1 r1
  refine ⟨b, rfl, ?_⟩
  cases b with
  | true => exact ⟨φ1, ρ, h1, S1, E.mono le1, p2⟩
  | false => exact Post.here (show Post X.K g (Rep X.K) W σ φ1 H1 (.ok (.bl false) h1) Q from p2) S1 rfl
theorem de_or (ha : PE X a (tE X.K g W da)) (hb : PE X (.BoolOp .Or (b :: rest) pos) (tE X.K g W db)) : PE X (.BoolOp .Or (a :: b :: rest) pos) (tE X.K g W (dOrV da db)) := by
  refine pe_imp (pe_or ha hb) fun σ H Q ⟨φ, ρ, h, S, E, p⟩ => ?_
  refine ⟨φ, ρ, h, S, E, Post.bind p fun φ1 H1 x h1 v le1 S1 r1 p1 => ?_⟩
  obtain ⟨b, rfl, p2⟩ := Post.truthE (k := fun b => if b = true then .ok (.bl true) h1 else db ρ h1) (h := h1) p1 r1
  refine ⟨b, rfl, ?_⟩
  cases b with
  | true => exact Post.here (show Post X.K g (Rep X.K) W σ φ1 H1 (.ok (.bl true) h1) Q from p2) S1 rfl
  | false => exact ⟨φ1, ρ, h1, S1, E.mono le1, p2⟩
theorem de_if (hc : PT X c (tT X.K g W ta)) (ha : PE X a (tE X.K g W da)) (hb : PE X b (tE X.K g W db)) : PE X (.IfExp c a b pos) (tE X.K g W (dIfE ta da db)) := by
  refine pe_imp (pe_ifExp hc ha hb) fun σ H Q ⟨φ, ρ, h, S, E, p⟩ => ?_
  refine ⟨φ, ρ, h, S, E, Post.bind p fun φ1 H1 x h1 v le1 S1 r1 p1 => ?_⟩
  cases r1
  cases x with
  | true => exact ⟨φ1, ρ, h1, S1, E.mono le1, p1⟩
  | false => exact ⟨φ1, ρ, h1, S1, E.mono le1, p1⟩
end

/-! ### a < b < c -/
def dChain (f f' : F2) (a b c : DE) : DE := fun ρ h => (a ρ h).bind fun x h1 => (b ρ h1).bind fun y h2 => (f x y h2).bind fun z h3 => match z with
  | .bl k => if k = true then (c ρ h3).bind fun w h4 => f' y w h4 else .ok (.bl false) h3
  | _ => .no
section
variable {X : Cx} {g : Nat → Addr} {W : WX} {a b c : Expr} {da db dc : DE} {pos : Pos} {f f' : F2}
theorem de_chain {op op' : CmpOp} (ho : OpD X g (compareOp op) f) (ho' : OpD X g (compareOp op') f') (ha : PE X a (tE X.K g W da)) (hb : PE X b (tE X.K g W db)) (hc : PE X c (tE X.K g W dc))
    (hm : lastMarks [op, op'] [b, c] = false := by with_unfolding_all rfl) : PE X (.Compare a [op, op'] [b, c] pos) (tE X.K g W (dChain f f' da db dc)) := by
  obtain ⟨r, h1, h2⟩ := ho
  obtain ⟨r', h1', h2'⟩ := ho'
  refine pe_imp (pe_chain h1 h1' ha hb hc hm) fun σ H Q ⟨φ, ρ, h, S, E, p⟩ => ?_
  refine ⟨φ, ρ, h, S, E, Post.bind p fun φ1 H1 x h1 v le1 S1 r1 p1 => ?_⟩
  refine ⟨φ1, ρ, h1, S1, E.mono le1, Post.bind p1 fun φ2 H2 y h2 u le2 S2 r2 p2 => ?_⟩
  refine (by assumption : ∀ (W : WX) (σ : L2.St) (φ : List Addr) (H : Hp) (h : Hv) (x y : D) (v u : V) (Q : VK), Sim X.K g φ h H → Rep X.K φ H x v → Rep X.K φ H y u → Post X.K g (Rep X.K) W σ φ H (f x y h) Q → r v u H Q) W σ φ2 H2 h2 x y v u _ S2 (Rep.mono le2 x v r1) r2 (Post.bind p2 fun φ3 H3 z h3 w le3 S3 r3 p3 => ?_)
  obtain ⟨k, rfl, p4⟩ := Post.truthE (k := fun k => if k = true then (dc ρ h3).bind fun w h4 => f' y w h4 else .ok (.bl false) h3) (h := h3) p3 r3
  refine ⟨k, rfl, ?_⟩
  cases k with
  | true =>
    rw [if_pos rfl]
    rw [if_pos rfl] at p4
    refine ⟨φ3, ρ, h3, S3, E.mono ((le1.trans le2).trans le3), Post.bind p4 fun φ4 H4 w4 h4 u4 le4 S4 r4 p5 => ?_⟩
    exact h2' W σ φ4 H4 h4 y w4 u u4 Q S4 (Rep.mono (le3.trans le4) y u r2) r4 p5
  | false =>
    rw [if_neg Bool.false_ne_true]
    rw [if_neg Bool.false_ne_true] at p4
    exact Post.here p4 S3 rfl
end

section
variable {X : Cx} {g : Nat → Addr} {W : WX} {a b c : Expr} {da db dc : DE} {pos : Pos} {f f' : F2}
theorem dt_chain {op op' : CmpOp} (ho : OpD X g (compareOp op) f) (ho' : OpD X g (compareOp op') f') (ha : PE X a (tE X.K g W da)) (hb : PE X b (tE X.K g W db)) (hc : PE X c (tE X.K g W dc))
    (hm : lastMarks [op, op'] [b, c] = false := by with_unfolding_all rfl) : PT X (.Compare a [op, op'] [b, c] pos) (tT X.K g W (dB (dChain f f' da db dc))) := by
  obtain ⟨r, o1, o2⟩ := ho
  obtain ⟨r', o1', o2'⟩ := ho'
  refine pt_imp (pt_chain o1 o1' ha hb hc hm) fun σ H Q z => ?_
  obtain ⟨φ, ρ, h, S, E, p⟩ := dB_of σ H Q z
  refine ⟨φ, ρ, h, S, E, Post.bind p fun φ1 H1 x h1 v le1 S1 r1 p1 => ?_⟩
  refine ⟨φ1, ρ, h1, S1, E.mono le1, Post.bind p1 fun φ2 H2 y h2 u le2 S2 r2 p2 => ?_⟩
  refine o2 W σ φ2 H2 h2 x y v u _ S2 (Rep.mono le2 x v r1) r2 (Post.bind p2 fun φ3 H3 z h3 w le3 S3 r3 p3 => ?_)
  obtain ⟨k, rfl, p4⟩ := Post.truthE (k := fun k => if k = true then (dc ρ h3).bind fun w h4 => f' y w h4 else .ok (.bl false) h3) (h := h3) p3 r3
  refine ⟨k, rfl, ?_⟩
  cases k with
  | true =>
    rw [if_pos rfl]
    rw [if_pos rfl] at p4
    refine ⟨φ3, ρ, h3, S3, E.mono ((le1.trans le2).trans le3), Post.bind p4 fun φ4 H4 w4 h4 u4 le4 S4 r4 p5 => ?_⟩
    exact o2' W σ φ4 H4 h4 y w4 u u4 _ S4 (Rep.mono (le3.trans le4) y u r2) r4 p5
  | false =>
    rw [if_neg Bool.false_ne_true]
    rw [if_neg Bool.false_ne_true] at p4
    exact Post.here p4 S3 rfl
end

/-! ### numbers -/
def iop (c : Int → Int → Bool) (G : Int → Int → D) : F2
  | .int i, .int j, h => if c i j = true then .ok (G i j) h else .no
  | _, _, _ => .no
theorem opd_int {X : Cx} {g : Nat → Addr} {F : Value → Value → Sem Value} {C : Int → Int → Prop} {G : Int → Int → V} {c : Int → Int → Bool} {G' : Int → Int → D} (ho : OpR X F (rI C G)) (hc : ∀ i j, c i j = true → C i j)
    (hG : ∀ φ H i j, Rep X.K φ H (G' i j) (G i j)) : OpD X g F (iop c G') := by
  refine ⟨_, ho, fun W σ φ H h x y v u Q S rx ry p => ?_⟩
  unfold iop at p
  split at p
  · rename_i i j
    split at p
    · rename_i hij
      exact ⟨i, j, rx, ry, hc i j hij, p.here S (hG φ H i j)⟩
    · exact p.elim
  · exact p.elim
theorem opd_int0 {X : Cx} {g : Nat → Addr} {F : Value → Value → Sem Value} {G : Int → Int → V} {G' : Int → Int → D} (ho : OpR X F (rI0 G))
    (hG : ∀ φ H i j, Rep X.K φ H (G' i j) (G i j)) : OpD X g F (iop (fun _ _ => true) G') := by
  refine ⟨_, ho, fun W σ φ H h x y v u Q S rx ry p => ?_⟩
  unfold iop at p
  split at p
  · rename_i i j
    exact ⟨i, j, rx, ry, Post.here (show Post X.K g (Rep X.K) W σ φ H (.ok (G' i j) h) Q from p) S (hG φ H i j)⟩
  · exact p.elim
/-- one of two -/
theorem OpD.or {X : Cx} {g : Nat → Addr} {F : Value → Value → Sem Value} {f f1 f2 : F2} (h1 : OpD X g F f1) (h2 : OpD X g F f2) (hf : ∀ x y h, f x y h = f1 x y h ∨ f x y h = f2 x y h ∨ f x y h = .no) : OpD X g F f := by
  obtain ⟨r1, o1, p1⟩ := h1
  obtain ⟨r2, o2, p2⟩ := h2
  refine ⟨_, OpR.or o1 o2, fun W σ φ H h x y v u Q S rx ry p => ?_⟩
  rcases hf x y h with e | e | e
  · rw [e] at p
    exact .inl (p1 W σ φ H h x y v u Q S rx ry p)
  · rw [e] at p
    exact .inr (p2 W σ φ H h x y v u Q S rx ry p)
  · rw [e] at p
    exact p.elim

def fSub : F2 := iop (fun _ _ => true) fun i j => .int (i - j)
def mulC (i j : Int) : Bool := decide (i.natAbs.log2 + j.natAbs.log2 < 134000000)
def fMulI : F2 := iop mulC fun i j => .int (i * j)
def divC (i j : Int) : Bool := decide (j ≠ 0) && !Builtin.divisionGoesByPylong i j
def fDiv : F2 := iop divC fun i j => .int (i.fdiv j)
def fMod : F2 := iop (fun _ j => decide (j ≠ 0)) fun i j => .int (i.fmod j)
def fPow : F2 := iop (fun i j => decide (0 ≤ j) && decide (j ≤ 1000) && decide (i.natAbs < 2 ^ 64)) fun i j => .int (i ^ j.toNat)
def fShl : F2 := iop (fun i j => decide (0 ≤ j) && decide (j ≤ 1000) && decide (i.natAbs < 2 ^ 64)) fun i j => .int (i * 2 ^ j.toNat)
def fShr : F2 := iop (fun _ j => decide (0 ≤ j)) fun i j => .int (i / 2 ^ j.toNat)
def fAnd1 : F2 := iop (fun i j => decide (0 ≤ i) && decide (j = 1)) fun i _ => .int (i % 2)
def fLt : F2 := iop (fun _ _ => true) fun i j => .bl (decide (i < j))
def fLe : F2 := iop (fun _ _ => true) fun i j => .bl (decide (i ≤ j))
def fGt : F2 := iop (fun _ _ => true) fun i j => .bl (decide (j < i))
def fGe : F2 := iop (fun _ _ => true) fun i j => .bl (decide (j ≤ i))
section
variable {X : Cx} {g : Nat → Addr}
theorem o_sub : OpD X g (binaryOp .Sub) fSub := opd_int0 op_sub fun _ _ _ _ => rfl
theorem mulC_ok {i j : Int} (h : mulC i j = true) : CMulX i j := by
  have h' := of_decide_eq_true h
  have b : ∀ x : Int, Builtin.Int.intBits x ≤ x.natAbs.log2 + 1 := fun x => by
    unfold Builtin.Int.intBits
    split <;> omega
  have h1 := b i
  have h2 := b j
  unfold CMulX
  omega
theorem o_mulI : OpD X g (binaryOp .Mult) fMulI := opd_int op_mulX (fun i j h => mulC_ok h) fun _ _ _ _ => rfl
theorem op_fdivX : OpR X (binaryOp .FloorDiv) (rI (fun i j => j ≠ 0 ∧ Builtin.divisionGoesByPylong i j = false) fun i j => .int (i.fdiv j)) := opI fun _ _ _ _ _ _ _ hc q => floordiv_int hc.1 q (.inl hc.2)
theorem o_div : OpD X g (binaryOp .FloorDiv) fDiv := opd_int op_fdivX (fun i j h => by
  unfold divC at h
  simpa using h) fun _ _ _ _ => rfl
theorem o_mod : OpD X g (binaryOp .Mod) fMod := opd_int op_modN (fun i j h => of_decide_eq_true h) fun _ _ _ _ => rfl
theorem o_pow : OpD X g (binaryOp .Pow) fPow := opd_int op_pow (fun i j h => by
  simp only [Bool.and_eq_true, decide_eq_true_eq] at h
  exact ⟨h.1.1, by omega, h.2⟩) fun _ _ _ _ => rfl
theorem o_shl : OpD X g (binaryOp .LShift) fShl := opd_int op_shl (fun i j h => by
  simp only [Bool.and_eq_true, decide_eq_true_eq] at h
  exact ⟨h.1.1, by omega, h.2⟩) fun _ _ _ _ => rfl
theorem o_shr : OpD X g (binaryOp .RShift) fShr := opd_int op_shr (fun i j h => of_decide_eq_true h) fun _ _ _ _ => rfl
theorem o_and1 : OpD X g (binaryOp .BitAnd) fAnd1 := by
  refine ⟨_, op_odd, fun W σ φ H h x y v u Q S rx ry p => ?_⟩
  unfold fAnd1 iop at p
  split at p
  · rename_i i j
    split at p
    · rename_i hij
      simp only [Bool.and_eq_true, decide_eq_true_eq] at hij
      obtain ⟨h0, rfl⟩ := hij
      obtain ⟨n, rfl⟩ := Int.eq_ofNat_of_zero_le h0
      refine ⟨n, rx, ry, p.here S ?_⟩
      show V.int ((n % 2 : Nat) : Int) = V.int ((n : Int) % 2)
      rfl
    · exact p.elim
  · exact p.elim
theorem o_lt : OpD X g (compareOp .Lt) fLt := opd_int0 op_lt fun _ _ _ _ => rfl
theorem o_le : OpD X g (compareOp .LtE) fLe := opd_int0 op_le fun _ _ _ _ => rfl
theorem o_gt : OpD X g (compareOp .Gt) fGt := opd_int0 op_gt fun _ _ _ _ => rfl
theorem o_ge : OpD X g (compareOp .GtE) fGe := opd_int0 op_ge fun _ _ _ _ => rfl
end
def fUn (G : Int → Int) : D → Hv → R D
  | .int i, h => .ok (.int (G i)) h
  | _, _ => .no
def dNeg (a : DE) : DE := fun ρ h => (a ρ h).bind (fUn fun i => -i)
theorem de_neg {X : Cx} {g : Nat → Addr} {W : WX} {a : Expr} {da : DE} {pos : Pos} (ha : PE X a (tE X.K g W da)) : PE X (.UnaryOp .USub a pos) (tE X.K g W (dNeg da)) := by
  refine pe_imp (pe_un un_neg ha) fun σ H Q ⟨φ, ρ, h, S, E, p⟩ => ?_
  refine ⟨φ, ρ, h, S, E, Post.bind p fun φ1 H1 x h1 v le1 S1 r1 p1 => ?_⟩
  unfold fUn at p1
  split at p1
  · exact ⟨_, r1, p1.here S1 rfl⟩
  · exact p1.elim

/-! ### argument lists, tuples, lists -/
def aNil : DA := fun _ h => .ok [] h
def aCons (a : DE) (r : DA) : DA := fun ρ h => (a ρ h).bind fun x h1 => (r ρ h1).bind fun xs h2 => .ok (x :: xs) h2
def dTup (a : DA) : DE := fun ρ h => (a ρ h).bind fun xs h1 => if xs.length ≤ cap then .ok (.tup xs) h1 else .no
def dLst (a : DA) : DE := fun ρ h => (a ρ h).bind fun xs h1 => if xs.length ≤ cap then .ok (.ref h1.length) (h1 ++ [.lst xs]) else .no
def keysOf : List D → Option (List Key)
  | [] => some []
  | .int i :: r => (keysOf r).map (Sum.inl i :: ·)
  | _ => none
def dKey (a : DA) : DE := fun ρ h => (a ρ h).bind fun xs h1 => match keysOf xs with
  | some ks => if ks.length ≤ cap then .ok (.key ks) h1 else .no
  | none => .no
theorem keysOf_rep {K : PySem.W.Frag} {φ : List Addr} {H : Hp} : ∀ {xs : List D} {ks : List Key} {vs : List V}, keysOf xs = some ks → RepL K φ H xs vs → vs = ks.map kV
  | [], ks, vs, e, r => by cases (show _ = _ from e); exact r
  | .int i :: r, ks, vs, e, ⟨v, q, e1, h1, h2⟩ => by
    unfold keysOf at e
    cases z : keysOf r with
    | none => rw [z] at e; cases e
    | some ks' =>
      rw [z] at e
      cases (show _ = _ from e)
      subst e1
      cases (show _ = _ from h1)
      rw [keysOf_rep z h2]
      rfl
  | .non :: r, ks, vs, e, _ => by cases e
  | .bl _ :: r, ks, vs, e, _ => by cases e
  | .str _ :: r, ks, vs, e, _ => by cases e
  | .tup _ :: r, ks, vs, e, _ => by cases e
  | .ref _ :: r, ks, vs, e, _ => by cases e
  | .key _ :: r, ks, vs, e, _ => by cases e
  | .rol _ :: r, ks, vs, e, _ => by cases e
section
variable {X : Cx} {g : Nat → Addr} {W : WX} {e : Expr} {es : List Expr} {d : DE} {da : DA} {pos : Pos}
theorem Post.newTup {σ : L2.St} {φ : List Addr} {H : Hp} {xs : List D} {vs : List V} {h : Hv} {Q : VK} (p : Post X.K g (Rep X.K) W σ φ H (.ok (.tup xs) h) Q) (S : Sim X.K g φ h H) (r : RepL X.K φ H xs vs) {q : Addr} (hq : H q = none) : Q (.ref q) (upd H q (.tup vs)) :=
  p φ _ _ (Le.newT hq) (S.newT hq) ⟨q, vs, rfl, SqT.of upd_same, RepL.mono (Le.newT hq) xs vs r⟩
theorem Post.newLst {σ : L2.St} {φ : List Addr} {H : Hp} {xs : List D} {vs : List V} {h : Hv} {Q : VK} (p : Post X.K g (Rep X.K) W σ φ H (.ok (.ref h.length) (h ++ [.lst xs])) Q) (S : Sim X.K g φ h H) (r : RepL X.K φ H xs vs) {q : Addr} (hq : H q = none) : Q (.ref q) (upd H q (.lst vs)) :=
  p (φ ++ [q]) _ _ (Le.newO hq) (S.newO hq (.lst r)) ⟨q, rfl, newO_get S⟩
theorem da_nil : PA X [] (tA X.K g W aNil) := pa_imp pa_nil fun σ H Q ⟨φ, ρ, h, S, E, p⟩ => Post.here (show Post X.K g (RepL X.K) W σ φ H (.ok [] h) Q from p) S rfl
theorem da_cons (he : PE X e (tE X.K g W d)) (hr : PA X es (tA X.K g W da)) (hs : starEach (e :: es) X.env = (false, eval e X.env) :: starEach es X.env := by rfl) : PA X (e :: es) (tA X.K g W (aCons d da)) := by
  refine pa_imp (pa_cons he hr hs) fun σ H Q ⟨φ, ρ, h, S, E, p⟩ => ?_
  refine ⟨φ, ρ, h, S, E, Post.bind p fun φ1 H1 x h1 v le1 S1 r1 p1 => ?_⟩
  refine ⟨φ1, ρ, h1, S1, E.mono le1, Post.bind p1 fun φ2 H2 xs h2 vs le2 S2 r2 p2 => ?_⟩
  exact p2.here S2 ⟨v, vs, rfl, Rep.mono le2 x v r1, r2⟩
theorem de_tup {k : Nat} (ha : PA X es (tA X.K g W da)) : PE X (.Tuple es k pos) (tE X.K g W (dTup da)) := by
  refine pe_imp (pe_tup ha) fun σ H Q ⟨φ, ρ, h, S, E, p⟩ => ?_
  refine ⟨φ, ρ, h, S, E, Post.bind p fun φ1 H1 xs h1 vs le1 S1 r1 p1 => ?_⟩
  split at p1
  · rename_i hc
    exact ⟨by rw [RepL.length r1]; exact cap_le hc, fun q hq => p1.newTup S1 r1 hq⟩
  · exact p1.elim
theorem de_key {k : Nat} (ha : PA X es (tA X.K g W da)) : PE X (.Tuple es k pos) (tE X.K g W (dKey da)) := by
  refine pe_imp (pe_tup ha) fun σ H Q ⟨φ, ρ, h, S, E, p⟩ => ?_
  refine ⟨φ, ρ, h, S, E, Post.bind p fun φ1 H1 xs h1 vs le1 S1 r1 p1 => ?_⟩
  split at p1
  · rename_i ks hk
    split at p1
    · rename_i hc
      have ev := keysOf_rep hk r1
      subst ev
      exact ⟨by rw [List.length_map]; exact cap_le hc, fun q hq => p1 φ1 _ _ (Le.newT hq) (S1.newT hq) ⟨q, rfl, upd_same⟩⟩
    · exact p1.elim
  · exact p1.elim
theorem de_lst (ha : PA X es (tA X.K g W da)) : PE X (.List es pos) (tE X.K g W (dLst da)) := by
  refine pe_imp (pe_lst ha) fun σ H Q ⟨φ, ρ, h, S, E, p⟩ => ?_
  refine ⟨φ, ρ, h, S, E, Post.bind p fun φ1 H1 xs h1 vs le1 S1 r1 p1 => ?_⟩
  split at p1
  · rename_i hc
    exact ⟨by rw [RepL.length r1]; exact cap_le hc, fun q hq => p1.newLst S1 r1 hq⟩
  · exact p1.elim
end

/-! ### things read -/
/-- a list's items, whether it may change or not; a tuple's -/
def lstAt (h : Hv) (n : Nat) : Option (List D) := match h[n]? with
  | some (.lst xs) => some xs
  | _ => none
def itemsOf (h : Hv) : D → Option (List D)
  | .ref n => lstAt h n
  | .tup xs => some xs
  | .key ks => some (ks.map fun k => match k with | .inl i => D.int i | .inr x => D.str x)
  | .rol ns => some (ns.map D.int)
  | _ => none
theorem ints_rep {K : PySem.W.Frag} {φ : List Addr} {H : Hp} : ∀ ns : List Int, RepL K φ H (ns.map D.int) (ns.map V.int)
  | [] => rfl
  | i :: r => ⟨_, _, rfl, rfl, ints_rep r⟩
section
variable {K : PySem.W.Frag} {g : Nat → Addr} {φ : List Addr} {h : Hv} {H : Hp}
theorem lstAt_rep (S : Sim K g φ h H) {n : Nat} {xs : List D} (e : lstAt h n = some xs) {v : V} (r : Rep K φ H (.ref n) v) : ∃ a vs, v = .ref a ∧ SqL K H a vs ∧ RepL K φ H xs vs := by
  obtain ⟨a, rfl, ha⟩ := r
  unfold lstAt at e
  split at e
  · rename_i ys hy
    cases (show _ = _ from e)
    obtain ⟨u, h1, h2⟩ := S.obj n a _ ha hy
    cases h2 with
    | lst r => exact ⟨a, _, rfl, SqL.of h1, r⟩
  · cases e
theorem key_items : ∀ (ks : List Key), RepL K φ H (ks.map fun k => match k with | .inl i => D.int i | .inr x => D.str x) (ks.map kV)
  | [] => rfl
  | .inl i :: r => ⟨_, _, rfl, rfl, key_items r⟩
  | .inr x :: r => ⟨_, _, rfl, rfl, key_items r⟩
theorem itemsOf_rep (S : Sim K g φ h H) {x : D} {xs : List D} (e : itemsOf h x = some xs) {v : V} (r : Rep K φ H x v) : ∃ a vs, v = .ref a ∧ (SqL K H a vs ∨ SqT K H a vs) ∧ RepL K φ H xs vs := by
  unfold itemsOf at e
  split at e
  · obtain ⟨a, vs, e1, h1, h2⟩ := lstAt_rep S e r
    exact ⟨a, vs, e1, .inl h1, h2⟩
  · cases (show _ = _ from e)
    obtain ⟨p, vs, e1, h1, h2⟩ := r
    exact ⟨p, vs, e1, .inr h1, h2⟩
  · rename_i ks
    cases (show _ = _ from e)
    obtain ⟨p, e1, h1⟩ := r
    exact ⟨p, _, e1, .inr (SqT.of h1), key_items ks⟩
  · rename_i ns
    cases (show _ = _ from e)
    obtain ⟨p, e1, h1⟩ := r
    exact ⟨p, _, e1, .inl h1.sq, ints_rep ns⟩
  · cases e
theorem atI_rep {xs : List D} {vs : List V} (r : RepL K φ H xs vs) {i : Int} {x : D} (e : atI xs i = some x) : ∃ v, atI vs i = some v ∧ Rep K φ H x v := by
  unfold atI at e ⊢
  rw [RepL.length r]
  cases q : ixN xs.length i with
  | none => rw [q] at e; cases e
  | some j =>
    rw [q] at e
    exact RepL.get r (i := j) (x := x) e
end
def fIx : F2
  | x, .int i, h => match itemsOf h x with
    | some xs => match atI xs i with
      | some y => .ok y h
      | none => .no
    | none => .no
  | _, _, _ => .no
def dIx (a b : DE) : DE := dOp fIx a b
theorem de_ix {X : Cx} {g : Nat → Addr} {W : WX} {a b : Expr} {da db : DE} {pos : Pos} (ha : PE X a (tE X.K g W da)) (hb : PE X b (tE X.K g W db)) (hs : PlainIx b := by exact fun _ _ => rfl) : PE X (.Subscript a b pos) (tE X.K g W (dIx da db)) := by
  refine pe_imp (pe_ix ix_seq ha hb hs) (tOp_of fun W σ φ H h x y v u Q S rx ry p => ?_)
  unfold fIx at p
  split at p
  · split at p
    · rename_i xs hx
      split at p
      · rename_i z hz
        obtain ⟨a, vs, e1, h1, h2⟩ := itemsOf_rep S hx rx
        obtain ⟨w, h3, h4⟩ := atI_rep h2 hz
        rcases h1 with h1 | h1
        · exact .inl ⟨a, vs, _, w, e1, ry, h1, h3, p.here S h4⟩
        · exact .inr (.inl ⟨a, vs, _, w, e1, ry, h1, h3, p.here S h4⟩)
      · exact p.elim
    · exact p.elim
  · exact p.elim

/-! ### slices -/
def cutD (xs : List D) (lo hi : Option Int) : List D := (xs.drop (HT.sIx xs.length 0 lo)).take (HT.sIx xs.length xs.length hi - HT.sIx xs.length 0 lo)
theorem cutD_rep {K : PySem.W.Frag} {φ : List Addr} {H : Hp} {xs : List D} {vs : List V} (r : RepL K φ H xs vs) (lo hi : Option Int) : RepL K φ H (cutD xs lo hi) (cutV vs lo hi) := by
  unfold cutD cutV
  rw [RepL.length r]
  exact RepL.take _ (RepL.drop _ r)
def oNone : DO := fun _ h => .ok none h
def oSome (a : DE) : DO := fun ρ h => (a ρ h).bind fun x h1 => match x with
  | .int i => .ok (some i) h1
  | _ => .no
section
variable {X : Cx} {g : Nat → Addr} {W : WX} {e : Expr} {d : DE}
theorem do_none : PO X none (tO X.K g W oNone) := po_imp po_none fun σ H Q ⟨φ, ρ, h, S, E, p⟩ => Post.here (show Post X.K g RI W σ φ H (.ok none h) Q from p) S rfl
theorem do_some (he : PE X e (tE X.K g W d)) : PO X (some e) (tO X.K g W (oSome d)) := by
  refine po_imp (po_some he) fun σ H Q ⟨φ, ρ, h, S, E, p⟩ => ?_
  refine ⟨φ, ρ, h, S, E, Post.bind p fun φ1 H1 x h1 v le1 S1 r1 p1 => ?_⟩
  split at p1
  · exact ⟨_, r1, p1.here S1 rfl⟩
  · exact p1.elim
end
def dSl (a : DE) (lo hi : DO) : DE := fun ρ h => (a ρ h).bind fun x h1 => (lo ρ h1).bind fun l h2 => (hi ρ h2).bind fun u h3 => match x with
  | .tup xs => .ok (.tup (cutD xs l u)) h3
  | .ref n => match lstAt h3 n with
    | some xs => .ok (.ref h3.length) (h3 ++ [.lst (cutD xs l u)])
    | none => .no
  | _ => .no
section
variable {X : Cx} {g : Nat → Addr} {W : WX} {e : Expr} {lo hi : Option Expr} {d : DE} {dl dh : DO} {pos p2 : Pos}
theorem cut_whole {xs : List V} {l u : Option Int} (h1 : HT.sIx xs.length 0 l = 0) (h2 : HT.sIx xs.length xs.length u = xs.length) : cutV xs l u = xs := by
  unfold cutV
  rw [h1, h2, List.drop_zero, Nat.sub_zero, List.take_length]
theorem de_sl (he : PE X e (tE X.K g W d)) (hl : PO X lo (tO X.K g W dl)) (hu : PO X hi (tO X.K g W dh)) : PE X (.Subscript e (.Slice lo hi none p2) pos) (tE X.K g W (dSl d dl dh)) := by
  refine pe_imp (pe_slice (SlR.or sl_list sl_tupA) he hl hu) fun σ H Q ⟨φ, ρ, h, S, E, p⟩ => ?_
  refine ⟨φ, ρ, h, S, E, Post.bind p fun φ1 H1 x h1 v le1 S1 r1 p1 => ?_⟩
  refine ⟨φ1, ρ, h1, S1, E.mono le1, Post.bind p1 fun φ2 H2 l h2 l' le2 S2 r2 p2 => ?_⟩
  refine ⟨φ2, ρ, h2, S2, E.mono (le1.trans le2), Post.bind p2 fun φ3 H3 u h3 u' le3 S3 r3 p3 => ?_⟩
  cases r2
  cases r3
  have rx := Rep.mono (le2.trans le3) x v r1
  split at p3
  · obtain ⟨q, vs, e1, hs, hl⟩ := rx
    refine .inr ⟨q, vs, e1, hs, fun ⟨w1, w2⟩ => p3.here S3 ⟨q, vs, rfl, hs, ?_⟩, fun _ r hr => p3.newTup S3 (cutD_rep hl l u) hr⟩
    rw [← cut_whole w1 w2]
    exact cutD_rep hl l u
  · split at p3
    · rename_i ys hy
      obtain ⟨a, vs, e1, hs, hl⟩ := lstAt_rep S3 hy rx
      exact .inl ⟨a, vs, e1, hs, fun r hr => p3.newLst S3 (cutD_rep hl l u) hr⟩
    · exact p3.elim
  · exact p3.elim
end

/-! ### + and * of any kind; == ; in; is -/
def fAdd : F2
  | .int i, .int j, h => .ok (.int (i + j)) h
  | .str a, .str b, h => if a.length + b.length ≤ cap then .ok (.str (a ++ b)) h else .no
  | .ref m, .ref n, h => match h[m]?, h[n]? with
    | some (.lst xs), some (.lst ys) => if xs.length + ys.length ≤ cap then .ok (.ref h.length) (h ++ [.lst (xs ++ ys)]) else .no
    | _, _ => .no
  | _, _, _ => .no
def fMul : F2
  | .int i, .int j, h => if mulC i j = true then .ok (.int (i * j)) h else .no
  | .ref m, .int k, h => match h[m]? with
    | some (.lst xs) => if 0 ≤ k ∧ k ≤ 1000 ∧ xs.length * k.toNat ≤ cap then .ok (.ref h.length) (h ++ [.lst (List.replicate k.toNat xs).flatten]) else .no
    | _ => .no
  | _, _, _ => .no
section
variable {X : Cx} {g : Nat → Addr}
theorem lst_own {K : PySem.W.Frag} {φ : List Addr} {h : Hv} {H : Hp} (S : Sim K g φ h H) {n : Nat} {xs : List D} (e : h[n]? = some (.lst xs)) {v : V} (r : Rep K φ H (.ref n) v) : ∃ a vs, v = .ref a ∧ φ[n]? = some a ∧ H a = some (.lst vs) ∧ RepL K φ H xs vs := by
  obtain ⟨a, rfl, ha⟩ := r
  obtain ⟨u, h1, h2⟩ := S.obj n a _ ha e
  cases h2 with
  | lst r => exact ⟨a, _, rfl, ha, h1, r⟩
theorem o_add : OpD X g (binaryOp .Add) fAdd := by
  refine ⟨_, OpR.or op_add (OpR.or op_add_str op_cat), fun W σ φ H h x y v u Q S rx ry p => ?_⟩
  unfold fAdd at p
  split at p
  · exact .inl ⟨_, _, rx, ry, p.here S rfl⟩
  · split at p
    · rename_i hc
      exact .inr (.inl ⟨_, _, rx, ry, cap_le hc, p.here S rfl⟩)
    · exact p.elim
  · split at p
    · rename_i xs ys e1 e2
      split at p
      · rename_i hc
        obtain ⟨a, vs, q1, _, q2, q3⟩ := lst_own S e1 rx
        obtain ⟨b, ws, q4, _, q5, q6⟩ := lst_own S e2 ry
        exact .inr (.inr ⟨a, b, vs, ws, q1, q4, q2, q5, by rw [RepL.length q3, RepL.length q6]; exact cap_le hc, fun r hr => p.newLst S (RepL.append q3 q6) hr⟩)
      · exact p.elim
    · exact p.elim
  · exact p.elim
theorem RepL.rep {K : PySem.W.Frag} {φ : List Addr} {H : Hp} {xs : List D} {vs : List V} (r : RepL K φ H xs vs) : ∀ k : Nat, RepL K φ H (List.replicate k xs).flatten (List.replicate k vs).flatten
  | 0 => rfl
  | k + 1 => by
    rw [List.replicate_succ, List.replicate_succ, List.flatten_cons, List.flatten_cons]
    exact RepL.append r (RepL.rep r k)
theorem o_mul : OpD X g (binaryOp .Mult) fMul := by
  refine ⟨_, OpR.or op_mulX op_rep, fun W σ φ H h x y v u Q S rx ry p => ?_⟩
  unfold fMul at p
  split at p
  · split at p
    · rename_i hc
      exact .inl ⟨_, _, rx, ry, mulC_ok hc, p.here S rfl⟩
    · exact p.elim
  · split at p
    · rename_i xs e1
      split at p
      · rename_i hc
        obtain ⟨a, vs, q1, _, q2, q3⟩ := lst_own S e1 rx
        exact .inr ⟨a, _, vs, q1, ry, q2, by omega, by omega, by rw [RepL.length q3]; exact cap_le hc.2.2, fun r hr => p.newLst S (RepL.rep q3 _) hr⟩
      · exact p.elim
    · exact p.elim
  · exact p.elim

/-- a value as data: lists and tuples within, to a depth -/
def datL (f : D → Option PyData) : List D → Option (List PyData)
  | [] => some []
  | x :: xs => match f x, datL f xs with
    | some d, some ds => some (d :: ds)
    | _, _ => none
def dat (h : Hv) : Nat → D → Option PyData
  | 0, _ => none
  | n + 1, x => match x with
    | .non => some .none
    | .bl b => some (.bool b)
    | .int i => some (.int i)
    | .str x => some (.str x)
    | .tup xs => (datL (dat h n) xs).map .tuple
    | .ref m => match lstAt h m with
      | some xs => (datL (dat h n) xs).map .list
      | none => none
    | .key ks => some (.tuple (ks.map fun k => match k with | .inl i => PyData.int i | .inr x => PyData.str x))
    | .rol ns => some (.list (ns.map PyData.int))
    | .adr _ => none
theorem key_dp {K : PySem.W.Frag} {H : Hp} : ∀ ks : List Key, DpAll K H (ks.map kV) (ks.map fun k => match k with | .inl i => PyData.int i | .inr x => PyData.str x)
  | [] => .nil
  | .inl i :: r => .cons (.int i) (key_dp r)
  | .inr x :: r => .cons (.str x) (key_dp r)
theorem ints_dp {K : PySem.W.Frag} {H : Hp} : ∀ ns : List Int, DpAll K H (ns.map V.int) (ns.map PyData.int)
  | [] => .nil
  | i :: r => .cons (.int i) (ints_dp r)
theorem datL_rep {K : PySem.W.Frag} {φ : List Addr} {H : Hp} {f : D → Option PyData} (hf : ∀ x d v, f x = some d → Rep K φ H x v → Dp K H v d) : ∀ {xs : List D} {ds : List PyData} {vs : List V}, datL f xs = some ds → RepL K φ H xs vs → DpAll K H vs ds
  | [], ds, vs, e, r => by
    cases (show _ = _ from e)
    cases (show _ = _ from r)
    exact .nil
  | x :: xs, ds, vs, e, ⟨v, q, e1, h1, h2⟩ => by
    unfold datL at e
    split at e
    · rename_i d ds' q1 q2
      cases (show _ = _ from e)
      subst e1
      exact .cons (hf x d v q1 h1) (datL_rep hf q2 h2)
    · cases e
theorem dat_rep {K : PySem.W.Frag} {φ : List Addr} {h : Hv} {H : Hp} (S : Sim K g φ h H) : ∀ (n : Nat) (x : D) (d : PyData) (v : V), dat h n x = some d → Rep K φ H x v → Dp K H v d
  | 0, _, _, _, e, _ => by cases e
  | n + 1, x, d, v, e, r => by
    unfold dat at e
    split at e
    · cases (show _ = _ from e); cases (show _ = _ from r); exact .non
    · cases (show _ = _ from e); cases (show _ = _ from r); exact .bl _
    · cases (show _ = _ from e); cases (show _ = _ from r); exact .int _
    · cases (show _ = _ from e); cases (show _ = _ from r); exact .str _
    · obtain ⟨p, vs, e1, h1, h2⟩ := r
      rename_i xs
      cases q : datL (dat h n) xs with
      | none => rw [q] at e; cases e
      | some ds =>
        rw [q] at e
        cases (show _ = _ from e)
        subst e1
        exact .tup h1 (datL_rep (fun x d v => dat_rep S n x d v) q h2)
    · split at e
      · rename_i m xs hx
        obtain ⟨a, vs, e1, h1, h2⟩ := lstAt_rep S hx r
        cases q : datL (dat h n) xs with
        | none => rw [q] at e; cases e
        | some ds =>
          rw [q] at e
          cases (show _ = _ from e)
          subst e1
          exact .lst h1 (datL_rep (fun x d v => dat_rep S n x d v) q h2)
      · cases e
    · cases (show _ = _ from e)
      obtain ⟨p, e1, h1⟩ := r
      subst e1
      exact .tup (SqT.of h1) (key_dp _)
    · cases (show _ = _ from e)
      obtain ⟨p, e1, h1⟩ := r
      subst e1
      exact .lst h1.sq (ints_dp _)
    · cases e
def eqD (h : Hv) (x y : D) : Option Bool := match x, y with
  | .int i, .int j => some (decide (i = j))
  | .str i, .str j => some (decide (i = j))
  | _, _ => match dat h 12 x, dat h 12 y with
    | some d, some e => if SeqAt.shaped d = true ∧ SeqAt.shaped e = true then some (PyData.eqv d e) else none
    | _, _ => none
def fEq : F2 := fun x y h => match eqD h x y with
  | some b => .ok (.bl b) h
  | none => .no
def fNe : F2 := fun x y h => match eqD h x y with
  | some b => .ok (.bl (!b)) h
  | none => .no
theorem eqD_rep {K : PySem.W.Frag} {φ : List Addr} {h : Hv} {H : Hp} (S : Sim K g φ h H) {x y : D} {b : Bool} (e : eqD h x y = some b) {v u : V} (rx : Rep K φ H x v) (ry : Rep K φ H y u) : (∃ i j : Str, v = .str i ∧ u = .str j ∧ b = decide (i = j)) ∨ ∃ d d', Dp K H v d ∧ Dp K H u d' ∧ SeqAt.shaped d = true ∧ SeqAt.shaped d' = true ∧ PyData.eqv d d' = b := by
  unfold eqD at e
  split at e
  · rename_i i j
    cases (show _ = _ from rx)
    cases (show _ = _ from ry)
    refine .inr ⟨_, _, .int i, .int j, rfl, rfl, ?_⟩
    rw [← Option.some.inj e]
    show (i == j) = decide (i = j)
    rw [Bool.beq_eq_decide_eq]
  · rename_i i j
    cases (show _ = _ from rx)
    cases (show _ = _ from ry)
    exact .inl ⟨i, j, rfl, rfl, (Option.some.inj e).symm⟩
  · split at e
    · rename_i d d' q1 q2
      split at e
      · rename_i hs
        exact .inr ⟨d, d', dat_rep S 12 x d v q1 rx, dat_rep S 12 y d' u q2 ry, hs.1, hs.2, Option.some.inj e⟩
      · cases e
    · cases e
theorem opr_or {F : Value → Value → Sem Value} {r1 r2 : R2} (h1 : OpR X F r1) (h2 : OpR X F r2) : OpR X F (fun x y H Q => r1 x y H Q ∨ r2 x y H Q) := fun pins s σ H x y v u Q I rx ry h => h.elim (h1 pins s σ H x y v u Q I rx ry) (h2 pins s σ H x y v u Q I rx ry)
theorem o_eq {k : Nat} (hr : Room k X.A) : OpD X g (compareOp .Eq) fEq := by
  refine ⟨_, opr_or (op_eq) (op_eqD hr.units), fun W σ φ H h x y v u Q S rx ry p => ?_⟩
  unfold fEq at p
  split at p
  · rename_i b hb
    rcases eqD_rep S hb rx ry with ⟨i, j, rfl, rfl, h5⟩ | ⟨d, d', h1, h2, h3, h4, h5⟩
    · refine .inl ⟨rfl, ?_⟩
      rw [show decide (V.str i = V.str j) = b from by rw [h5]; simp]
      exact p.here S rfl
    · exact .inr ⟨d, d', h1, h2, h3, h4, by rw [h5]; exact p.here S rfl⟩
  · exact p.elim
theorem o_ne {k : Nat} (hr : Room k X.A) : OpD X g (compareOp .NotEq) fNe := by
  refine ⟨_, opr_or (op_ne) (op_neD hr.units), fun W σ φ H h x y v u Q S rx ry p => ?_⟩
  unfold fNe at p
  split at p
  · rename_i b hb
    rcases eqD_rep S hb rx ry with ⟨i, j, rfl, rfl, h5⟩ | ⟨d, d', h1, h2, h3, h4, h5⟩
    · refine .inl ⟨rfl, ?_⟩
      rw [show decide (V.str i = V.str j) = b from by rw [h5]; simp]
      exact p.here S rfl
    · exact .inr ⟨d, d', h1, h2, h3, h4, by rw [h5]; exact p.here S rfl⟩
  · exact p.elim

/-- one among flat ones -/
def toV : D → Option V
  | .non => some .non
  | .bl b => some (.bl b)
  | .int i => some (.int i)
  | .str x => some (.str x)
  | _ => none
def toVs : List D → Option (List V)
  | [] => some []
  | x :: xs => match toV x, toVs xs with
    | some v, some vs => some (v :: vs)
    | _, _ => none
theorem toV_rep {K : PySem.W.Frag} {φ : List Addr} {H : Hp} {x : D} {v u : V} (e : toV x = some v) (r : Rep K φ H x u) : u = v ∧ flatV v = true := by
  cases x <;> cases (show _ = _ from e) <;> exact ⟨r, rfl⟩
theorem toVs_rep {K : PySem.W.Frag} {φ : List Addr} {H : Hp} : ∀ {xs : List D} {vs us : List V}, toVs xs = some vs → RepL K φ H xs us → us = vs ∧ vs.all flatV = true
  | [], vs, us, e, r => by cases (show _ = _ from e); exact ⟨r, rfl⟩
  | x :: xs, vs, us, e, ⟨v, q, e1, h1, h2⟩ => by
    unfold toVs at e
    split at e
    · rename_i w ws q1 q2
      cases (show _ = _ from e)
      obtain ⟨e2, f2⟩ := toV_rep q1 h1
      obtain ⟨e3, f3⟩ := toVs_rep q2 h2
      subst e1 e2 e3
      exact ⟨rfl, by rw [List.all_cons, f2, f3]; rfl⟩
    · cases e
def inD (h : Hv) (x y : D) : Option Bool := match itemsOf h y with
  | some ys => match toV x, toVs ys with
    | some v, some vs => some (inV v vs)
    | _, _ => none
  | none => none
def fIn : F2 := fun x y h => match inD h x y with
  | some b => .ok (.bl b) h
  | none => .no
def fNotIn : F2 := fun x y h => match inD h x y with
  | some b => .ok (.bl (!b)) h
  | none => .no
theorem inD_rep {K : PySem.W.Frag} {φ : List Addr} {h : Hv} {H : Hp} (S : Sim K g φ h H) {x y : D} {b : Bool} (e : inD h x y = some b) {v u : V} (rx : Rep K φ H x v) (ry : Rep K φ H y u) : ∃ p vs, u = .ref p ∧ (SqL K H p vs ∨ SqT K H p vs) ∧ flatV v = true ∧ vs.all flatV = true ∧ inV v vs = b := by
  unfold inD at e
  split at e
  · rename_i ys hy
    split at e
    · rename_i w ws q1 q2
      obtain ⟨p, us, e1, h1, h2⟩ := itemsOf_rep S hy ry
      obtain ⟨e2, f2⟩ := toV_rep q1 rx
      obtain ⟨e3, f3⟩ := toVs_rep q2 h2
      subst e2 e3
      exact ⟨p, us, e1, h1, f2, f3, Option.some.inj e⟩
    · cases e
  · cases e
theorem o_in : OpD X g (compareOp .In) fIn := by
  refine ⟨_, op_in_seq, fun W σ φ H h x y v u Q S rx ry p => ?_⟩
  unfold fIn at p
  split at p
  · rename_i b hb
    obtain ⟨q, vs, h1, h2, h3, h4, h5⟩ := inD_rep S hb rx ry
    exact ⟨q, vs, h1, h2, h3, h4, by rw [if_neg Bool.false_ne_true, h5]; exact p.here S rfl⟩
  · exact p.elim
theorem o_notIn : OpD X g (compareOp .NotIn) fNotIn := by
  refine ⟨_, op_notIn_seq, fun W σ φ H h x y v u Q S rx ry p => ?_⟩
  unfold fNotIn at p
  split at p
  · rename_i b hb
    obtain ⟨q, vs, h1, h2, h3, h4, h5⟩ := inD_rep S hb rx ry
    exact ⟨q, vs, h1, h2, h3, h4, by rw [if_pos rfl, h5]; exact p.here S rfl⟩
  · exact p.elim
/-- is None, is True, is False -/
def isD (x y : D) : Option Bool := match y with
  | .non => match x with
    | .non => some true
    | _ => some false
  | .bl b => match x with
    | .bl a => some (a == b)
    | _ => none
  | _ => none
def fIs : F2 := fun x y h => match isD x y with
  | some b => .ok (.bl b) h
  | none => .no
def fIsNot : F2 := fun x y h => match isD x y with
  | some b => .ok (.bl (!b)) h
  | none => .no
theorem isD_rep {K : PySem.W.Frag} {φ : List Addr} {H : Hp} {x y : D} {b : Bool} (e : isD x y = some b) {v u : V} (rx : Rep K φ H x v) (ry : Rep K φ H y u) : (u = .non ∧ decide (v = .non) = b) ∨ ∃ c d, v = .bl c ∧ u = .bl d ∧ decide (c = d) = b := by
  cases y with
  | non =>
    refine .inl ⟨ry, ?_⟩
    cases x with
    | non => cases (show _ = _ from rx); exact Option.some.inj e
    | bl _ => cases (show _ = _ from rx); exact Option.some.inj e
    | int _ => cases (show _ = _ from rx); exact Option.some.inj e
    | str _ => cases (show _ = _ from rx); exact Option.some.inj e
    | tup _ => obtain ⟨p, vs, e1, _⟩ := rx; subst e1; exact Option.some.inj e
    | ref _ => obtain ⟨p, e1, _⟩ := rx; subst e1; exact Option.some.inj e
    | key _ => obtain ⟨p, e1, _⟩ := rx; subst e1; exact Option.some.inj e
    | rol _ => obtain ⟨p, e1, _⟩ := rx; subst e1; exact Option.some.inj e
    | adr _ => cases (show _ = _ from rx); exact Option.some.inj e
  | bl d =>
    cases x with
    | bl c =>
      refine .inr ⟨c, d, rx, ry, ?_⟩
      rw [← Option.some.inj e, Bool.beq_eq_decide_eq]
    | non => cases e
    | int _ => cases e
    | str _ => cases e
    | tup _ => cases e
    | ref _ => cases e
    | key _ => cases e
    | rol _ => cases e
    | adr _ => cases e
  | int _ => cases e
  | str _ => cases e
  | tup _ => cases e
  | ref _ => cases e
  | key _ => cases e
  | rol _ => cases e
  | adr _ => cases e
theorem o_is : OpD X g (compareOp .Is) fIs := by
  refine ⟨_, OpR.or op_isN op_is_bl, fun W σ φ H h x y v u Q S rx ry p => ?_⟩
  unfold fIs at p
  split at p
  · rename_i b hb
    rcases isD_rep hb rx ry with ⟨e1, e2⟩ | ⟨c, d, e1, e2, e3⟩
    · exact .inl ⟨e1, by rw [e2]; exact p.here S rfl⟩
    · exact .inr ⟨c, d, e1, e2, by rw [e3]; exact p.here S rfl⟩
  · exact p.elim
theorem o_isNot : OpD X g (compareOp .IsNot) fIsNot := by
  refine ⟨_, OpR.or op_notN op_isnot_bl, fun W σ φ H h x y v u Q S rx ry p => ?_⟩
  unfold fIsNot at p
  split at p
  · rename_i b hb
    rcases isD_rep hb rx ry with ⟨e1, e2⟩ | ⟨c, d, e1, e2, e3⟩
    · exact .inl ⟨e1, by rw [e2]; exact p.here S rfl⟩
    · exact .inr ⟨c, d, e1, e2, by rw [e3]; exact p.here S rfl⟩
  · exact p.elim
end
end DL

set_option Elab.async false
set_option linter.all false
set_option autoImplicit false
set_option maxRecDepth 100000
namespace DL
open PySem PySem.Spec PyProof.Rows L2

/-! ### statements -/
def dNx : DS := fun ρ h => .nx ρ h
def dSeq (t u : DS) : DS := fun ρ h => match t ρ h with
  | .nx ρ' h' => u ρ' h'
  | r => r
def dSet (i : Nat) (e : DE) : DS := fun ρ h => SR.of ρ (e ρ h) fun x h1 => .nx (ρ.set i (some x)) h1
def dAsg (e : DE) (t : DG) : DS := fun ρ h => SR.of ρ (e ρ h) fun x h1 => match t x ρ with
  | some ρ' => .nx ρ' h1
  | none => .no
def dPar (i j : Nat) (a : DA) : DS := fun ρ h => SR.of ρ (a ρ h) fun xs h1 => match xs with
  | [x, y] => .nx ((ρ.set i (some x)).set j (some y)) h1
  | _ => .no
def dDrop (e : DE) : DS := fun ρ h => SR.of ρ (e ρ h) fun _ h1 => .nx ρ h1
def dRet (e : DE) : DS := fun ρ h => SR.of ρ (e ρ h) fun x h1 => .rt x h1
def dRetN : DS := fun _ h => .rt .non h
def dIf (c : DT) (a b : DS) : DS := fun ρ h => SR.of ρ (c ρ h) fun k h1 => if k = true then a ρ h1 else b ρ h1
def dAug (i : Nat) (f : F2) (e : DE) : DS := fun ρ h => match ρ[i]? with
  | some (some x) => SR.of ρ (e ρ h) fun y h1 => SR.of ρ (f x y h1) fun z h2 => .nx (ρ.set i (some z)) h2
  | _ => .no
def whileR (c : DT) (b : DS) : Nat → Sl → Hv → SR
  | 0, _, _ => .no
  | m + 1, ρ, h => SR.of ρ (c ρ h) fun k h1 => if k = true then (match b ρ h1 with
      | .nx ρ' h' => whileR c b m ρ' h'
      | .ct ρ' h' => whileR c b m ρ' h'
      | .bk ρ' h' => .nx ρ' h'
      | r => r) else .nx ρ h1
def dWhile (fuel : Sl → Nat) (c : DT) (b : DS) : DS := fun ρ h => whileR c b (fuel ρ) ρ h
/-- targets -/
def gN (i : Nat) : DG := fun x ρ => some (ρ.set i (some x))
def gsNil : DGs := fun xs ρ => match xs with
  | [] => some ρ
  | _ => none
def gsCons (t : DG) (u : DGs) : DGs := fun xs ρ => match xs with
  | x :: r => match t x ρ with
    | some ρ' => u r ρ'
    | none => none
  | [] => none
def gT (n : Nat) (t : DGs) : DG := fun x ρ => match x with
  | .tup xs => if xs.length = n then t xs ρ else none
  | .key ks => if ks.length = n then t (ks.map fun k => match k with | .inl i => D.int i | .inr x => D.str x) ρ else none
  | _ => none

section
variable {X : Cx} {g : Nat → Addr} {W : WX} {e : Expr} {es : List Expr} {st : Stmt} {sts : List Stmt} {d : DE} {da : DA} {ds dt : DS} {dc : DT} {dg : DG} {dgs : DGs} {vs ws : List Nat} {pos : Pos}
theorem PostS.here {B : Ends} {φ : List Addr} {H : Hp} {ρ : Sl} {h : Hv} {σ : L2.St} (p : PostS X.K g W B φ H (.nx ρ h)) (S : Sim X.K g φ h H) (E : EnvR X.K φ H ρ σ) : B.nx σ H := p φ H σ (Le.refl X.K) S E
theorem dss_nil : PSs X [] (tS X.K g W dNx) := pss_imp pss_nil fun B σ H ⟨φ, ρ, h, S, E, p⟩ => PostS.here p S E
theorem ds_pass : PS X (.Pass pos) (tS X.K g W dNx) := ps_imp ps_pass fun B σ H ⟨φ, ρ, h, S, E, p⟩ => PostS.here p S E
theorem seq_of {t u : DS} {B : Ends} {φ : List Addr} {H : Hp} {ρ : Sl} {h : Hv} (p : PostS X.K g W B φ H (dSeq t u ρ h)) : PostS X.K g W { B with nx := tS X.K g W u B } φ H (t ρ h) := by
  unfold dSeq at p
  cases e : t ρ h with
  | nx ρ' h' =>
    rw [e] at p
    exact fun φ2 H2 σ2 l S E => ⟨φ2, ρ', h', S, E, PostS.mono l p⟩
  | rt x h' => rw [e] at p; exact p
  | bk ρ' h' => rw [e] at p; exact p
  | ct ρ' h' => rw [e] at p; exact p
  | ex x ρ' h' => rw [e] at p; exact p
  | no => rw [e] at p; exact p
theorem dss_cons (h1 : PS X st (tS X.K g W ds)) (h2 : PSs X sts (tS X.K g W dt)) : PSs X (st :: sts) (tS X.K g W (dSeq ds dt)) :=
  pss_imp (pss_cons h1 h2) fun B σ H ⟨φ, ρ, h, S, E, p⟩ => ⟨φ, ρ, h, S, E, seq_of p⟩
theorem dss_one (h1 : PS X st (tS X.K g W ds)) : PSs X [st] (tS X.K g W ds) := pss_one h1
theorem ds_set (i : Nat) {x : Str} {pos' : Pos} (he : PE X e (tE X.K g W d)) (hN : X.N.Nodup) (hi : X.N[i]? = some x := by rfl) (hx : Loc X.env.scope x := by first | exact Or.inl rfl | exact Or.inr rfl) (hs : swapsWith e (some (.Name x pos')) pos.line X.env = pure false := by rfl)
    (hf : X.fn x = true ∨ X.env.scope.names.lookup x = some .local := by first | exact .inl rfl | exact .inr rfl) : PS X (.Assign [.Name x pos'] e pos) (tS X.K g W (dSet i d)) := by
  refine ps_imp (ps_set hN hi hx he hs hf) fun B σ H ⟨φ, ρ, h, S, E, p⟩ => ?_
  exact ⟨φ, ρ, h, S, E, PostS.of E p fun φ1 H1 x h1 v le1 S1 E1 r1 p1 => PostS.here p1 S1 (E1.set i r1)⟩
theorem dg_name (i : Nat) {x : Str} (hN : X.N.Nodup) (hi : X.N[i]? = some x := by rfl) (hx : Loc X.env.scope x := by first | exact Or.inl rfl | exact Or.inr rfl) (hf : X.fn x = true ∨ X.env.scope.names.lookup x = some .local := by first | exact .inl rfl | exact .inr rfl) :
    PG X (.Name x pos) (tG X.K [i] (gN i)) := by
  refine pg_imp (pg_name hN hi hx hf) fun v σ H Q ⟨φ, ρ, x, ρ', E, r, e, q⟩ => ?_
  cases (show _ = _ from e)
  exact q _ (E.set i r) (Off.set (by simp))
theorem dgs_nil : PGs X [] (tGs X.K [] gsNil) := by
  refine pgs_imp pgs_nil fun vs σ H Q ⟨φ, ρ, xs, ρ', E, r, e, q⟩ => ?_
  cases xs with
  | nil =>
    cases (show _ = _ from e)
    exact ⟨r, q σ E Off.refl⟩
  | cons _ _ => cases e
theorem dgs_cons (h1 : PG X e (tG X.K vs dg)) (h2 : PGs X es (tGs X.K ws dgs)) (hs : (assignEach (e :: es) X.env).map (·.2) = assign e X.env :: (assignEach es X.env).map (·.2) := by rfl) : PGs X (e :: es) (tGs X.K (vs ++ ws) (gsCons dg dgs)) := by
  refine pgs_imp (pgs_cons h1 h2 hs) fun vs σ H Q ⟨φ, ρ, xs, ρ', E, r, e, q⟩ => ?_
  cases xs with
  | nil => cases e
  | cons x w =>
    obtain ⟨v, us, e1, r1, r2⟩ := r
    unfold gsCons at e
    cases z : dg x ρ with
    | none => simp [z] at e
    | some ρ1 =>
      simp only [z] at e
      exact ⟨v, us, e1, φ, ρ, x, ρ1, E, r1, z, fun σ1 E1 o1 => ⟨φ, ρ1, w, ρ', E1, r2, e, fun σ2 E2 o2 => q σ2 E2 (o1.trans o2 (fun i h => List.mem_append_left _ h) fun i h => List.mem_append_right _ h)⟩⟩
theorem dg_tup {k n : Nat} (hc : X.calm = true) (ht : PGs X es (tGs X.K vs dgs)) (hn : (assignEach es X.env).length = n := by rfl) (hst : (assignEach es X.env).findIdx? (·.1) = none := by rfl) : PG X (.Tuple es k pos) (tG X.K vs (gT n dgs)) := by
  refine pg_imp (pg_tup hc ht hn hst) fun v σ H Q ⟨φ, ρ, x, ρ', E, r, e, q⟩ => ?_
  unfold gT at e
  split at e
  · split at e
    · rename_i xs hl
      obtain ⟨p, vs, e1, h1, h2⟩ := r
      exact ⟨p, vs, e1, h1, by rw [RepL.length h2]; exact hl, φ, ρ, xs, ρ', E, h2, e, q⟩
    · cases e
  · split at e
    · rename_i ks hl
      obtain ⟨p, e1, h1⟩ := r
      exact ⟨p, _, e1, SqT.of h1, by rw [List.length_map]; exact hl, φ, ρ, _, ρ', E, key_items ks, e, q⟩
    · cases e
  · cases e
theorem ds_asg {tg : Expr} (he : PE X e (tE X.K g W d)) (hg : PG X tg (tG X.K vs dg)) (hs : swapsWithSole [tg] e pos.line X.env = pure false := by rfl) (hw : swappedStores [tg] e X.env = pure none := by rfl)
    (h1 : (assignEach [tg] X.env).map (·.2) = [assign tg X.env] := by rfl) : PS X (.Assign [tg] e pos) (tS X.K g W (dAsg d dg)) := by
  refine ps_imp (ps_asg he hg hs hw h1) fun B σ H ⟨φ, ρ, h, S, E, p⟩ => ?_
  refine ⟨φ, ρ, h, S, E, PostS.of E p fun φ1 H1 x h1 v le1 S1 E1 r1 p1 => ?_⟩
  split at p1
  · rename_i ρ' z
    exact ⟨φ1, ρ, x, ρ', E1, r1, z, fun σ' E' _ => PostS.here p1 S1 E'⟩
  · exact p1.elim
theorem ds_par {i j : Nat} {x y : Str} {a b : Expr} {px py pt : Pos} {kt k2 : Nat} {pt2 : Pos} (hc : X.calm = true) (hN : X.N.Nodup) (ha : PA X [a, b] (tA X.K g W da)) (hi : X.N[i]? = some x := by rfl) (hj : X.N[j]? = some y := by rfl) (hij : i ≠ j := by decide)
    (hx : X.env.scope.names.lookup x = some .local := by rfl) (hy : X.env.scope.names.lookup y = some .local := by rfl) (hw : swappedStores [.Tuple [.Name x px, .Name y py] kt pt] (.Tuple [a, b] k2 pt2) X.env = pure (some [x, y]) := by rfl)
    (hs : swapsWithSole [.Tuple [.Name x px, .Name y py] kt pt] (.Tuple [a, b] k2 pt2) pos.line X.env = pure false := by rfl) : PS X (.Assign [.Tuple [.Name x px, .Name y py] kt pt] (.Tuple [a, b] k2 pt2) pos) (tS X.K g W (dPar i j da)) := by
  refine ps_imp (ps_par hc hN hi hj hij hx hy ha hw hs) fun B σ H ⟨φ, ρ, h, S, E, p⟩ => ?_
  refine ⟨φ, ρ, h, S, E, PostS.of E p fun φ1 H1 xs h1 vs le1 S1 E1 r1 p1 => ?_⟩
  split at p1
  · obtain ⟨v, _, e1, q1, w, _, e2, q2, e3⟩ := r1
    subst e1 e2 e3
    exact ⟨v, w, rfl, PostS.here p1 S1 ((E1.set i q1).set j q2)⟩
  · exact p1.elim
theorem ds_drop (he : PE X e (tE X.K g W d)) (hs : swapsWith e none pos.line X.env = pure false := by rfl) : PS X (.Expr e pos) (tS X.K g W (dDrop d)) := by
  refine ps_imp (ps_expr he hs) fun B σ H ⟨φ, ρ, h, S, E, p⟩ => ?_
  exact ⟨φ, ρ, h, S, E, PostS.of E p fun φ1 H1 x h1 v le1 S1 E1 r1 p1 => PostS.here p1 S1 E1⟩
theorem ds_ret (he : PE X e (tE X.K g W d)) : PS X (.Return (some e) pos) (tS X.K g W (dRet d)) := by
  refine ps_imp (ps_ret he) fun B σ H ⟨φ, ρ, h, S, E, p⟩ => ?_
  exact ⟨φ, ρ, h, S, E, PostS.of E p fun φ1 H1 x h1 v le1 S1 E1 r1 p1 => p1 φ1 H1 v (Le.refl X.K) S1 r1⟩
theorem ds_retN : PS X (.Return none pos) (tS X.K g W dRetN) :=
  ps_imp ps_retN fun B σ H ⟨φ, ρ, h, S, E, p⟩ => (show PostS X.K g W B φ H (.rt .non h) from p) φ H .non (Le.refl X.K) S rfl
theorem ds_if {c : Expr} {a b : List Stmt} (hc : PT X c (tT X.K g W dc)) (ha : PSs X a (tS X.K g W ds)) (hb : PSs X b (tS X.K g W dt)) : PS X (.If c a b pos) (tS X.K g W (dIf dc ds dt)) := by
  refine ps_imp (ps_if hc ha hb) fun B σ H ⟨φ, ρ, h, S, E, p⟩ => ?_
  refine ⟨φ, ρ, h, S, E, PostS.of E p fun φ1 H1 x h1 v le1 S1 E1 r1 p1 => ?_⟩
  cases r1
  cases x with
  | true => exact ⟨φ1, ρ, h1, S1, E1, p1⟩
  | false => exact ⟨φ1, ρ, h1, S1, E1, p1⟩
theorem ds_aug (i : Nat) {x : Str} {op : Operator} {f : F2} {pos' : Pos} (ho : OpD X g (inplaceOp op) f) (he : PE X e (tE X.K g W d)) (hN : X.N.Nodup) (hi : X.N[i]? = some x := by rfl) (hx : Loc X.env.scope x := by first | exact Or.inl rfl | exact Or.inr rfl)
    (hf : X.fn x = true ∨ X.env.scope.names.lookup x = some .local := by first | exact .inl rfl | exact .inr rfl) : PS X (.AugAssign (.Name x pos') op e pos) (tS X.K g W (dAug i f d)) := by
  obtain ⟨r, h1, h2⟩ := ho
  refine ps_imp (ps_aug hN hi hx he (ti := r) (fun pins s σ H x y v u Q I r1 r2 q => h1 pins s σ H x y v u Q I r1 r2 q) hf) fun B σ H ⟨φ, ρ, h, S, E, p⟩ => ?_
  unfold dAug at p
  split at p
  · rename_i x hx
    obtain ⟨v, e1, r1⟩ := E.2 i x hx
    refine ⟨v, e1, φ, ρ, h, S, E, PostS.of E p fun φ1 H1 y h1 u le1 S1 E1 r2 p1 => ?_⟩
    refine h2 W σ φ1 H1 h1 x y v u _ S1 (Rep.mono le1 x v r1) r2 (PostS.of E1 p1 fun φ2 H2 z h2 w le2 S2 E2 r3 p2 => ?_)
    exact PostS.here p2 S2 (E2.set i r3)
  · exact p.elim
theorem o_iadd : OpD X g (inplaceOp .Add) (iop (fun _ _ => true) fun i j => .int (i + j)) := opd_int0 iop_add fun _ _ _ _ => rfl
/-- a while loop -/
theorem ds_while (fuel : Sl → Nat) {c : Expr} {body : List Stmt} (hp : PassesOwn (model X.prog X.w) X.A X.env X.xe) (hc : PT X c (tT X.K g W dc)) (hb : PSs X body (tS X.K g W ds)) : PS X (.While c body [] pos) (tS X.K g W (dWhile fuel dc ds)) := by
  refine ps_imp (ps_while hp hc hb) fun B σ H ⟨φ, ρ, h, S, E, p⟩ => ?_
  refine ⟨fun m σ H => ∃ φ ρ h, Sim X.K g φ h H ∧ EnvR X.K φ H ρ σ ∧ PostS X.K g W B φ H (whileR dc ds m ρ h), ⟨fuel ρ, φ, ρ, h, S, E, p⟩, ?_⟩
  rintro m σ H ⟨φ, ρ, h, S, E, p⟩
  cases m with
  | zero => exact p.elim
  | succ m =>
    refine ⟨φ, ρ, h, S, E, PostS.of E p fun φ1 H1 x h1 v le1 S1 E1 r1 p1 => ?_⟩
    cases r1
    cases x with
    | false => exact PostS.here p1 S1 E1
    | true =>
      refine ⟨fun σ' H' => ∃ φ ρ h, Sim X.K g φ h H' ∧ EnvR X.K φ H' ρ σ' ∧ PostS X.K g W B φ H' (whileR dc ds m ρ h), fun σ' H' q => ⟨m, Nat.lt_succ_self m, q⟩, φ1, ρ, h1, S1, E1, ?_⟩
      have p2 : PostS X.K g W B φ1 H1 (match ds ρ h1 with
        | .nx ρ' h' => whileR dc ds m ρ' h'
        | .ct ρ' h' => whileR dc ds m ρ' h'
        | .bk ρ' h' => .nx ρ' h'
        | r => r) := p1
      cases z : ds ρ h1 with
      | nx ρ' h' => rw [z] at p2; exact fun φ2 H2 σ2 l S2 E2 => ⟨φ2, ρ', h', S2, E2, PostS.mono l p2⟩
      | ct ρ' h' => rw [z] at p2; exact fun φ2 H2 σ2 l S2 E2 => ⟨φ2, ρ', h', S2, E2, PostS.mono l p2⟩
      | bk ρ' h' => rw [z] at p2; exact p2
      | rt x h' => rw [z] at p2; exact p2
      | ex x ρ' h' => rw [z] at p2; exact p2
      | no => rw [z] at p2; exact p2
end

/-! ### what a loop walks -/
inductive Src where
  | lst (n : Nat) | tup (xs : List D) | rng (lo : Int) (n : Nat) | rev (lo : Int) (n : Nat) | zip (m n : Nat)
/-- the item of turn i: none: no such thing; some none: the end -/
def srcAt (h : Hv) : Src → Nat → Option (Option D)
  | .lst n, i => match lstAt h n with
    | some xs => some xs[i]?
    | none => none
  | .tup xs, i => some xs[i]?
  | .rng lo n, i => if i < n then some (some (.int (lo + i))) else some none
  | .rev lo n, i => if i < n then some (some (.int (lo + n - 1 - i))) else some none
  | .zip m n, i => match lstAt h m, lstAt h n with
    | some xs, some ys => if xs.length = ys.length then (match xs[i]?, ys[i]? with
      | some x, some y => some (some (.tup [x, y]))
      | _, _ => some none) else none
    | _, _ => none
def srcLen (h : Hv) : Src → Nat
  | .lst n => match lstAt h n with
    | some xs => xs.length
    | none => 0
  | .tup xs => xs.length
  | .rng _ n => n
  | .rev _ n => n
  | .zip m _ => match lstAt h m with
    | some xs => xs.length
    | none => 0
abbrev DI := Sl → Hv → R Src
/-- the pairs of a locked dict with tuple keys, each a new tuple -/
def ItiT (d : Addr) (o : Obj) (kvs : List (List Key × V)) : It :=
  ⟨fun i H => H d = some (.frz o (.dT kvs)) ∧ i < kvs.length, fun i H x H' => ∃ (T q : Addr) (k : List Key) (v : V), kvs[i]? = some (k, v) ∧ H q = some (.tup (k.map kV)) ∧ x = .ref T ∧ H T = none ∧ H' = upd H T (.tup [.ref q, v]), fun i H => H d = some (.frz o (.dT kvs)) ∧ kvs.length ≤ i⟩
inductive RepI (K : PySem.W.Frag) (φ : List Addr) (H : Hp) : Src → It → Prop
  | lst {n : Nat} {a : Addr} (e : φ[n]? = some a) : RepI K φ H (.lst n) (Itl K a)
  | tup {xs : List D} {vs : List V} {a : Addr} (hs : SqT K H a vs) (r : RepL K φ H xs vs) : RepI K φ H (.tup xs) (Itt K a)
  | rng {lo : Int} {n : Nat} : RepI K φ H (.rng lo n) (Itr lo n)
  | rev {lo : Int} {n : Nat} : RepI K φ H (.rev lo n) (Itc (lo + n - 1) (-1) n)
  | zip {m n : Nat} {a b : Addr} (e : φ[m]? = some a) (e' : φ[n]? = some b) : RepI K φ H (.zip m n) (Itz K a b)
  | kK {d : Addr} {o : Obj} {vs : List (Key × V)} {xs : List D} (hd : H d = some (.frz o (.dK vs))) (r : RepL K φ H xs (vs.map fun p => kV p.1)) : RepI K φ H (.tup xs) (Itk d o vs)
  | kT {d : Addr} {o : Obj} {vs : List (List Key × V)} {xs : List D} (hd : H d = some (.frz o (.dT vs))) (e : xs = vs.map fun p => .key p.1) : RepI K φ H (.tup xs) (Itkt d o vs)
  | iT {d : Addr} {o : Obj} {vs : List (List Key × V)} {ys : List (List Key × D)} {xs : List D} (hd : H d = some (.frz o (.dT vs))) (r : RepKV K φ H ys vs) (e : xs = ys.map fun p => .tup [.key p.1, p.2]) : RepI K φ H (.tup xs) (ItiT d o vs)
end DL

set_option Elab.async false
set_option linter.all false
set_option autoImplicit false
set_option maxRecDepth 100000
namespace DL
open PySem PySem.Spec PyProof.Rows L2

theorem RepI.mono {K : PySem.W.Frag} {φ φ' : List Addr} {H H' : Hp} (le : Le K φ φ' H H') {s : Src} {J : It} (r : RepI K φ H s J) : RepI K φ' H' s J := by
  cases r with
  | lst e => exact .lst (prefix_get le.pre e)
  | tup hs r => exact .tup (le.tup _ _ hs) (RepL.mono le _ _ r)
  | rng => exact .rng
  | rev => exact .rev
  | zip e e' => exact .zip (prefix_get le.pre e) (prefix_get le.pre e')
  | kK hd r => exact .kK (le.frz _ _ _ hd) (RepL.mono le _ _ r)
  | kT hd e => exact .kT (le.frz _ _ _ hd) e
  | iT hd r e => exact .iT (le.frz _ _ _ hd) (RepKV.mono le _ _ r) e
theorem RepKV.get {κ : Type} {K : PySem.W.Frag} {φ : List Addr} {H : Hp} : ∀ {xs : List (κ × D)} {vs : List (κ × V)}, RepKV K φ H xs vs → ∀ {i : Nat} {k : κ} {x : D}, xs[i]? = some (k, x) → ∃ v, vs[i]? = some (k, v) ∧ Rep K φ H x v
  | [], _, _, _, _, _, e => by simp at e
  | p :: xs, _, ⟨v, r, e, h1, h2⟩, 0, k, y, hy => by
    subst e
    cases (show p = (k, y) from Option.some.inj hy)
    exact ⟨v, rfl, h1⟩
  | p :: xs, _, ⟨v, r, e, h1, h2⟩, i + 1, k, y, hy => by
    subst e
    obtain ⟨u, hu, ru⟩ := RepKV.get h2 (i := i) (k := k) (x := y) (by simpa using hy)
    exact ⟨u, by simpa using hu, ru⟩
def tI (K : PySem.W.Frag) (g : Nat → Addr) (W : WX) (d : DI) : TI := fun σ H R => ∃ φ ρ h, Sim K g φ h H ∧ EnvR K φ H ρ σ ∧ Post K g (RepI K) W σ φ H (d ρ h) R
/-- L: the hand layer's lists are told apart -/
structure Inj (K : PySem.W.Frag) (H : Hp) : Prop where
  l : ∀ a xs ys, SqL K H a xs → SqL K H a ys → xs = ys
  t : ∀ a xs ys, SqT K H a xs → SqT K H a ys → xs = ys
section
variable {K : PySem.W.Frag} {g : Nat → Addr} {φ : List Addr} {h : Hv} {H : Hp} {s : Src} {J : It} {i : Nat}
theorem src_stop (S : Sim K g φ h H) (r : RepI K φ H s J) (e : srcAt h s i = some none) : J.stop i H := by
  cases r with
  | @lst n a ea =>
    simp only [srcAt] at e
    split at e
    · rename_i xs hx
      obtain ⟨a', vs, e1, h1, h2⟩ := lstAt_rep S hx (v := .ref a) ⟨a, rfl, ea⟩
      cases e1
      refine ⟨vs, h1, ?_⟩
      have : xs[i]? = none := Option.some.inj e
      rw [RepL.length h2]
      exact List.getElem?_eq_none_iff.mp this
    · cases e
  | @tup xs vs a hs r =>
    refine ⟨vs, hs, ?_⟩
    have : xs[i]? = none := Option.some.inj e
    rw [RepL.length r]
    exact List.getElem?_eq_none_iff.mp this
  | @rng lo n =>
    simp only [srcAt] at e
    split at e
    · cases e
    · exact Nat.not_lt.mp (by assumption)
  | @rev lo n =>
    simp only [srcAt] at e
    split at e
    · cases e
    · exact Nat.not_lt.mp (by assumption)
  | @zip m n a b ea eb =>
    simp only [srcAt] at e
    split at e
    · rename_i xs ys hx hy
      obtain ⟨a', vs, e1, h1, h2⟩ := lstAt_rep S hx (v := .ref a) ⟨a, rfl, ea⟩
      obtain ⟨b', ws, e2, h3, h4⟩ := lstAt_rep S hy (v := .ref b) ⟨b, rfl, eb⟩
      cases e1
      cases e2
      split at e
      · rename_i hl
        refine ⟨vs, ws, h1, h3, ?_⟩
        rw [RepL.length h2, RepL.length h4]
        split at e
        · cases e
        · rename_i hno
          by_cases hi : i < xs.length
          · exact (hno xs[i] (ys[i]'(by omega)) (List.getElem?_eq_getElem hi) (List.getElem?_eq_getElem (by omega))).elim
          · exact .inl (Nat.not_lt.mp hi)
      · cases e
    · cases e
  | @kK d o vs xs hd r =>
    refine ⟨hd, ?_⟩
    have : xs[i]? = none := Option.some.inj e
    have l := RepL.length r
    rw [List.length_map] at l
    rw [l]
    exact List.getElem?_eq_none_iff.mp this
  | @kT d o vs xs hd ex =>
    refine ⟨hd, ?_⟩
    have : xs[i]? = none := Option.some.inj e
    have l := List.getElem?_eq_none_iff.mp this
    rw [ex, List.length_map] at l
    exact l
  | @iT d o vs ys xs hd r ex =>
    refine ⟨hd, ?_⟩
    have : xs[i]? = none := Option.some.inj e
    have l := List.getElem?_eq_none_iff.mp this
    rw [ex, List.length_map] at l
    rw [RepKV.length r]
    exact l
theorem src_go (S : Sim K g φ h H) (r : RepI K φ H s J) {x : D} (e : srcAt h s i = some (some x)) : J.go i H ∧ ∀ v H', J.yld i H v H' → Le K φ φ H H' ∧ Sim K g φ h H' ∧ Rep K φ H' x v := by
  cases r with
  | @lst n a ea =>
    simp only [srcAt] at e
    split at e
    · rename_i xs hx
      obtain ⟨a', vs, e1, h1, h2⟩ := lstAt_rep S hx (v := .ref a) ⟨a, rfl, ea⟩
      cases e1
      have hxi : xs[i]? = some x := Option.some.inj e
      obtain ⟨v, h3, h4⟩ := RepL.get h2 hxi
      refine ⟨⟨vs, v, h1, h3⟩, fun u H' y => ?_⟩
      obtain ⟨rfl, y2⟩ := y
      have : v = u := Option.some.inj (h3.symm.trans (y2 vs h1))
      subst this
      exact ⟨Le.refl K, S, h4⟩
    · cases e
  | @tup xs vs a hs r =>
    have hxi : xs[i]? = some x := Option.some.inj e
    obtain ⟨v, h3, h4⟩ := RepL.get r hxi
    refine ⟨⟨vs, v, hs, h3⟩, fun u H' y => ?_⟩
    obtain ⟨rfl, y2⟩ := y
    have : v = u := Option.some.inj (h3.symm.trans (y2 vs hs))
    subst this
    exact ⟨Le.refl K, S, h4⟩
  | @rng lo n =>
    simp only [srcAt] at e
    split at e
    · rename_i hi
      cases (show _ = _ from Option.some.inj (Option.some.inj e))
      refine ⟨hi, fun u H' y => ?_⟩
      obtain ⟨rfl, rfl⟩ := y
      exact ⟨Le.refl K, S, rfl⟩
    · cases e
  | @rev lo n =>
    simp only [srcAt] at e
    split at e
    · rename_i hi
      cases (show _ = _ from Option.some.inj (Option.some.inj e))
      refine ⟨hi, fun u H' y => ?_⟩
      obtain ⟨rfl, rfl⟩ := y
      refine ⟨Le.refl K, S, ?_⟩
      show V.int _ = V.int _
      congr 1
      omega
    · cases e
  | @zip m n a b ea eb =>
    simp only [srcAt] at e
    split at e
    · rename_i xs ys hx hy
      obtain ⟨a', vs, e1, h1, h2⟩ := lstAt_rep S hx (v := .ref a) ⟨a, rfl, ea⟩
      obtain ⟨b', ws, e2, h3, h4⟩ := lstAt_rep S hy (v := .ref b) ⟨b, rfl, eb⟩
      cases e1
      cases e2
      split at e
      · split at e
        · rename_i y z hy' hz'
          cases (show _ = _ from Option.some.inj (Option.some.inj e))
          obtain ⟨v, q1, q2⟩ := RepL.get h2 hy'
          obtain ⟨w, q3, q4⟩ := RepL.get h4 hz'
          refine ⟨⟨vs, ws, v, w, h1, h3, q1, q3⟩, fun u H' yy => ?_⟩
          obtain ⟨T, v', w', rfl, nT, rfl, y1, y2⟩ := yy
          have e1 : v = v' := Option.some.inj (q1.symm.trans (y1 vs h1))
          have e2 : w = w' := Option.some.inj (q3.symm.trans (y2 ws h3))
          subst e1 e2
          exact ⟨Le.newT nT, S.newT nT, T, [v, w], rfl, SqT.of upd_same, v, [w], rfl, Rep.mono (Le.newT nT) _ _ q2, w, [], rfl, Rep.mono (Le.newT nT) _ _ q4, rfl⟩
        · cases (Option.some.inj e)
      · cases e
    · cases e
  | @kK d o vs xs hd r =>
    have hxi : xs[i]? = some x := Option.some.inj e
    obtain ⟨v, h3, h4⟩ := RepL.get r hxi
    have hl : i < vs.length := by
      have := (List.getElem?_eq_some_iff.mp h3).1
      rw [List.length_map] at this
      exact this
    refine ⟨⟨hd, hl⟩, fun u H' y => ?_⟩
    obtain ⟨rfl, k, w, y2, rfl⟩ := y
    rw [List.getElem?_map, y2] at h3
    cases (show kV k = v from Option.some.inj h3)
    exact ⟨Le.refl K, S, h4⟩
  | @kT d o vs xs hd ex =>
    have hxi : xs[i]? = some x := Option.some.inj e
    rw [ex, List.getElem?_map] at hxi
    cases hv : vs[i]? with
    | none => rw [hv] at hxi; cases hxi
    | some p =>
      rw [hv] at hxi
      cases (show D.key p.1 = x from Option.some.inj hxi)
      refine ⟨⟨hd, (List.getElem?_eq_some_iff.mp hv).1⟩, fun u H' y => ?_⟩
      obtain ⟨rfl, k, w, q, y2, rfl, hq⟩ := y
      rw [hv] at y2
      cases (show p = (k, w) from Option.some.inj y2)
      exact ⟨Le.refl K, S, q, rfl, hq⟩
  | @iT d o vs ys xs hd r ex =>
    have hxi : xs[i]? = some x := Option.some.inj e
    rw [ex, List.getElem?_map] at hxi
    cases hv : ys[i]? with
    | none => rw [hv] at hxi; cases hxi
    | some p =>
      rw [hv] at hxi
      cases (show D.tup [D.key p.1, p.2] = x from Option.some.inj hxi)
      obtain ⟨w, hw, rw'⟩ := RepKV.get r (k := p.1) (x := p.2) hv
      refine ⟨⟨hd, (List.getElem?_eq_some_iff.mp hw).1⟩, fun u H' y => ?_⟩
      obtain ⟨T, q, k, w2, y2, hq, rfl, nT, rfl⟩ := y
      rw [hw] at y2
      cases (show (p.1, w) = (k, w2) from Option.some.inj y2)
      exact ⟨Le.newT nT, S.newT nT, T, [.ref q, w], rfl, SqT.of upd_same, .ref q, [w], rfl, ⟨q, rfl, (Le.newT (K := K) (φ := φ) nT).trk _ _ hq⟩, w, [], rfl, Rep.mono (Le.newT nT) _ _ rw', rfl⟩
end

/-! ### for -/
def loopR (src : Src) (t : DG) (b : DS) : Nat → Nat → Sl → Hv → SR
  | 0, _, _, _ => .no
  | m + 1, i, ρ, h => match srcAt h src i with
    | none => .no
    | some none => .nx ρ h
    | some (some x) => match t x ρ with
      | none => .no
      | some ρ1 => match b ρ1 h with
        | .nx ρ' h' => loopR src t b m (i + 1) ρ' h'
        | .ct ρ' h' => loopR src t b m (i + 1) ρ' h'
        | .bk ρ' h' => .nx ρ' h'
        | r => r
def dFor (it : DI) (t : DG) (b : DS) : DS := fun ρ h => SR.of ρ (it ρ h) fun src h1 => loopR src t b (srcLen h1 src + 1) 0 ρ h1
section
variable {X : Cx} {g : Nat → Addr} {W : WX} {iter tg : Expr} {body : List Stmt} {di : DI} {dg : DG} {ds : DS} {vs : List Nat} {pos : Pos}
theorem ds_for (hp : PassesOwn (model X.prog X.w) X.A X.env X.xe) (hc : X.calm = true) (hi : PI X tg iter (tI X.K g W di)) (hg : PG X tg (tG X.K vs dg)) (hb : PSs X body (tS X.K g W ds)) (hs : ∀ x, foldedSetIterable iter X.env x = pure x := by intro _; rfl) :
    PS X (.For tg iter body [] pos) (tS X.K g W (dFor di dg ds)) := by
  refine ps_imp (ps_for hp hc hi hg hb hs) fun B σ H ⟨φ, ρ, h, S, E, p⟩ => ?_
  refine ⟨φ, ρ, h, S, E, PostS.of E p fun φ1 H1 src h1 J le1 S1 E1 r1 p1 => ?_⟩
  refine ⟨fun i m σ H => ∃ φ ρ h, RepI X.K φ H src J ∧ Sim X.K g φ h H ∧ EnvR X.K φ H ρ σ ∧ PostS X.K g W B φ H (loopR src dg ds m i ρ h), ⟨_, φ1, ρ, h1, r1, S1, E1, p1⟩, ?_⟩
  rintro i m σ H ⟨φ, ρ, h, r, S, E, p⟩
  cases m with
  | zero => exact p.elim
  | succ m =>
    unfold loopR at p
    cases e : srcAt h src i with
    | none => rw [e] at p; exact p.elim
    | some o =>
      cases o with
      | none =>
        rw [e] at p
        exact .inl ⟨src_stop S r e, PostS.here p S E⟩
      | some x =>
        rw [e] at p
        obtain ⟨go, yl⟩ := src_go S r e
        refine .inr ⟨go, fun σ' H' => ∃ φ ρ h, RepI X.K φ H' src J ∧ Sim X.K g φ h H' ∧ EnvR X.K φ H' ρ σ' ∧ PostS X.K g W B φ H' (loopR src dg ds m (i + 1) ρ h), fun σ' H' q => ⟨m, Nat.lt_succ_self m, q⟩, fun v H' y => ?_⟩
        obtain ⟨le, S', rx⟩ := yl v H' y
        cases et : dg x ρ with
        | none => simp only [et] at p; exact p.elim
        | some ρ1 =>
          simp only [et] at p
          refine ⟨φ, ρ, x, ρ1, E.mono le, rx, et, fun σ1 E1 _ => ⟨φ, ρ1, h, S', E1, ?_⟩⟩
          have p' := PostS.mono le p
          cases z : ds ρ1 h with
          | nx ρ' h' => simp only [z] at p'; exact fun φ2 H2 σ2 l S2 E2 => ⟨φ2, ρ', h', (r.mono le).mono l, S2, E2, PostS.mono l p'⟩
          | ct ρ' h' => simp only [z] at p'; exact fun φ2 H2 σ2 l S2 E2 => ⟨φ2, ρ', h', (r.mono le).mono l, S2, E2, PostS.mono l p'⟩
          | bk ρ' h' => simp only [z] at p'; exact p'
          | rt x h' => simp only [z] at p'; exact p'
          | ex x ρ' h' => simp only [z] at p'; exact p'
          | no => simp only [z] at p'; exact p'
end

/-! ### what is walked -/
def diOf (e : DE) : DI := fun ρ h => (e ρ h).bind fun x h1 => match x with
  | .ref n => match lstAt h1 n with
    | some _ => .ok (.lst n) h1
    | none => .no
  | .tup xs => .ok (.tup xs) h1
  | _ => .no
def diRng1 (a : DE) : DI := fun ρ h => (a ρ h).bind fun x h1 => match x with
  | .int j => if j ≤ 1000000 ∧ -1000000 ≤ j then .ok (.rng 0 j.toNat) h1 else .no
  | _ => .no
def diRng2 (a b : DE) : DI := fun ρ h => (a ρ h).bind fun x h1 => (b ρ h1).bind fun y h2 => match x, y with
  | .int i, .int j => if i ≤ 1000000 ∧ -1000000 ≤ i ∧ j ≤ 1000000 ∧ -1000000 ≤ j then .ok (.rng i (j - i).toNat) h2 else .no
  | _, _ => .no
def diRevRng (a : DE) : DI := fun ρ h => (a ρ h).bind fun x h1 => match x with
  | .int j => if j ≤ 1000000 ∧ -1000000 ≤ j then .ok (.rev 0 j.toNat) h1 else .no
  | _ => .no
def diZip (a b : DE) : DI := fun ρ h => (a ρ h).bind fun x h1 => (b ρ h1).bind fun y h2 => match x, y with
  | .ref m, .ref n => match lstAt h2 m, lstAt h2 n with
    | some _, some _ => .ok (.zip m n) h2
    | _, _ => .no
  | _, _ => .no
section
variable {X : Cx} {g : Nat → Addr} {W : WX} {e a b tg : Expr} {da db : DE} {p pos : Pos}
theorem pi_imp {tg iter : Expr} {t t' : TI} (h : PI X tg iter t) (f : ∀ σ H R, t' σ H R → t σ H R) : PI X tg iter t' := ⟨fun pins s σ H R I q => h.run pins s σ H R I (f σ H R q)⟩
theorem pi_or {tg iter : Expr} {t t' : TI} (h : PI X tg iter t) (h' : PI X tg iter t') : PI X tg iter (fun σ H R => t σ H R ∨ t' σ H R) := ⟨fun pins s σ H R I q => q.elim (h.run pins s σ H R I) (h'.run pins s σ H R I)⟩
theorem pe_join {e : Expr} {t t' : TE} {r : TI} {tg : Expr} (f : PE X e t → PI X tg e r) (h : PE X e t) : PI X tg e r := f h
theorem di_of (he : PE X e (tE X.K g W da)) : PI X tg e (tI X.K g W (diOf da)) := by
  -- the walk's reading is chosen behind the expression
  have h1 : PE X e (fun σ H Q => tE X.K g W da σ H Q) := he
  refine ⟨fun pins s σ H R I ⟨φ, ρ, h, S, E, q⟩ => ?_⟩
  refine thn (he.run pins s σ H (fun v H1 => (∃ a, v = .ref a ∧ (∃ xs, SqL X.K H1 a xs) ∧ R (Itl X.K a) H1) ∨ ∃ a, v = .ref a ∧ (∃ xs, SqT X.K H1 a xs) ∧ R (Itt X.K a) H1) I ⟨φ, ρ, h, S, E, Post.bind q fun φ1 H1 x h1 v le1 S1 r1 p1 => ?_⟩) fun v s1 ⟨x, H1, I1, r1, q1⟩ => ?_
  · split at p1
    · split at p1
      · rename_i n xs hx
        obtain ⟨a, vs, e1, h1, h2⟩ := lstAt_rep S1 hx r1
        obtain ⟨a', e1', ea⟩ := r1
        cases e1.symm.trans e1'
        exact .inl ⟨a, e1, ⟨vs, h1⟩, p1.here S1 (.lst ea)⟩
      · exact p1.elim
    · obtain ⟨a, vs, e1, h1, h2⟩ := r1
      exact .inr ⟨a, e1, ⟨vs, h1⟩, p1.here S1 (.tup h1 h2)⟩
    · exact p1.elim
  · rcases q1 with ⟨a, e1, ⟨xs, hq⟩, q⟩ | ⟨a, e1, ⟨xs, hq⟩, q⟩
    · subst e1
      cases r1
      obtain ⟨its, rv, pl, hz⟩ := I1.list hq
      refine wpAny_pyIter_list pl.isList ?_
      exact pi_one (tk := s1.toks) I1 _ (turn_list a _) ⟨_, Heap.get?_push_size _ rfl, rfl, rfl⟩ q
    · subst e1
      cases r1
      obtain ⟨its, rv, pl, hz⟩ := I1.tuple hq
      refine wpAny_pyIter_tuple (show s1.heap.IsTuple a its.toArray from pl) ?_
      exact pi_one (tk := s1.toks) I1 _ (turn_tuple a _) ⟨_, Heap.get?_push_size _ rfl, rfl, rfl⟩ q
theorem di_rng1 (ha : PE X a (tE X.K g W da)) (hm : X.mg "range" = none) (hg : Gl X "range" := by rfl) (hs : starEach [a] X.env = [(false, eval a X.env)] := by rfl) : PI X tg (.Call (.Name "range" p) [a] [] pos) (tI X.K g W (diRng1 da)) := by
  refine pi_imp (pi_range1 hg hm (da_cons ha da_nil (by rw [hs]; rfl)) hs) fun σ H R ⟨φ, ρ, h, S, E, q⟩ => ?_
  have q' : Post X.K g (RepI X.K) W σ φ H ((aCons da aNil ρ h).bind fun xs h1 => match xs with | [.int j] => if j ≤ 1000000 ∧ -1000000 ≤ j then .ok (.rng 0 j.toNat) h1 else .no | _ => .no) R := by
    unfold diRng1 at q
    unfold aCons aNil
    cases z : da ρ h with
    | ok x h1 => rw [z] at q; cases x <;> exact q
    | ex x h1 => rw [z] at q; exact q
    | no => rw [z] at q; exact q
  refine ⟨φ, ρ, h, S, E, Post.bind q' fun φ1 H1 xs h1 vs le1 S1 r1 p1 => ?_⟩
  split at p1
  · split at p1
    · rename_i hc
      obtain ⟨v, _, e1, r2, e2⟩ := r1
      subst e1 e2
      cases (show v = _ from r2)
      exact ⟨_, rfl, by omega, by omega, p1.here S1 .rng⟩
    · exact p1.elim
  · exact p1.elim
theorem di_rng2 (ha : PE X a (tE X.K g W da)) (hb : PE X b (tE X.K g W db)) (hm : X.mg "range" = none) (hg : Gl X "range" := by rfl) (hs : starEach [a, b] X.env = [(false, eval a X.env), (false, eval b X.env)] := by rfl) (hs2 : starEach [b] X.env = [(false, eval b X.env)] := by rfl) :
    PI X tg (.Call (.Name "range" p) [a, b] [] pos) (tI X.K g W (diRng2 da db)) := by
  refine pi_imp (pi_range2 hg hm (da_cons ha (da_cons hb da_nil (by rw [hs2]; rfl)) (by rw [hs, hs2])) hs hs2) fun σ H R ⟨φ, ρ, h, S, E, q⟩ => ?_
  have q' : Post X.K g (RepI X.K) W σ φ H ((aCons da (aCons db aNil) ρ h).bind fun xs h2 => match xs with | [.int i, .int j] => if i ≤ 1000000 ∧ -1000000 ≤ i ∧ j ≤ 1000000 ∧ -1000000 ≤ j then .ok (.rng i (j - i).toNat) h2 else .no | _ => .no) R := by
    unfold diRng2 at q
    unfold aCons aNil
    cases z : da ρ h with
    | ok x h1 =>
      rw [z] at q
      simp only [DL.R.bind_ok] at q ⊢
      cases z2 : db ρ h1 with
      | ok y h2 =>
        rw [z2] at q
        cases x <;> cases y <;> exact q
      | ex y h2 => rw [z2] at q; exact q
      | no => rw [z2] at q; exact q.elim
    | ex x h1 => rw [z] at q; exact q
    | no => rw [z] at q; exact q
  refine ⟨φ, ρ, h, S, E, Post.bind q' fun φ1 H1 xs h1 vs le1 S1 r1 p1 => ?_⟩
  split at p1
  · split at p1
    · obtain ⟨v, _, e1, r2, w, _, e2, r3, e3⟩ := r1
      subst e1 e2 e3
      rename_i hc
      cases (show v = _ from r2)
      cases (show w = _ from r3)
      exact ⟨_, _, rfl, by omega, p1.here S1 .rng⟩
    · exact p1.elim
  · exact p1.elim
theorem di_revRng {p2 pos2 : Pos} (ha : PE X a (tE X.K g W da)) (hm : X.mg "reversed" = none) (hm2 : X.mg "range" = none) (hg : Gl X "reversed" := by rfl) (hg2 : Gl X "range" := by rfl) (hs : starEach [.Call (.Name "range" p) [a] [] pos] X.env = (false, eval (.Call (.Name "range" p) [a] [] pos) X.env) :: starEach [] X.env := by rfl)
    (na : starEach [a] X.env = (false, eval a X.env) :: starEach [] X.env := by rfl) : PI X tg (.Call (.Name "reversed" p2) [.Call (.Name "range" p) [a] [] pos] [] pos2) (tI X.K g W (diRevRng da)) := by
  refine pi_imp (pi_revR hg hm (prg_1 hg2 hm2 ha na) hs) fun σ H R ⟨φ, ρ, h, S, E, q⟩ => ?_
  refine ⟨φ, ρ, h, S, E, Post.bind q fun φ1 H1 x h1 v le1 S1 r1 p1 => ?_⟩
  split at p1
  · split at p1
    · rename_i hc
      cases (show v = _ from r1)
      refine ⟨_, rfl, by omega, by omega, by omega, by omega, p1.here S1 ?_⟩
      rw [Int.sub_zero]
      exact .rev
    · exact p1.elim
  · exact p1.elim
theorem di_zip {elts : List Expr} {kk : Nat} {tpos : Pos} (ha : PE X a (tE X.K g W da)) (hb : PE X b (tE X.K g W db)) (hm : X.mg "zip" = none) (hg : Gl X "zip" := by rfl) (hs : starEach [a, b] X.env = (false, eval a X.env) :: starEach [b] X.env := by rfl) (hs2 : starEach [b] X.env = (false, eval b X.env) :: starEach [] X.env := by rfl)
    (hpl : (backTo pos (starEach [b] X.env)).any (·.1) = false := by rfl) : PI X (.Tuple elts kk tpos) (.Call (.Name "zip" p) [a, b] [] pos) (tI X.K g W (diZip da db)) := by
  refine pi_imp (pi_zip hg hm (pa_cons ha (pa_cons hb pa_nil hs2) hs) hs hpl) fun σ H R ⟨φ, ρ, h, S, E, q⟩ => ?_
  refine ⟨φ, ρ, h, S, E, Post.bind q fun φ1 H1 x h1 v le1 S1 r1 p1 => ?_⟩
  refine ⟨φ1, ρ, h1, S1, E.mono le1, Post.bind p1 fun φ2 H2 y h2 u le2 S2 r2 p2 => ?_⟩
  split at p2
  · split at p2
    · rename_i xs ys hx hy
      have r1' := Rep.mono le2 _ _ r1
      obtain ⟨a1, vs, e1, q1, q2⟩ := lstAt_rep S2 hx r1'
      obtain ⟨a2, ws, e2, q3, q4⟩ := lstAt_rep S2 hy r2
      obtain ⟨a1', e1', ea⟩ := r1'
      obtain ⟨a2', e2', eb⟩ := r2
      cases e1.symm.trans e1'
      cases e2.symm.trans e2'
      subst e1 e2
      exact ⟨a1, a2, vs, ws, rfl, q1, q3, p2.here S2 (.zip ea eb)⟩
    · exact p2.elim
  · exact p2.elim
end

/-! ### comprehensions -/
def wipeD (ρ : Sl) : List Nat → Sl
  | [] => ρ
  | v :: vs => (wipeD ρ vs).set v none
theorem wipe_env {K : PySem.W.Frag} {φ : List Addr} {H : Hp} {ρ : Sl} {σ : L2.St} (E : EnvR K φ H ρ σ) : ∀ vs : List Nat, EnvR K φ H (wipeD ρ vs) (wipe σ vs)
  | [] => E
  | v :: vs => (wipe_env E vs).unset v none
theorem wipe_get {σ : L2.St} {i : Nat} : ∀ {vs : List Nat}, i ∉ vs → (wipe σ vs)[i]? = σ[i]?
  | [], _ => rfl
  | v :: vs, h => by
    unfold wipe
    rw [List.getElem?_set_ne (fun e => h (by subst e; exact List.mem_cons_self))]
    exact wipe_get (fun e => h (List.mem_cons_of_mem _ e))
theorem wipe_in {σ : L2.St} {i : Nat} : ∀ {vs : List Nat}, i ∈ vs → (wipe σ vs)[i]? = if i < σ.length then some none else none
  | [], h => by cases h
  | v :: vs, h => by
    unfold wipe
    by_cases e : v = i
    · subst e
      by_cases hl : v < σ.length
      · rw [if_pos hl, List.getElem?_set_self (by rw [wipe_length]; exact hl)]
      · rw [if_neg hl, List.getElem?_eq_none_iff]
        rw [List.length_set, wipe_length]
        omega
    · rw [List.getElem?_set_ne e]
      rcases List.mem_cons.mp h with z | z
      · exact absurd z.symm e
      · exact wipe_in z
theorem wipe_off {σ σ' : L2.St} {vs : List Nat} (o : Off vs (wipe σ vs) σ') : wipe σ' vs = wipe σ vs := by
  refine List.ext_getElem? fun i => ?_
  have hl : σ'.length = σ.length := by rw [o.1, wipe_length]
  by_cases hi : i ∈ vs
  · rw [wipe_in hi, wipe_in hi, hl]
  · rw [wipe_get hi, o.2 i hi]
/-- a result without exceptions -/
def R.cold {α : Type} (r : R α) : R α := match r with
  | .ex _ _ => .no
  | r => r
@[simp] theorem R.cold_ok {α : Type} {a : α} {h : Hv} : (R.ok a h).cold = R.ok a h := rfl
def lcR (src : Src) (t : DG) (c : DT) (e : DE) (ρw : Sl) (n : Nat) : Nat → Nat → Hv → R D
  | 0, _, _ => .no
  | m + 1, i, h => match srcAt h src i with
    | none => .no
    | some none => .ok (.ref n) h
    | some (some x) => match t x ρw with
      | none => .no
      | some ρ1 => (c ρ1 h).cold.bind fun b h2 => if b = true then ((e ρ1 h2).cold.bind fun y h3 => match h3[n]? with
          | some (.lst acc) => if acc.length < cap then lcR src t c e ρw n m (i + 1) (h3.set n (.lst (acc ++ [y]))) else .no
          | _ => .no) else lcR src t c e ρw n m (i + 1) h2
def dLc (it : DI) (t : DG) (c : DT) (e : DE) (vs : List Nat) : DE := fun ρ h => (it ρ h).bind fun src h1 => lcR src t c e (wipeD ρ vs) h1.length (srcLen h1 src + 1) 0 (h1 ++ [.lst []])
abbrev W0 : WX := fun _ _ _ _ => False
def dYes : DT := fun _ h => .ok true h
section
variable {X : Cx} {g : Nat → Addr} {W : WX} {elt tg iter : Expr} {ifs : List Expr} {scope : Scope} {own : List (Str × Nat)} {pos : Pos} {di : DI} {dg : DG} {dc : DT} {de : DE}
theorem pts_imp {t t' : TT} (h : PTs X ifs t) (f : ∀ σ H Q, t' σ H Q → t σ H Q) : PTs X ifs t' := ⟨fun pins s σ H Q I q => h.run pins s σ H Q I (f σ H Q q)⟩
theorem dts_nil : PTs X [] (tT X.K g W dYes) := pts_imp pts_nil fun σ H Q ⟨φ, ρ, h, S, E, p⟩ => Post.here (show Post X.K g RB W σ φ H (.ok true h) Q from p) S rfl
theorem dts_one {c : Expr} (h : PT X c (tT X.K g W dc)) : PTs X [c] (tT X.K g W dc) := pts_one h
/-- no exception: the wish may be any -/
theorem Post.nox {α β : Type} {K : PySem.W.Frag} {RR : List Addr → Hp → α → β → Prop} {σ σ' : L2.St} {φ : List Addr} {H : Hp} {r : R α} {Q : β → Hp → Prop} (hx : ∀ e h, r ≠ .ex e h) (p : Post K g RR W σ φ H r Q) (W' : WX) : Post K g RR W' σ' φ H r Q := by
  cases r with
  | ok a h => exact p
  | ex e h => exact absurd rfl (hx e h)
  | no => exact p
theorem Post.cold {α β : Type} {K : PySem.W.Frag} {RR : List Addr → Hp → α → β → Prop} {W' : WX} {σ σ' : L2.St} {φ : List Addr} {H : Hp} {r : R α} {Q : β → Hp → Prop} (p : Post K g RR W σ φ H r.cold Q) : Post K g RR W' σ' φ H r Q := by
  cases r with
  | ok a h => exact p
  | ex e h => exact p.elim
  | no => exact p
theorem Post.coldBind {α β γ δ : Type} {K : PySem.W.Frag} {RR : List Addr → Hp → α → β → Prop} {RS : List Addr → Hp → γ → δ → Prop} {W : WX} {σ σ' : L2.St} {φ : List Addr} {H : Hp} {r : R α} {k : α → Hv → R γ} {Q : δ → Hp → Prop} {Q' : β → Hp → Prop}
    (p : Post K g RS W σ φ H (r.cold.bind k) Q) (step : ∀ φ' H' a h' b, Le K φ φ' H H' → Sim K g φ' h' H' → RR φ' H' a b → Post K g RS W σ φ' H' (k a h') Q → Q' b H') : Post K g RR W0 σ' φ H r Q' := by
  cases r with
  | ok a h' => exact fun φ2 H2 b l S q => step φ2 H2 a h' b l S q (Post.mono l p)
  | ex e h' => exact p.elim
  | no => exact p
theorem lc_of {wi : TI} {vs : List Nat} {σ : L2.St} {H : Hp} {Q : VK} (hi : ∀ σ H R, tI X.K g W di σ H R → wi σ H R) (z : tE X.K g W (dLc di dg dc de vs) σ H Q) :
    tLc wi (tG X.K vs dg) (tT X.K g W0 dc) (tE X.K g W0 de) vs σ H Q := by
  obtain ⟨φ, ρ, h, S, E, p⟩ := z
  refine hi σ H _ ⟨φ, ρ, h, S, E, Post.bind p fun φ1 H1 src h1 J le1 S1 r1 p1 => fun Dl hD => ?_⟩
  have S2 : Sim X.K g (φ1 ++ [Dl]) (h1 ++ [.lst []]) (upd H1 Dl (.lst [])) := S1.newO hD (.lst rfl)
  have eD : (φ1 ++ [Dl])[h1.length]? = some Dl := newO_get S1
  refine ⟨fun i m H => ∃ φ h, RepI X.K φ H src J ∧ φ[h1.length]? = some Dl ∧ Sim X.K g φ h H ∧ EnvR X.K φ H (wipeD ρ vs) (wipe σ vs) ∧ Post X.K g (Rep X.K) W σ φ H (lcR src dg dc de (wipeD ρ vs) h1.length m i h) Q,
    ⟨_, φ1 ++ [Dl], _, r1.mono (Le.newO hD), eD, S2, wipe_env ((E.mono le1).mono (Le.newO hD)) vs, p1.mono (Le.newO hD)⟩, ?_⟩
  rintro i m H ⟨φ, h, r, eD, S, E, p⟩
  cases m with
  | zero => exact p.elim
  | succ m =>
    unfold lcR at p
    cases e : srcAt h src i with
    | none => rw [e] at p; exact p.elim
    | some o =>
      cases o with
      | none =>
        rw [e] at p
        exact .inl ⟨src_stop S r e, Post.here p S ⟨Dl, rfl, eD⟩⟩
      | some x =>
        rw [e] at p
        obtain ⟨go, yl⟩ := src_go S r e
        refine .inr ⟨go, fun H' => ∃ φ h, RepI X.K φ H' src J ∧ φ[h1.length]? = some Dl ∧ Sim X.K g φ h H' ∧ EnvR X.K φ H' (wipeD ρ vs) (wipe σ vs) ∧ Post X.K g (Rep X.K) W σ φ H' (lcR src dg dc de (wipeD ρ vs) h1.length m (i + 1) h) Q, fun H' q => ⟨m, Nat.lt_succ_self m, q⟩, fun v H' y => ?_⟩
        obtain ⟨le, S', rx⟩ := yl v H' y
        cases et : dg x (wipeD ρ vs) with
        | none => simp only [et] at p; exact p.elim
        | some ρ1 =>
          simp only [et] at p
          refine ⟨φ, wipeD ρ vs, x, ρ1, E.mono le, rx, et, fun σ1 E1 o1 => ⟨wipe_off o1, ?_⟩⟩
          have p' := Post.mono le p
          refine ⟨φ, ρ1, h, S', E1, Post.coldBind p' fun φ2 H2 b h2 b' le2 S2 rb p2 => ?_⟩
          cases rb
          cases b with
          | false =>
            rw [if_neg Bool.false_ne_true] at p2 ⊢
            exact ⟨φ2, h2, (r.mono le).mono le2, prefix_get le2.pre eD, S2, (E.mono le).mono le2, p2⟩
          | true =>
            rw [if_pos rfl] at p2 ⊢
            refine ⟨φ2, ρ1, h2, S2, E1.mono le2, Post.coldBind p2 fun φ3 H3 y h3 u le3 S3 ry p3 => ?_⟩
            split at p3
            · rename_i acc hacc
              split at p3
              · rename_i hc
                have eD3 : φ3[h1.length]? = some Dl := prefix_get le3.pre (prefix_get le2.pre eD)
                obtain ⟨a, us, ea, ea2, hH, ru⟩ := lst_own S3 hacc (v := .ref Dl) ⟨Dl, rfl, eD3⟩
                cases ea
                have nt : ∀ vs, HO.lst us ≠ .tup vs := fun _ z => nomatch z
                have nz : ∀ ob vs, HO.lst us ≠ .frz ob vs := fun _ _ z => nomatch z
                have lm : Le X.K φ3 φ3 H3 (upd H3 Dl (.lst (us ++ [u]))) := Le.mut hH nt nz
                refine ⟨us, hH, by rw [RepL.length ru]; exact cap_lt hc, φ3, h3.set h1.length (.lst (acc ++ [y])), ((r.mono le).mono (le2.trans le3)).mono lm, eD3, S3.mut eD3 hH nt nz (.lst (RepL.append ru (RepL.one ry))), ((E.mono le).mono (le2.trans le3)).mono lm, p3.mono lm⟩
              · exact p3.elim
            · exact p3.elim
/-- a comprehension; its block is read in a context of its own -/
theorem de_lc (hc : X.calm = true) (hN : X.N.Nodup) (hi : PI X tg iter (tI X.K g W di)) (ok : BlkOk X.N X.env.scope scope own)
    (hg : ∀ (s : Shared) (H : Hp) (C : Addr) (cl : List (Str × Addr)) (fp : List Addr), PG (X.blk s H scope (compEnvC scope cl C X.env) fp) tg (tG X.K (own.map (·.2)) dg)) (ht : ∀ (s : Shared) (H : Hp) (C : Addr) (cl : List (Str × Addr)) (fp : List Addr), PTs (X.blk s H scope (compEnvC scope cl C X.env) fp) ifs (tT X.K g W0 dc))
    (he : ∀ (s : Shared) (H : Hp) (C : Addr) (cl : List (Str × Addr)) (fp : List Addr), PE (X.blk s H scope (compEnvC scope cl C X.env) fp) elt (tE X.K g W0 de)) (hs : ∀ x, foldedSetIterable iter X.env x = pure x := by intro _; rfl) :
    PE X (.ListComp elt [⟨tg, iter, ifs, 0⟩] scope pos) (tE X.K g W (dLc di dg dc de (own.map (·.2)))) :=
  pe_imp (pe_lc hc hN hi ok hg ht he hs) fun σ H Q z => lc_of (fun _ _ _ q => q) z
/-- name = [..] on one line -/
theorem ds_setLc (i : Nat) {y : Str} {py spos : Pos} (hc : X.calm = true) (hN : X.N.Nodup) (hi : PI X tg iter (tI X.K g W di)) (ok : BlkOk X.N X.env.scope scope own)
    (hg : ∀ (s : Shared) (H : Hp) (C : Addr) (cl : List (Str × Addr)) (fp : List Addr), PG (X.blk s H scope (compEnvC scope cl C X.env) fp) tg (tG X.K (own.map (·.2)) dg)) (ht : ∀ (s : Shared) (H : Hp) (C : Addr) (cl : List (Str × Addr)) (fp : List Addr), PTs (X.blk s H scope (compEnvC scope cl C X.env) fp) ifs (tT X.K g W0 dc))
    (he : ∀ (s : Shared) (H : Hp) (C : Addr) (cl : List (Str × Addr)) (fp : List Addr), PE (X.blk s H scope (compEnvC scope cl C X.env) fp) elt (tE X.K g W0 de)) (hy : X.N[i]? = some y := by rfl) (hyl : X.env.scope.names.lookup y = some .local := by rfl)
    (hsw : swapsWith (.ListComp elt [⟨tg, iter, ifs, 0⟩] scope pos) (some (.Name y py)) spos.line X.env = pure true := by exact sw_true rfl rfl rfl (by decide +kernel)) (hs : ∀ x, foldedSetIterable iter X.env x = pure x := by intro _; rfl) :
    PS X (.Assign [.Name y py] (.ListComp elt [⟨tg, iter, ifs, 0⟩] scope pos) spos) (tS X.K g W (dSet i (dLc di dg dc de (own.map (·.2))))) := by
  refine ps_imp (ps_setLc hc hN hy hyl hsw hi ok hg ht he hs) fun B σ H ⟨φ, ρ, h, S, E, p⟩ => ?_
  have z : tE X.K g W (dLc di dg dc de (own.map (·.2))) σ H (fun v H1 => gName i v σ H1 B.nx) := ⟨φ, ρ, h, S, E, PostS.of E p fun φ1 H1 x h1 v le1 S1 E1 r1 p1 => PostS.here p1 S1 (E1.set i r1)⟩
  exact lc_of (fun _ _ _ q => q) z
end
end DL

set_option Elab.async false
set_option linter.all false
set_option autoImplicit false
set_option maxRecDepth 100000
namespace DL
open PySem PySem.Spec PyProof.Rows L2

theorem takesN0 {X : Cx} : L2N.Takes X (fun _ _ _ _ => False) := fun u s' h => by
  obtain ⟨_, _, _, _, _, _, _, _, _, _, _, _, _, _, _, _, z⟩ := h
  exact z.elim
/-! ### a def's promise where no text of a thing is being made (FnG), so that str of lists is known -/
structure FnG (P : Program) (w : World) (K : PySem.W.Frag) (mg : Str → Option Value) (base : Heap) (C : CXT) (k : Nat) (f : Addr) (fd : FuncData) (ps : List Str) (sp : Sp) : Prop where
  len : ∀ vs H Q E, sp vs H Q E → vs.length = ps.length
  run : ∀ (A : Around) (ou : List PySem.Env) (s : Shared) (H : Hp) (args : Args) (us : List Value) (vs : List V) (Q : VK) (E : XK),
    Room k A → A.guards = some [] → Env0 P w K mg base A ou s H → BindsTo s fd args (ps.zip us) → Vals vs us → sp vs H Q E →
      codeAny (model P w) A (.call (.ref f) args) (CR C ou P w H s Q E) s
theorem deeper_g {A : Around} {env : PySem.Env} : (A.deeper env).guards = A.guards := rfl
theorem make_g {A : Around} {C : Addr} {us : List Value} {kw : List (Str × Value)} : (A.under (.builtin "type.__call__" ⟨.ref C :: us, kw⟩)).guards = A.guards := by
  first | rfl | simp [Around.under, Code.guards, Code.isGuard, guardIds, pushGuards]

theorem fn_g {C : CXT} {P : Program} {w : World} {K : PySem.W.Frag} {mg : Str → Option Value} {base : Heap} {x qual : Str} {st : Stmt} {f : Addr} {fd : FuncData} {N ps : List Str} {k : Nat} {sp : Sp} (F : Fun K x qual st f fd) (S : FnScope N ps (defScope st))
    (len : ∀ vs H Q E, sp vs H Q E → vs.length = ps.length)
    (hb : ∀ (cd : Value) (A : Around) (ou : List PySem.Env) (s : Shared) (H : Hp) (vs : List V) (Q : VK) (E : XK), Room k (A.deeper (envOfC qual (defScope st) s.heap.objs.size f cd)) → A.guards = some [] → sp vs H Q E →
      ∃ t, PSs (cxOf C P w K mg base N qual (defScope st) f cd A ou s H E) (defBody st) t ∧ t { nx := fun _ H' => Q .non H', rt := Q } (start N vs) H) :
    FnG P w K mg base C (k + 1) f fd ps sp := by
  obtain ⟨oc, od, kV, doc, pm, an, cd, ct, osl, rfl, lk, hcd⟩ := F.ex
  refine ⟨len, ?_⟩
  intro A ou s H args us vs Q E hr hg e0 hbd r hs
  -- only this A is asked: the body's term is taken for it
  have KX : K.In s.heap := e0.mod.kin.keeps fun b o e => (e0.bs b o e).1
  have lim : s.heap.NoLimit := e0.mod.nolimit.keeps fun b o e => (e0.bs b o e).1
  have kinds : ∀ y ∈ ps.zip us, (defScope st).names.lookup y.1 = some .local ∨
      ((defScope st).names.lookup y.1 = some .cell ∧ ((cellsFrom (s.heap.objs.size + 1) (defScope st).names []).lookup y.1).isSome = true) := by
    rintro ⟨n, v⟩ hy
    exact (S.par n (List.of_mem_zip hy).1).imp id fun q => ⟨q, PySem.W.cellsFrom_some _ _ _ (.inl q)⟩
  refine codeAny_call_function hr.depth (KX _ _ lk) rfl S.co S.gen rfl
    (PySem.W.codeRec_of KX hcd) (hbd _ _ _ _ ?_)
  refine wpAny_newFunctionEnv_cells S.kind kinds ?_
  rintro env rfl s1 x
  refine ⟨lim.keeps x.toInCall.keep, codeAny_func ?_⟩
  obtain ⟨t, ht, hq⟩ := hb cd A ou s H vs Q E (hr.deeper _) hg hs
  have I := inv_start (CX := C) (E := E) S hr.hd e0 (len _ _ _ _ hs) r x
  refine wpAny_mono (ht.run [] s1 (start N vs) H _ I hq) ?_ fun _ _ z => z
  intro fl s2 z
  cases fl with
  | ret u =>
    obtain ⟨v, σ2, H2, J, rv, q⟩ := z
    exact ⟨v, H2, J.os, J.bare, J.base, J.hok, rv, q⟩
  | next =>
    obtain ⟨σ2, H2, J, q⟩ := z
    exact ⟨V.non, H2, J.os, J.bare, J.base, J.hok, rfl, q⟩
  | brk =>
    obtain ⟨_, _, _, q⟩ := z
    exact q.elim
  | cont =>
    obtain ⟨_, _, _, q⟩ := z
    exact q.elim

section
variable {X : Cx} {C : CXT} {k : Nat} {f : Addr} {fd : FuncData} {ps : List Str} {sp : Sp} {E : L2.St → XK}
theorem run_g {pins : List (Addr × Obj)} {σ : L2.St} {H : Hp} {s : Shared} {Q : VK} {us : List Value} {vs : List V} (F : FnG X.prog X.w X.K X.mg X.base C k f fd ps sp) (hr : Room k X.A) (hg : X.A.guards = some []) (hb : Binds X.K fd ps [])
    (hx : PassesAt C X σ (E σ)) (I : Inv X pins σ H s) (r : Vals vs us) (h : sp vs H Q (E σ)) : wpAny (model X.prog X.w) X.A (call (.ref f) us) (EP X pins σ Q) X.xe s := by
  have hl : (us ++ []).length = ps.length := by rw [List.append_nil, ← r.length]; exact F.len _ _ _ _ h
  have b := hb s us I.kIn hl
  rw [List.append_nil] at b
  refine wpAny_call (codeAny_mono (F.run X.A X.stack s H ⟨us, []⟩ us vs Q _ hr hg I.env0 b r h) ?_)
  intro z s' hq
  match z, hq with
  | .error e, hq => exact hx pins H s e s' I hq
  | .ok (.ret u), hq => exact I.after hq
  | .ok .next, hq => exact hq.elim
  | .ok .brk, hq => exact hq.elim
  | .ok .cont, hq => exact hq.elim
variable {x m : Str} {p pos apos : Pos} {e o : Expr} {es : List Expr} {ta : TE} {t : TA}
theorem pe_callG (F : FnG X.prog X.w X.K X.mg X.base C k f fd ps sp) (hr : Room k X.A) (hgd : X.A.guards = some []) (hm : X.mg x = some (.ref f)) (hk : PySem.W.keepIn X.K (.ref f) = true) (hb : Binds X.K fd ps []) (hx : ∀ σ, PassesAt C X σ (E σ)) (ha : PA X (e :: es) t)
    (hg : Gl X x := by rfl) (hdb : (x == ("__debug__" : Str)) = false := by decide) (he : starEach (e :: es) X.env = (false, eval e X.env) :: starEach es X.env := by rfl) (hpl : (backTo pos (starEach es X.env)).any (·.1) = false := by rfl) :
    PE X (.Call (.Name x p) (e :: es) [] pos) (tCallS sp E t) := by
  constructor
  intro pins s σ H Q I h
  refine wpAny_Call_Name_kw (ld_glob I hg hm ?_ hdb)
  refine PySem.W.callWith_K (h₀ := X.base) I.ok.mod.kin hk ?_ he hpl
  refine thn (ha.run pos pins s σ H _ I h) ?_
  rintro us s1 ⟨vs, H1, I1, r, q⟩
  exact ⟨I1.kIn, run_g F hr hgd hb (hx σ) I1 r q⟩
theorem pe_callG0 (F : FnG X.prog X.w X.K X.mg X.base C k f fd ps sp) (hr : Room k X.A) (hgd : X.A.guards = some []) (hm : X.mg x = some (.ref f)) (hk : PySem.W.keepIn X.K (.ref f) = true) (hb : Binds X.K fd ps []) (hx : ∀ σ, PassesAt C X σ (E σ))
    (hg : Gl X x := by rfl) (hdb : (x == ("__debug__" : Str)) = false := by decide) : PE X (.Call (.Name x p) [] [] pos) (tCallS sp E tNil) := by
  constructor
  intro pins s σ H Q I h
  refine wpAny_Call_Name_kw (ld_glob I hg hm ?_ hdb)
  exact PySem.W.callWith_K0 I.kIn hk (run_g (us := []) F hr hgd hb (hx σ) I .nil h)
def tMethG (C : Addr) (m : Str) (sp : Sp) (E : L2.St → XK) (ta : TE) (t : TA) : TE := fun σ H Q => ta σ H fun x H1 => ∃ a dx fs, x = .ref a ∧
  H1 a = some (.ins C dx fs) ∧ fs.lookup m = none ∧ t σ H1 fun vs H2 => sp (x :: vs) H2 Q (E σ)
/-- o.m(..) -/
theorem pe_methG {C' : Addr} {pl : Sem Bool} (he : PE X o ta) (c : Cls X.K C') (hm : Meth X.K C' m f) (F : FnG X.prog X.w X.K X.mg X.base C k f fd ps sp) (hr : Room k X.A) (hgd : X.A.guards = some []) (hb : Binds X.K fd ps []) (hx : ∀ σ, PassesAt C X σ (E σ)) (ha : PA X (e :: es) t)
    (hst : starEach (e :: es) X.env = (false, eval e X.env) :: starEach es X.env := by rfl) (hpl : (backTo pos (starEach es X.env)).any (·.1) = false := by rfl)
    (ht : eval (.Call (.Attribute o m apos) (e :: es) [] pos) X.env = (do
      let w ← eval o X.env
      standAt apos.atName
      let (f, first) ← holding [w] (getMethod w m pl)
      callWith pos f first (backTo pos (starEach (e :: es) X.env)) (backToKw pos (keywordEach [] X.env))) := by rfl) :
    PE X (.Call (.Attribute o m apos) (e :: es) [] pos) (tMethG C' m sp E ta t) := by
  constructor
  intro pins s σ H Q I h
  refine PySem.W.methodCall_KW (pl := pl) (thn (he.run pins s σ H _ I h) ?_) ht
  rintro u s1 ⟨y, H1, I1, ry, a, dx, fs, rfl, ea, l, q⟩
  cases (show u = Value.ref a from ry)
  refine getmeth_ok I1 ea c hm l ?_
  refine PySem.W.callWith_K (first := [.ref a]) (h₀ := X.base) I.ok.mod.kin hm.kp ?_ hst hpl
  refine thn (ha.run pos pins s1 σ H1 _ I1 q) ?_
  rintro us s2 ⟨vs, H2, I2, r, q2⟩
  exact ⟨I2.kIn, run_g (us := .ref a :: us) (vs := .ref a :: vs) F hr hgd hb (hx σ) I2 (.cons rfl r) q2⟩
theorem pe_methG0 {C' : Addr} {pl : Sem Bool} (he : PE X o ta) (c : Cls X.K C') (hm : Meth X.K C' m f) (F : FnG X.prog X.w X.K X.mg X.base C k f fd ps sp) (hr : Room k X.A) (hgd : X.A.guards = some []) (hb : Binds X.K fd ps []) (hx : ∀ σ, PassesAt C X σ (E σ))
    (ht : eval (.Call (.Attribute o m apos) [] [] pos) X.env = (do
      let w ← eval o X.env
      standAt apos.atName
      let (f, first) ← holding [w] (getMethod w m pl)
      callWith pos f first (backTo pos (starEach [] X.env)) (backToKw pos (keywordEach [] X.env))) := by rfl) :
    PE X (.Call (.Attribute o m apos) [] [] pos) (tMethG C' m sp E ta tNil) := by
  constructor
  intro pins s σ H Q I h
  refine PySem.W.methodCall_KW (pl := pl) (thn (he.run pins s σ H _ I h) ?_) ht
  rintro u s1 ⟨y, H1, I1, ry, a, dx, fs, rfl, ea, l, q⟩
  cases (show u = Value.ref a from ry)
  refine getmeth_ok I1 ea c hm l ?_
  exact PySem.W.callWith_K0 (first := [.ref a]) I1.kIn hm.kp (run_g (us := [.ref a]) (vs := [.ref a]) F hr hgd hb (hx σ) I1 (.cons rfl .nil) q)
/-- C(..): a new instance, then its __init__ -/
def tMakeG (C : Addr) (sp : Sp) (E : L2.St → XK) (t : TA) : TE := fun σ H Q => t σ H fun vs H1 => ∀ x dx, H1 x = none → H1 dx = none → dx ≠ x →
  sp (.ref x :: vs) (upd (upd H1 dx (.own x)) x (.ins C dx [])) (fun v H2 => v = .non ∧ Q (.ref x) H2) (E σ)
theorem make_g_run {C' : Addr} {pins : List (Addr × Obj)} {σ : L2.St} {H : Hp} {s : Shared} {Q : VK} {us : List Value} {vs : List V} (M : Mk X.K C' f) (F : FnG X.prog X.w X.K X.mg X.base C k f fd ps sp) (hr : Room (k + 1) X.A) (hgd : X.A.guards = some []) (hb : Binds X.K fd ps [])
    (hx : PassesAt C X σ (E σ)) (I : Inv X pins σ H s) (r : Vals vs us)
    (h : ∀ x dx, H x = none → H dx = none → dx ≠ x → sp (.ref x :: vs) (upd (upd H dx (.own x)) x (.ins C' dx [])) (fun v H2 => v = .non ∧ Q (.ref x) H2) (E σ)) :
    wpAny (model X.prog X.w) X.A (call (.ref C') us) (EP X pins σ Q) X.xe s := by
  have q0 := h (s.heap.objs.size + 1) s.heap.objs.size (I.hok.fresh (Nat.le_succ _)) (I.hok.fresh (Nat.le_refl _)) (Nat.ne_of_lt (Nat.lt_succ_self _))
  have J := Inv.made (C := C') I
  have rr : Vals (V.ref (s.heap.objs.size + 1) :: vs) (Value.ref (s.heap.objs.size + 1) :: us) := .cons rfl r
  have hl : ((Value.ref (s.heap.objs.size + 1) :: us) ++ []).length = ps.length := by
    rw [List.append_nil, ← rr.length]
    exact F.len _ _ _ _ q0
  have b := hb _ (Value.ref (s.heap.objs.size + 1) :: us) J.kIn hl
  rw [List.append_nil] at b
  refine wpAny_call (make_map (f := f) I.kIn M.makes M.init (beq_iff_eq.mp M.fn) ?_)
  refine codeAny_mono (F.run _ X.stack _ _ ⟨Value.ref (s.heap.objs.size + 1) :: us, []⟩ (Value.ref (s.heap.objs.size + 1) :: us) _ _ (E σ)
    (hr.make C' us []) (by rw [make_g]; exact hgd) (J.env0.make C' us []) b rr q0) ?_
  intro z s' hq
  match z, hq with
  | .error e, hq => exact hx pins _ _ e s' J hq
  | .ok (.ret u), hq =>
    obtain ⟨v, H3, I3, rv, rfl, q3⟩ := J.after hq
    exact ⟨rv, V.ref (s.heap.objs.size + 1), H3, I3, rfl, q3⟩
  | .ok .next, hq => exact hq.elim
  | .ok .brk, hq => exact hq.elim
  | .ok .cont, hq => exact hq.elim
theorem pe_makeG {C' : Addr} (M : Mk X.K C' f) (F : FnG X.prog X.w X.K X.mg X.base C k f fd ps sp) (hr : Room (k + 1) X.A) (hgd : X.A.guards = some []) (hm : X.mg x = some (.ref C')) (hb : Binds X.K fd ps []) (hx : ∀ σ, PassesAt C X σ (E σ)) (ha : PA X (e :: es) t)
    (hg : Gl X x := by rfl) (hdb : (x == ("__debug__" : Str)) = false := by decide) (he : starEach (e :: es) X.env = (false, eval e X.env) :: starEach es X.env := by rfl) (hpl : (backTo pos (starEach es X.env)).any (·.1) = false := by rfl) :
    PE X (.Call (.Name x p) (e :: es) [] pos) (tMakeG C' sp E t) := by
  constructor
  intro pins s σ H Q I h
  refine wpAny_Call_Name_kw (ld_glob I hg hm ?_ hdb)
  refine PySem.W.callWith_K (h₀ := X.base) I.ok.mod.kin M.kp ?_ he hpl
  refine thn (ha.run pos pins s σ H _ I h) ?_
  rintro us s1 ⟨vs, H1, I1, r, q⟩
  exact ⟨I1.kIn, make_g_run M F hr hgd hb (hx σ) I1 r q⟩
end

/-! ### a def as a function -/
abbrev FD := List D → Hv → R D
def startD (N : List Str) (xs : List D) : Sl := xs.map some ++ List.replicate (N.length - xs.length) none
def SR.fin (r : SR) : R D := match r with
  | .nx _ h => .ok .non h
  | .rt x h => .ok x h
  | .ex e _ h => .ex e h
  | _ => .no
/-- the def's function, from its body's -/
def runD (N : List Str) (n : Nat) (d : DS) : FD := fun xs h => if xs.length = n then (d (startD N xs) h).fin else .no
def spD (K : PySem.W.Frag) (g : Nat → Addr) (n : Nat) (F : FD) : Sp := fun vs H Q E => vs.length = n ∧ ∃ φ xs h, Sim K g φ h H ∧ RepL K φ H xs vs ∧ Post K g (Rep K) (fun c d _ H' => E c d H') [] φ H (F xs h) Q
theorem start_env {K : PySem.W.Frag} {φ : List Addr} {H : Hp} {N : List Str} {xs : List D} {vs : List V} (r : RepL K φ H xs vs) : EnvR K φ H (startD N xs) (L2.start N vs) := by
  have hl := RepL.length r
  unfold startD L2.start
  refine ⟨by simp [hl], fun i x h => ?_⟩
  by_cases hi : i < xs.length
  · rw [List.getElem?_append_left (by simpa using hi), List.getElem?_map] at h
    cases q : xs[i]? with
    | none => rw [q] at h; cases h
    | some y =>
      rw [q] at h
      cases (show some (some y) = some (some x) from h)
      obtain ⟨v, h1, h2⟩ := RepL.get r q
      refine ⟨v, ?_, h2⟩
      rw [List.getElem?_append_left (by simpa [hl] using hi), List.getElem?_map, h1]
      rfl
  · rw [List.getElem?_append_right (by simpa using Nat.not_lt.mp hi), List.getElem?_replicate] at h
    split at h <;> cases h
theorem post_fin {K : PySem.W.Frag} {g : Nat → Addr} {E : XK} {Q : VK} {φ : List Addr} {H : Hp} {r : SR} (p : Post K g (Rep K) (fun c d _ H' => E c d H') [] φ H r.fin Q) : PostS K g (fun c d _ H' => E c d H') { nx := fun _ H' => Q .non H', rt := Q } φ H r := by
  cases r with
  | nx ρ h => exact fun φ2 H2 σ2 l S _ => p φ2 H2 .non l S rfl
  | rt x h => exact fun φ2 H2 v l S q => p φ2 H2 v l S q
  | bk ρ h => exact p.elim
  | ct ρ h => exact p.elim
  | ex e ρ h => exact fun φ2 H2 σ2 c d l S _ q => p φ2 H2 c d l S q
  | no => exact p.elim
/-- the rule for a def that may raise -/
theorem fnD {P : Program} {w : World} {K : PySem.W.Frag} {mg : Str → Option Value} {base : Heap} {g : Nat → Addr} {x qual : Str} {st : Stmt} {f : Addr} {fd : FuncData} {N ps : List Str} {k n : Nat} {d : DS} (F : Fun K x qual st f fd) (S : FnScope N ps (defScope st)) (hn : ps.length = n)
    (hb : ∀ (cd : Value) (A : Around) (ou : List PySem.Env) (s : Shared) (H : Hp) (E : XK), Room k (A.deeper (envOfC qual (defScope st) s.heap.objs.size f cd)) → (A.deeper (envOfC qual (defScope st) s.heap.objs.size f cd)).guards = some [] →
      PSs (cxOf (L2N.CX P w) P w K mg base N qual (defScope st) f cd A ou s H E) (defBody st) (tS K g (fun c d _ H' => E c d H') d)) :
    FnG P w K mg base (L2N.CX P w) (k + 1) f fd ps (spD K g n (runD N n d)) := by
  refine fn_g F S (fun vs H Q E h => h.1.trans hn.symm) fun cd A ou s H vs Q E hr hg h => ?_
  refine ⟨_, hb cd A ou s H E hr (by rw [deeper_g]; exact hg), ?_⟩
  obtain ⟨hl, φ, xs, hv, Si, r, p⟩ := h
  refine ⟨φ, startD N xs, hv, Si, start_env r, post_fin ?_⟩
  unfold runD at p
  rw [if_pos (by rw [← RepL.length r]; exact hl)] at p
  exact p
/-! ### its calls -/
def dCall (F : FD) (a : DA) : DE := fun ρ h => (a ρ h).bind F
def dMeth (c : Nat) (m : Str) (F : FD) (o : DE) (a : DA) : DE := fun ρ h => (o ρ h).bind fun x h1 => match x with
  | .ref n => match h1[n]? with
    | some (.ins c' fs) => if c' = c ∧ fs.lookup m = none then (a ρ h1).bind fun xs h2 => F (.ref n :: xs) h2 else .no
    | _ => .no
  | _ => .no
def dMake (c : Nat) (F : FD) (a : DA) : DE := fun ρ h => (a ρ h).bind fun xs h1 => (F (.ref h1.length :: xs) (h1 ++ [.ins c []])).bind fun x h2 => match x with
  | .non => .ok (.ref h1.length) h2
  | _ => .no
theorem lookup_rep {K : PySem.W.Frag} {φ : List Addr} {H : Hp} {f : Str} : ∀ {fs : List (Str × D)} {vs : List (Str × V)}, RepKV K φ H fs vs → (∀ x, fs.lookup f = some x → ∃ v, vs.lookup f = some v ∧ Rep K φ H x v) ∧ (fs.lookup f = none → vs.lookup f = none)
  | [], _, r => by cases (show _ = _ from r); exact ⟨fun x z => (nomatch z), fun _ => rfl⟩
  | (k, y) :: fs, _, ⟨v, q, e, h1, h2⟩ => by
    subst e
    obtain ⟨i1, i2⟩ := lookup_rep (f := f) h2
    simp only [List.lookup_cons]
    cases z : f == k with
    | true => exact ⟨fun x e => by cases (show _ = _ from e); exact ⟨v, rfl, h1⟩, fun e => by cases e⟩
    | false => exact ⟨i1, i2⟩
section
variable {X : Cx} {g : Nat → Addr} {W : WX} {k n : Nat} {f : Addr} {fd : FuncData} {ps : List Str} {F : FD} {x m : Str} {p pos apos : Pos} {e o : Expr} {es : List Expr} {da : DA} {d : DE}
theorem spD_of {σ : L2.St} {φ : List Addr} {H : Hp} {xs : List D} {vs : List V} {h : Hv} {Q : VK} (S : Sim X.K g φ h H) (r : RepL X.K φ H xs vs) (hl : vs.length = n) (q : Post X.K g (Rep X.K) W σ φ H (F xs h) Q) : spD X.K g n F vs H Q (WE W σ) := by
  refine ⟨hl, φ, xs, h, S, r, ?_⟩
  cases z : F xs h with
  | ok a h' => rw [z] at q; exact q
  | ex a h' => rw [z] at q; exact q
  | no => rw [z] at q; exact q
theorem Post.args {σ : L2.St} {φ : List Addr} {H : Hp} {xs : List D} {vs : List V} (r : RepL X.K φ H xs vs) {d : DS} {N : List Str} {h : Hv} {Q : VK} (q : Post X.K g (Rep X.K) W σ φ H (runD N n d xs h) Q) : vs.length = n := by
  unfold runD at q
  split at q
  · rw [RepL.length r]; assumption
  · exact q.elim
/-- what a def's function asks of the number of its arguments -/
def Ar (n : Nat) (F : FD) : Prop := ∀ xs h, xs.length ≠ n → F xs h = .no
theorem ar_run {N : List Str} {d : DS} : Ar n (runD N n d) := fun xs h z => by unfold runD; rw [if_neg z]
theorem Ar.len {σ : L2.St} {φ : List Addr} {H : Hp} {xs : List D} {vs : List V} (ar : Ar n F) (r : RepL X.K φ H xs vs) {h : Hv} {Q : VK} (q : Post X.K g (Rep X.K) W σ φ H (F xs h) Q) : vs.length = n := by
  by_cases z : xs.length = n
  · rw [RepL.length r]; exact z
  · rw [ar xs h z] at q; exact q.elim
theorem de_call (G : FnG X.prog X.w X.K X.mg X.base (L2N.CX X.prog X.w) k f fd ps (spD X.K g n F)) (ar : Ar n F) (hr : Room k X.A) (hgd : X.A.guards = some []) (tk : L2N.Takes X W) (hm : X.mg x = some (.ref f)) (hk : PySem.W.keepIn X.K (.ref f) = true) (hb : Binds X.K fd ps [])
    (ha : PA X (e :: es) (tA X.K g W da)) (hg : Gl X x := by rfl) (hdb : (x == ("__debug__" : Str)) = false := by decide) (he : starEach (e :: es) X.env = (false, eval e X.env) :: starEach es X.env := by rfl) (hpl : (backTo pos (starEach es X.env)).any (·.1) = false := by rfl) :
    PE X (.Call (.Name x p) (e :: es) [] pos) (tE X.K g W (dCall F da)) := by
  refine pe_imp (pe_callG G hr hgd hm hk hb (fun σ => L2N.passAt tk σ) ha hg hdb he hpl) fun σ H Q ⟨φ, ρ, h, S, E, q⟩ => ?_
  refine ⟨φ, ρ, h, S, E, Post.bind q fun φ1 H1 xs h1 vs le1 S1 r1 p1 => ?_⟩
  exact spD_of S1 r1 (ar.len r1 p1) p1
theorem de_call0 (G : FnG X.prog X.w X.K X.mg X.base (L2N.CX X.prog X.w) k f fd ps (spD X.K g n F)) (ar : Ar n F) (hr : Room k X.A) (hgd : X.A.guards = some []) (tk : L2N.Takes X W) (hm : X.mg x = some (.ref f)) (hk : PySem.W.keepIn X.K (.ref f) = true) (hb : Binds X.K fd ps [])
    (hg : Gl X x := by rfl) (hdb : (x == ("__debug__" : Str)) = false := by decide) : PE X (.Call (.Name x p) [] [] pos) (tE X.K g W (dCall F aNil)) := by
  refine pe_imp (pe_callG0 G hr hgd hm hk hb (fun σ => L2N.passAt tk σ) hg hdb) fun σ H Q ⟨φ, ρ, h, S, E, q⟩ => ?_
  have q' : Post X.K g (Rep X.K) W σ φ H (F [] h) Q := q
  exact spD_of (vs := []) S (show RepL X.K φ H [] [] from rfl) (ar.len (show RepL X.K φ H [] [] from rfl) q') q'
theorem de_make {c : Nat} (M : Mk X.K (g c) f) (G : FnG X.prog X.w X.K X.mg X.base (L2N.CX X.prog X.w) k f fd ps (spD X.K g n F)) (ar : Ar n F) (hr : Room (k + 1) X.A) (hgd : X.A.guards = some []) (tk : L2N.Takes X W) (hm : X.mg x = some (.ref (g c))) (hb : Binds X.K fd ps [])
    (ha : PA X (e :: es) (tA X.K g W da)) (hg : Gl X x := by rfl) (hdb : (x == ("__debug__" : Str)) = false := by decide) (he : starEach (e :: es) X.env = (false, eval e X.env) :: starEach es X.env := by rfl) (hpl : (backTo pos (starEach es X.env)).any (·.1) = false := by rfl) :
    PE X (.Call (.Name x p) (e :: es) [] pos) (tE X.K g W (dMake c F da)) := by
  refine pe_imp (pe_makeG M G hr hgd hm hb (fun σ => L2N.passAt tk σ) ha hg hdb he hpl) fun σ H Q ⟨φ, ρ, h, S, E, q⟩ => ?_
  refine ⟨φ, ρ, h, S, E, Post.bind q fun φ1 H1 xs h1 vs le1 S1 r1 p1 => fun a dx na nd ne => ?_⟩
  have na' : upd H1 dx (.own a) a = none := by rw [upd_ne (Ne.symm ne)]; exact na
  have l2 : Le X.K φ1 (φ1 ++ [a]) H1 (upd (upd H1 dx (.own a)) a (.ins (g c) dx [])) := (Le.newT nd).trans (Le.newO na')
  have S2 : Sim X.K g (φ1 ++ [a]) (h1 ++ [.ins c []]) (upd (upd H1 dx (.own a)) a (.ins (g c) dx [])) := (S1.newT nd).newO na' (.ins rfl)
  have r2 : RepL X.K (φ1 ++ [a]) (upd (upd H1 dx (.own a)) a (.ins (g c) dx [])) (.ref h1.length :: xs) (.ref a :: vs) := ⟨_, _, rfl, ⟨a, rfl, newO_get S1⟩, RepL.mono l2 _ _ r1⟩
  have p2 := Post.mono l2 p1
  have p3 : Post X.K g (Rep X.K) W σ (φ1 ++ [a]) (upd (upd H1 dx (.own a)) a (.ins (g c) dx [])) (F (.ref h1.length :: xs) (h1 ++ [.ins c []])) (fun v H2 => v = .non ∧ Q (.ref a) H2) := by
    refine Post.bind p2 fun φ3 H3 x h3 v le3 S3 r3 p3 => ?_
    split at p3
    · exact ⟨r3, p3.here S3 ⟨a, rfl, prefix_get le3.pre (newO_get S1)⟩⟩
    · exact p3.elim
  exact spD_of S2 r2 (ar.len r2 p3) p3
theorem de_meth {c : Nat} (cl : Cls X.K (g c)) (M : Meth X.K (g c) m f) (G : FnG X.prog X.w X.K X.mg X.base (L2N.CX X.prog X.w) k f fd ps (spD X.K g n F)) (ar : Ar n F) (hr : Room k X.A) (hgd : X.A.guards = some []) (tk : L2N.Takes X W) (hb : Binds X.K fd ps []) (ho : PE X o (tE X.K g W d))
    (ha : PA X (e :: es) (tA X.K g W da)) {pl : Sem Bool} (hst : starEach (e :: es) X.env = (false, eval e X.env) :: starEach es X.env := by rfl) (hpl : (backTo pos (starEach es X.env)).any (·.1) = false := by rfl)
    (ht : eval (.Call (.Attribute o m apos) (e :: es) [] pos) X.env = (do
      let w ← eval o X.env
      standAt apos.atName
      let (f, first) ← holding [w] (getMethod w m pl)
      callWith pos f first (backTo pos (starEach (e :: es) X.env)) (backToKw pos (keywordEach [] X.env))) := by rfl) :
    PE X (.Call (.Attribute o m apos) (e :: es) [] pos) (tE X.K g W (dMeth c m F d da)) := by
  refine pe_imp (pe_methG (pl := pl) ho cl M G hr hgd hb (fun σ => L2N.passAt tk σ) ha hst hpl ht) fun σ H Q ⟨φ, ρ, h, S, E, q⟩ => ?_
  refine ⟨φ, ρ, h, S, E, Post.bind q fun φ1 H1 x h1 v le1 S1 r1 p1 => ?_⟩
  split at p1
  · split at p1
    · rename_i n' _ c' fs hx
      split at p1
      · rename_i hc
        obtain ⟨hc1, hl⟩ := hc
        have hc2 := hc1.symm
        subst hc2
        obtain ⟨a, e1, ea⟩ := r1
        obtain ⟨u, h2, h3⟩ := S1.obj _ a _ ea hx
        cases h3 with
        | @ins _ dx _ vs rf =>
          refine ⟨a, dx, vs, e1, h2, (lookup_rep rf).2 hl, φ1, ρ, h1, S1, E.mono le1, Post.bind p1 fun φ2 H2 xs h2 us le2 S2 r2 p2 => ?_⟩
          subst e1
          have r3 : RepL X.K φ2 H2 (.ref n' :: xs) (.ref a :: us) := ⟨_, _, rfl, ⟨a, rfl, prefix_get le2.pre ea⟩, r2⟩
          exact spD_of S2 r3 (ar.len r3 p2) p2
      · exact p1.elim
    · exact p1.elim
  · exact p1.elim
theorem de_meth0 {c : Nat} (cl : Cls X.K (g c)) (M : Meth X.K (g c) m f) (G : FnG X.prog X.w X.K X.mg X.base (L2N.CX X.prog X.w) k f fd ps (spD X.K g n F)) (ar : Ar n F) (hr : Room k X.A) (hgd : X.A.guards = some []) (tk : L2N.Takes X W) (hb : Binds X.K fd ps []) (ho : PE X o (tE X.K g W d))
    {pl : Sem Bool} (ht : eval (.Call (.Attribute o m apos) [] [] pos) X.env = (do
      let w ← eval o X.env
      standAt apos.atName
      let (f, first) ← holding [w] (getMethod w m pl)
      callWith pos f first (backTo pos (starEach [] X.env)) (backToKw pos (keywordEach [] X.env))) := by rfl) :
    PE X (.Call (.Attribute o m apos) [] [] pos) (tE X.K g W (dMeth c m F d aNil)) := by
  refine pe_imp (pe_methG0 (pl := pl) ho cl M G hr hgd hb (fun σ => L2N.passAt tk σ) ht) fun σ H Q ⟨φ, ρ, h, S, E, q⟩ => ?_
  refine ⟨φ, ρ, h, S, E, Post.bind q fun φ1 H1 x h1 v le1 S1 r1 p1 => ?_⟩
  split at p1
  · split at p1
    · rename_i n' _ c' fs hx
      split at p1
      · rename_i hc
        obtain ⟨hc1, hl⟩ := hc
        have hc2 := hc1.symm
        subst hc2
        obtain ⟨a, e1, ea⟩ := r1
        obtain ⟨u, h2, h3⟩ := S1.obj _ a _ ea hx
        cases h3 with
        | @ins _ dx _ vs rf =>
          subst e1
          have r3 : RepL X.K φ1 H1 [.ref n'] [.ref a] := ⟨_, _, rfl, ⟨a, rfl, ea⟩, rfl⟩
          have p2 : Post X.K g (Rep X.K) W σ φ1 H1 (F [.ref n'] h1) Q := p1
          exact ⟨a, dx, vs, rfl, h2, (lookup_rep rf).2 hl, spD_of S1 r3 (ar.len r3 p2) p2⟩
      · exact p1.elim
    · exact p1.elim
  · exact p1.elim

/-! ### attributes -/
def dFld (c : Nat) (f : Str) (o : DE) : DE := fun ρ h => (o ρ h).bind fun x h1 => match x with
  | .ref n => match h1[n]? with
    | some (.ins c' fs) => match fs.lookup f with
      | some y => if c' = c then .ok y h1 else .no
      | none => .no
    | _ => .no
  | _ => .no
def putD (f : Str) (v : D) : List (Str × D) → List (Str × D)
  | [] => [(f, v)]
  | p :: r => if p.1 = f then (p.1, v) :: r else p :: putD f v r
def dPut (c : Nat) (f : Str) (o v : DE) : DS := fun ρ h => SR.of ρ (v ρ h) fun y h1 => SR.of ρ (o ρ h1) fun x h2 => match x with
  | .ref n => match h2[n]? with
    | some (.ins c' fs) => if c' = c ∧ fs.length < 900 then .nx ρ (h2.set n (.ins c' (putD f y fs))) else .no
    | _ => .no
  | _ => .no
theorem putD_rep {K : PySem.W.Frag} {φ : List Addr} {H : Hp} {f : Str} {y : D} {u : V} (ry : Rep K φ H y u) : ∀ {fs : List (Str × D)} {vs : List (Str × V)}, RepKV K φ H fs vs → RepKV K φ H (putD f y fs) (putF f u vs)
  | [], _, r => by cases (show _ = _ from r); exact ⟨u, [], rfl, ry, rfl⟩
  | (k, z) :: fs, _, ⟨v, q, e, h1, h2⟩ => by
    subst e
    unfold putD putF
    by_cases hk : k = f
    · rw [if_pos hk, if_pos hk]
      exact ⟨u, q, rfl, ry, h2⟩
    · rw [if_neg hk, if_neg hk]
      exact ⟨v, _, rfl, h1, putD_rep ry h2⟩
theorem de_fld {c : Nat} {a : Str} (cl : Cls X.K (g c)) (na : NoAttr X.K (g c) a) (ho : PE X o (tE X.K g W d)) (hb : attributeBase o a X.env (eval o X.env) = eval o X.env := by rfl) : PE X (.Attribute o a pos) (tE X.K g W (dFld c a d)) := by
  refine pe_imp (pe_fld ho hb) fun σ H Q ⟨φ, ρ, h, S, E, q⟩ => ?_
  refine ⟨φ, ρ, h, S, E, Post.bind q fun φ1 H1 x h1 v le1 S1 r1 p1 => ?_⟩
  split at p1
  · split at p1
    · rename_i hx
      split at p1
      · rename_i y hy
        split at p1
        · rename_i hc
          subst hc
          obtain ⟨b, e1, ea⟩ := r1
          obtain ⟨u, h2, h3⟩ := S1.obj _ b _ ea hx
          cases h3 with
          | @ins _ dx _ vs rf =>
            obtain ⟨w, h4, h5⟩ := (lookup_rep rf).1 y hy
            exact ⟨b, _, dx, vs, w, e1, h2, cl, na, h4, p1.here S1 h5⟩
        · exact p1.elim
      · exact p1.elim
    · exact p1.elim
  · exact p1.elim
theorem ds_put {c : Nat} {a : Str} {dv : DE} {p' : Pos} (cl : Cls X.K (g c)) (na : NoAttr X.K (g c) a) (ho : PE X o (tE X.K g W d)) (hv : PE X e (tE X.K g W dv)) (hs : swapsWith e (some (.Attribute o a p')) pos.line X.env = pure false := by rfl) :
    PS X (.Assign [.Attribute o a p'] e pos) (tS X.K g W (dPut c a d dv)) := by
  refine ps_imp (ps_fld ho hv hs) fun B σ H ⟨φ, ρ, h, S, E, q⟩ => ?_
  refine ⟨φ, ρ, h, S, E, PostS.of E q fun φ1 H1 y h1 v le1 S1 E1 r1 p1 => ?_⟩
  refine ⟨φ1, ρ, h1, S1, E1, PostS.of E1 p1 fun φ2 H2 x h2 u le2 S2 E2 r2 p2 => ?_⟩
  split at p2
  · split at p2
    · rename_i hx
      split at p2
      · rename_i hc
        obtain ⟨hc1, hl⟩ := hc
        have hc2 := hc1.symm
        subst hc2
        obtain ⟨b, e1, ea⟩ := r2
        obtain ⟨u, h3, h4⟩ := S2.obj _ b _ ea hx
        cases h4 with
        | @ins _ dx _ vs rf =>
          have nt : ∀ ws, HO.ins (g c) dx vs ≠ .tup ws := fun _ z => nomatch z
          have nz : ∀ ob ws, HO.ins (g c) dx vs ≠ .frz ob ws := fun _ _ z => nomatch z
          refine ⟨b, _, dx, vs, e1, h3, cl, na, by rw [RepKV.length rf]; omega, ?_⟩
          exact PostS.here (PostS.mono (Le.mut h3 nt nz) p2) (S2.mut ea h3 nt nz (.ins (putD_rep (Rep.mono le2 _ _ r1) rf))) (E2.mono (Le.mut h3 nt nz))
      · exact p2.elim
    · exact p2.elim
  · exact p2.elim
end
end DL

set_option Elab.async false
set_option linter.all false
set_option autoImplicit false
set_option maxRecDepth 100000
namespace DL
open PySem PySem.Spec PyProof.Rows L2

/-! ### built-in functions -/
def CallD (X : Cx) (g : Nat → Addr) (fn : Value) (F : FD) : Prop := ∃ r : List V → Hp → VK → Prop, CallR X fn r ∧
  ∀ (W : WX) (σ : L2.St) (φ : List Addr) (H : Hp) (h : Hv) (xs : List D) (vs : List V) (Q : VK), Sim X.K g φ h H → RepL X.K φ H xs vs → Post X.K g (Rep X.K) W σ φ H (F xs h) Q → r vs H Q
section
variable {X : Cx} {g : Nat → Addr} {W : WX} {x : Str} {p pos : Pos} {e : Expr} {es : List Expr} {da : DA} {F : FD} {id T : String}
theorem de_callB (hc : CallD X g (.builtin id) F) (hm : X.mg x = none) (hv : bootBuiltins x = some (.builtin id)) (ha : PA X (e :: es) (tA X.K g W da)) (hg : Gl X x := by rfl) (hn : x ≠ "__name__" := by decide) (hdb : (x == ("__debug__" : Str)) = false := by decide)
    (he : starEach (e :: es) X.env = (false, eval e X.env) :: starEach es X.env := by rfl) (hpl : (backTo pos (starEach es X.env)).any (·.1) = false := by rfl) : PE X (.Call (.Name x p) (e :: es) [] pos) (tE X.K g W (dCall F da)) := by
  obtain ⟨r, h1, h2⟩ := hc
  refine pe_imp (pe_callB h1 hg hm hv ha hn hdb he hpl) fun σ H Q ⟨φ, ρ, h, S, E, q⟩ => ?_
  exact ⟨φ, ρ, h, S, E, Post.bind q fun φ1 H1 xs h1 vs le1 S1 r1 p1 => h2 W σ φ1 H1 h1 xs vs Q S1 r1 p1⟩
theorem de_callTy (hc : CallD X g (.type T) F) (hm : X.mg x = none) (hv : bootBuiltins x = some (.type T)) (ha : PA X (e :: es) (tA X.K g W da)) (hg : Gl X x := by rfl) (hn : x ≠ "__name__" := by decide) (hdb : (x == ("__debug__" : Str)) = false := by decide)
    (he : starEach (e :: es) X.env = (false, eval e X.env) :: starEach es X.env := by rfl) (hpl : (backTo pos (starEach es X.env)).any (·.1) = false := by rfl) : PE X (.Call (.Name x p) (e :: es) [] pos) (tE X.K g W (dCall F da)) := by
  obtain ⟨r, h1, h2⟩ := hc
  refine pe_imp (pe_callTy h1 hg hm hv ha hn hdb he hpl) fun σ H Q ⟨φ, ρ, h, S, E, q⟩ => ?_
  exact ⟨φ, ρ, h, S, E, Post.bind q fun φ1 H1 xs h1 vs le1 S1 r1 p1 => h2 W σ φ1 H1 h1 xs vs Q S1 r1 p1⟩
end
theorem CallR.or2 {X : Cx} {f : Value} {r r' : List V → Hp → VK → Prop} (h : CallR X f r) (h' : CallR X f r') : CallR X f (fun xs H Q => r xs H Q ∨ r' xs H Q) := CallR.or h h'
/-- a list's ints -/
def intsOf : List D → Option (List Int)
  | [] => some []
  | .int i :: r => (intsOf r).map (i :: ·)
  | _ => none
theorem intsOf_rep {K : PySem.W.Frag} {φ : List Addr} {H : Hp} : ∀ {xs : List D} {ns : List Int} {vs : List V}, intsOf xs = some ns → RepL K φ H xs vs → vs = ns.map V.int
  | [], ns, vs, e, r => by cases (show _ = _ from e); exact r
  | .int i :: r, ns, vs, e, ⟨v, q, e1, h1, h2⟩ => by
    unfold intsOf at e
    cases z : intsOf r with
    | none => rw [z] at e; cases e
    | some ks' =>
      rw [z] at e
      cases (show _ = _ from e)
      subst e1
      cases (show _ = _ from h1)
      rw [intsOf_rep z h2]
      rfl
  | .non :: r, _, _, e, _ => by cases e
  | .bl _ :: r, _, _, e, _ => by cases e
  | .str _ :: r, _, _, e, _ => by cases e
  | .tup _ :: r, _, _, e, _ => by cases e
  | .ref _ :: r, _, _, e, _ => by cases e
  | .key _ :: r, _, _, e, _ => by cases e
  | .rol _ :: r, _, _, e, _ => by cases e
  | .adr _ :: r, _, _, e, _ => by cases e
def boolsOf : List D → Option (List Bool)
  | [] => some []
  | .bl i :: r => (boolsOf r).map (i :: ·)
  | _ => none
theorem boolsOf_rep {K : PySem.W.Frag} {φ : List Addr} {H : Hp} : ∀ {xs : List D} {ns : List Bool} {vs : List V}, boolsOf xs = some ns → RepL K φ H xs vs → vs = ns.map V.bl
  | [], ns, vs, e, r => by cases (show _ = _ from e); exact r
  | .bl i :: r, ns, vs, e, ⟨v, q, e1, h1, h2⟩ => by
    unfold boolsOf at e
    cases z : boolsOf r with
    | none => rw [z] at e; cases e
    | some ks' =>
      rw [z] at e
      cases (show _ = _ from e)
      subst e1
      cases (show _ = _ from h1)
      rw [boolsOf_rep z h2]
      rfl
  | .non :: r, _, _, e, _ => by cases e
  | .int _ :: r, _, _, e, _ => by cases e
  | .str _ :: r, _, _, e, _ => by cases e
  | .tup _ :: r, _, _, e, _ => by cases e
  | .ref _ :: r, _, _, e, _ => by cases e
  | .key _ :: r, _, _, e, _ => by cases e
  | .rol _ :: r, _, _, e, _ => by cases e
  | .adr _ :: r, _, _, e, _ => by cases e
def insI (i : Int) : List Int → List Int
  | [] => [i]
  | j :: r => if i ≤ j then i :: j :: r else j :: insI i r
def sortI : List Int → List Int
  | [] => []
  | i :: r => insI i (sortI r)
theorem insI_perm (i : Int) : ∀ l : List Int, (insI i l).Perm (i :: l)
  | [] => .refl _
  | j :: r => by
    unfold insI
    split
    · exact .refl _
    · exact ((insI_perm i r).cons j).trans (.swap i j r)
theorem sortI_perm : ∀ l : List Int, (sortI l).Perm l
  | [] => .refl _
  | i :: r => (insI_perm i (sortI r)).trans ((sortI_perm r).cons i)
theorem insI_sorted (i : Int) : ∀ l : List Int, l.Pairwise (· ≤ ·) → (insI i l).Pairwise (· ≤ ·)
  | [], _ => List.pairwise_singleton _ _
  | j :: r, h => by
    unfold insI
    have hj := List.pairwise_cons.mp h
    split
    · rename_i hij
      exact List.pairwise_cons.mpr ⟨fun k hk => by
        rcases List.mem_cons.mp hk with z | z
        · subst z; exact hij
        · exact Int.le_trans hij (hj.1 k z), h⟩
    · rename_i hij
      refine List.pairwise_cons.mpr ⟨fun k hk => ?_, insI_sorted i r hj.2⟩
      rcases List.mem_cons.mp ((insI_perm i r).subset hk) with z | z
      · subst z; omega
      · exact hj.1 k z
theorem sortI_sorted : ∀ l : List Int, (sortI l).Pairwise (· ≤ ·)
  | [] => .nil
  | i :: r => insI_sorted i _ (sortI_sorted r)
theorem sorted_one : ∀ {xs ys : List Int}, xs.Perm ys → xs.Pairwise (· ≤ ·) → ys.Pairwise (· ≤ ·) → xs = ys
  | [], ys, p, _, _ => by simpa using p.length_eq.symm
  | x :: xs, [], p, _, _ => by simpa using p.length_eq
  | x :: xs, y :: ys, p, h1, h2 => by
    have a := List.pairwise_cons.mp h1
    have b := List.pairwise_cons.mp h2
    have e : x = y := by
      have m1 : y ∈ x :: xs := p.symm.subset List.mem_cons_self
      have m2 : x ∈ y :: ys := p.subset List.mem_cons_self
      rcases List.mem_cons.mp m1 with z | z
      · exact z.symm
      · rcases List.mem_cons.mp m2 with w | w
        · exact w
        · exact Int.le_antisymm (a.1 y z) (b.1 x w)
    subst e
    rw [sorted_one (p.cons_inv) a.2 b.2]
theorem sort_is {l l' : List Int} (p : l'.Perm l) (s : l'.Pairwise (· ≤ ·)) : l' = sortI l := sorted_one (p.trans (sortI_perm l).symm) s (sortI_sorted l)

def bAbs : FD := fun xs h => match xs with
  | [.int i] => .ok (.int (if i < 0 then -i else i)) h
  | _ => .no
def bMin : FD := fun xs h => match xs with
  | [.int i, .int j] => .ok (.int (if j < i then j else i)) h
  | _ => .no
def bMax : FD := fun xs h => match xs with
  | [.int i, .int j] => .ok (.int (if j > i then j else i)) h
  | _ => .no
def lenOf (h : Hv) : D → Option Nat
  | .str z => if z.length ≤ cap then some z.length else none
  | .ref n => match h[n]? with
    | some (.lst xs) => some xs.length
    | some (.dK kvs) => some kvs.length
    | _ => none
  | .tup xs => some xs.length
  | .key ks => some ks.length
  | .rol ns => some ns.length
  | _ => none
def bLen : FD := fun xs h => match xs with
  | [x] => match lenOf h x with
    | some n => .ok (.int n) h
    | none => .no
  | _ => .no
def inlKeys : List (Key × D) → Option (List Int)
  | [] => some []
  | (.inl i, _) :: r => (inlKeys r).map (i :: ·)
  | _ => none
def bSorted : FD := fun xs h => match xs with
  | [.ref n] => match h[n]? with
    | some (.lst ys) => match intsOf ys with
      | some ns => if ns.length < 64 then .ok (.ref h.length) (h ++ [.lst ((sortI ns).map .int)]) else .no
      | none => .no
    | some (.dK kvs) => match inlKeys kvs with
      | some ns => if ns.length < 64 then .ok (.ref h.length) (h ++ [.lst ((sortI ns).map .int)]) else .no
      | none => .no
    | _ => .no
  | _ => .no
def bList : FD := fun xs h => match xs with
  | [x] => match itemsOf h x with
    | some ys => .ok (.ref h.length) (h ++ [.lst ys])
    | none => .no
  | _ => .no
def bAll : FD := fun xs h => match xs with
  | [x] => match lstOf h x with
    | some ys => match boolsOf ys with
      | some bs => .ok (.bl (bs.all id)) h
      | none => .no
    | none => .no
  | _ => .no
where lstOf (h : Hv) : D → Option (List D)
  | .ref n => lstAt h n
  | _ => none
def bAny : FD := fun xs h => match xs with
  | [x] => match bAll.lstOf h x with
    | some ys => match boolsOf ys with
      | some bs => .ok (.bl (bs.any id)) h
      | none => .no
    | none => .no
  | _ => .no
def bInt : FD := fun xs h => match xs with
  | [.int i] => .ok (.int i) h
  | [.bl b] => .ok (.int (if b = true then 1 else 0)) h
  | _ => .no
def bStrI : FD := fun xs h => match xs with
  | [.int i] => if i.natAbs.log2 < 1920 then .ok (.str (toString i)) h else .no
  | _ => .no
section
variable {X : Cx} {g : Nat → Addr}
theorem one_rep {K : PySem.W.Frag} {φ : List Addr} {H : Hp} {x : D} {vs : List V} (r : RepL K φ H [x] vs) : ∃ v, vs = [v] ∧ Rep K φ H x v := by
  obtain ⟨v, q, e1, h1, h2⟩ := r
  cases (show _ = _ from h2)
  exact ⟨v, e1, h1⟩
theorem two_rep {K : PySem.W.Frag} {φ : List Addr} {H : Hp} {x y : D} {vs : List V} (r : RepL K φ H [x, y] vs) : ∃ v u, vs = [v, u] ∧ Rep K φ H x v ∧ Rep K φ H y u := by
  obtain ⟨v, q, e1, h1, h2⟩ := r
  obtain ⟨u, e2, h3⟩ := one_rep h2
  subst e2
  exact ⟨v, u, e1, h1, h3⟩
theorem c_abs : CallD X g (.builtin "abs") bAbs := by
  refine ⟨_, call_abs, fun W σ φ H h xs vs Q S r p => ?_⟩
  unfold bAbs at p
  split at p
  · obtain ⟨v, e1, h1⟩ := one_rep r
    cases (show _ = _ from h1)
    exact ⟨_, e1, p.here S rfl⟩
  · exact p.elim
theorem c_min (hc : X.calm = true) : CallD X g (.builtin "min") bMin := by
  refine ⟨_, call_min2 hc, fun W σ φ H h xs vs Q S r p => ?_⟩
  unfold bMin at p
  split at p
  · obtain ⟨v, u, e1, h1, h2⟩ := two_rep r
    cases (show _ = _ from h1)
    cases (show _ = _ from h2)
    exact ⟨_, _, e1, p.here S rfl⟩
  · exact p.elim
theorem c_max (hc : X.calm = true) : CallD X g (.builtin "max") bMax := by
  refine ⟨_, call_max2 hc, fun W σ φ H h xs vs Q S r p => ?_⟩
  unfold bMax at p
  split at p
  · obtain ⟨v, u, e1, h1, h2⟩ := two_rep r
    cases (show _ = _ from h1)
    cases (show _ = _ from h2)
    exact ⟨_, _, e1, p.here S rfl⟩
  · exact p.elim
theorem c_len : CallD X g (.builtin "len") bLen := by
  refine ⟨_, CallR.or call_len call_lenD, fun W σ φ H h xs vs Q S r p => ?_⟩
  unfold bLen at p
  split at p
  · rename_i x
    obtain ⟨v, e1, h1⟩ := one_rep r
    split at p
    · rename_i n hn
      unfold lenOf at hn
      split at hn
      · split at hn
        · rename_i z hz
          cases (show _ = _ from h1)
          cases (show _ = _ from hn)
          exact .inl ⟨_, _, e1, ⟨cap_le hz, rfl⟩, p.here S rfl⟩
        · cases hn
      · split at hn
        · rename_i hx
          cases (show _ = _ from hn)
          obtain ⟨a, us, q1, _, q2, q3⟩ := lst_own S hx h1
          subst q1
          refine .inl ⟨_, us.length, e1, .inl ⟨us, SqL.of q2, rfl⟩, ?_⟩
          rw [RepL.length q3]
          exact p.here S rfl
        · rename_i kvs hx
          cases (show _ = _ from hn)
          obtain ⟨a, q1, ea⟩ := h1
          obtain ⟨u, h2, h3⟩ := S.obj _ a _ ea hx
          cases h3 with
          | @dK _ us r3 =>
            subst q1
            refine .inr ⟨a, us, e1, h2, ?_⟩
            rw [RepKV.length r3]
            exact p.here S rfl
        · cases hn
      · cases (show _ = _ from hn)
        obtain ⟨a, us, q1, q2, q3⟩ := h1
        subst q1
        refine .inl ⟨_, us.length, e1, .inr ⟨us, q2, rfl⟩, ?_⟩
        rw [RepL.length q3]
        exact p.here S rfl
      · rename_i ks
        cases (show _ = _ from hn)
        obtain ⟨a, q1, q2⟩ := h1
        subst q1
        refine .inl ⟨_, (ks.map kV).length, e1, .inr ⟨_, SqT.of q2, rfl⟩, ?_⟩
        rw [List.length_map]
        exact p.here S rfl
      · rename_i ns
        cases (show _ = _ from hn)
        obtain ⟨a, q1, q2⟩ := h1
        subst q1
        refine .inl ⟨_, (ns.map V.int).length, e1, .inl ⟨_, q2.sq, rfl⟩, ?_⟩
        rw [List.length_map]
        exact p.here S rfl
      · cases hn
    · exact p.elim
  · exact p.elim
theorem inlKeys_rep {K : PySem.W.Frag} {φ : List Addr} {H : Hp} : ∀ {xs : List (Key × D)} {ns : List Int} {vs : List (Key × V)}, inlKeys xs = some ns → RepKV K φ H xs vs → vs.map (·.1) = ns.map Sum.inl
  | [], ns, vs, e, r => by
    cases (show _ = _ from e)
    cases (show _ = _ from r)
    rfl
  | (.inl i, x) :: r, ns, vs, e, ⟨v, q, e1, h1, h2⟩ => by
    unfold inlKeys at e
    cases z : inlKeys r with
    | none => rw [z] at e; cases e
    | some ks' =>
      rw [z] at e
      cases (show _ = _ from e)
      subst e1
      rw [List.map_cons, inlKeys_rep z h2]
      rfl
  | (.inr i, x) :: r, _, _, e, _ => by cases e
theorem map_int_rep {K : PySem.W.Frag} {φ : List Addr} {H : Hp} (ns : List Int) : RepL K φ H (ns.map D.int) (ns.map V.int) := ints_rep ns
theorem c_sorted (hc : X.calm = true) : CallD X g (.builtin "sorted") bSorted := by
  refine ⟨_, CallR.or cr_sorted (call_sortedDI hc), fun W σ φ H h xs vs Q S r p => ?_⟩
  unfold bSorted at p
  split at p
  · obtain ⟨v, e1, h1⟩ := one_rep r
    split at p
    · rename_i hx
      split at p
      · rename_i ns hn
        split at p
        · rename_i hl
          obtain ⟨a, us, q1, _, q2, q3⟩ := lst_own S hx h1
          subst q1
          rw [intsOf_rep hn q3] at q2
          refine .inl ⟨a, ns, e1, SqL.of q2, hl, fun ns' q pm so hq => ?_⟩
          rw [sort_is pm so]
          exact p.newLst S (ints_rep _) hq
        · exact p.elim
      · exact p.elim
    · rename_i hx
      split at p
      · rename_i ns hn
        split at p
        · rename_i hl
          obtain ⟨a, q1, ea⟩ := h1
          obtain ⟨u, h2, h3⟩ := S.obj _ a _ ea hx
          cases h3 with
          | @dK _ us r3 =>
            subst q1
            refine .inr ⟨a, us, ns, e1, .inl h2, inlKeys_rep hn r3, hl, fun ns' q pm so hq => ?_⟩
            rw [sort_is pm so]
            exact p.newLst S (ints_rep _) hq
        · exact p.elim
      · exact p.elim
    · exact p.elim
  · exact p.elim
theorem c_list : CallD X g (.type "list") bList := by
  refine ⟨_, call_list_of, fun W σ φ H h xs vs Q S r p => ?_⟩
  unfold bList at p
  split at p
  · obtain ⟨v, e1, h1⟩ := one_rep r
    split at p
    · rename_i ys hy
      obtain ⟨a, us, q1, q2, q3⟩ := itemsOf_rep S hy h1
      subst q1
      exact ⟨a, us, e1, q2, fun q hq => p.newLst S q3 hq⟩
    · exact p.elim
  · exact p.elim
theorem lstOf_rep {φ : List Addr} {h : Hv} {H : Hp} (S : Sim X.K g φ h H) {x : D} {xs : List D} (e : bAll.lstOf h x = some xs) {v : V} (r : Rep X.K φ H x v) : ∃ a vs, v = .ref a ∧ SqL X.K H a vs ∧ RepL X.K φ H xs vs := by
  unfold bAll.lstOf at e
  split at e
  · exact lstAt_rep S e r
  · cases e
theorem c_all (hc : X.calm = true) : CallD X g (.builtin "all") bAll := by
  refine ⟨_, cr_all hc, fun W σ φ H h xs vs Q S r p => ?_⟩
  unfold bAll at p
  split at p
  · obtain ⟨v, e1, h1⟩ := one_rep r
    split at p
    · rename_i ys hy
      split at p
      · rename_i bs hb
        obtain ⟨a, us, q1, q2, q3⟩ := lstOf_rep S hy h1
        subst q1
        rw [boolsOf_rep hb q3] at q2
        exact ⟨a, bs, e1, q2, p.here S rfl⟩
      · exact p.elim
    · exact p.elim
  · exact p.elim
theorem c_any (hc : X.calm = true) : CallD X g (.builtin "any") bAny := by
  refine ⟨_, cr_any hc, fun W σ φ H h xs vs Q S r p => ?_⟩
  unfold bAny at p
  split at p
  · obtain ⟨v, e1, h1⟩ := one_rep r
    split at p
    · rename_i ys hy
      split at p
      · rename_i bs hb
        obtain ⟨a, us, q1, q2, q3⟩ := lstOf_rep S hy h1
        subst q1
        rw [boolsOf_rep hb q3] at q2
        exact ⟨a, bs, e1, q2, p.here S rfl⟩
      · exact p.elim
    · exact p.elim
  · exact p.elim
theorem c_int : CallD X g (.type "int") bInt := by
  refine ⟨_, call_int1, fun W σ φ H h xs vs Q S r p => ?_⟩
  unfold bInt at p
  split at p
  · obtain ⟨v, e1, h1⟩ := one_rep r
    cases (show _ = _ from h1)
    exact .inl ⟨_, e1, p.here S rfl⟩
  · obtain ⟨v, e1, h1⟩ := one_rep r
    cases (show _ = _ from h1)
    exact .inr ⟨_, e1, p.here S rfl⟩
  · exact p.elim
theorem c_strI : CallD X g (.type "str") bStrI := by
  refine ⟨_, call_str_int, fun W σ φ H h xs vs Q S r p => ?_⟩
  unfold bStrI at p
  split at p
  · split at p
    · rename_i hl
      obtain ⟨v, e1, h1⟩ := one_rep r
      cases (show _ = _ from h1)
      exact ⟨_, e1, hl, p.here S rfl⟩
    · exact p.elim
  · exact p.elim
end

/-! ### isinstance of a built-in type -/
inductive Tn where
  | none | bool | int | str | tuple | list | dict
  deriving DecidableEq
def Tn.name : Tn → String
  | .none => "NoneType" | .bool => "bool" | .int => "int" | .str => "str" | .tuple => "tuple" | .list => "list" | .dict => "dict"
def Tn.is : Tn → Tn → Bool
  | .bool, .int => true
  | a, b => decide (a = b)
theorem kit_tn : ∀ a b : Tn, kitB a.name b.name = some (a.is b) := by
  intro a b
  cases a <;> cases b <;> decide +kernel
def tnOf (h : Hv) : D → Option Tn
  | .non => some .none
  | .bl _ => some .bool
  | .int _ => some .int
  | .str _ => some .str
  | .tup _ => some .tuple
  | .key _ => some .tuple
  | .rol _ => some .list
  | .ref n => match h[n]? with
    | some (.lst _) => some .list
    | some (.dK _) => some .dict
    | some (.dT _) => some .dict
    | _ => none
  | .adr _ => none
theorem tnOf_rep {K : PySem.W.Frag} {g : Nat → Addr} {φ : List Addr} {h : Hv} {H : Hp} (S : Sim K g φ h H) {x : D} {t : Tn} (e : tnOf h x = some t) {v : V} (r : Rep K φ H x v) : TyX K H v (.type t.name) := by
  unfold tnOf at e
  split at e
  · cases (show _ = _ from e); cases (show _ = _ from r); exact .base .non
  · cases (show _ = _ from e); cases (show _ = _ from r); exact .base (.bl _)
  · cases (show _ = _ from e); cases (show _ = _ from r); exact .base (.int _)
  · cases (show _ = _ from e); cases (show _ = _ from r); exact .base (.str _)
  · cases (show _ = _ from e)
    obtain ⟨p, vs, e1, hs, _⟩ := r
    subst e1
    rcases hs with (hs | ⟨o, hs⟩) | ⟨o, its, n, hk, hc, _⟩
    · exact .base (.tup hs)
    · exact .fTuple hs
    · exact .kTuple hk hc
  · cases (show _ = _ from e)
    obtain ⟨p, e1, hs⟩ := r
    subst e1
    exact .base (.tup hs)
  · cases (show _ = _ from e)
    obtain ⟨p, e1, hs⟩ := r
    subst e1
    rcases hs with ⟨o, hs⟩ | ⟨o, its, n, hk, hc, _⟩
    · exact .base (.frz hs)
    · exact .kList hk hc
  · obtain ⟨a, e1, ea⟩ := r
    subst e1
    split at e
    · rename_i hx
      cases (show _ = _ from e)
      obtain ⟨u, h2, h3⟩ := S.obj _ a _ ea hx
      cases h3 with
      | lst r => exact .base (.lst h2)
    · rename_i hx
      cases (show _ = _ from e)
      obtain ⟨u, h2, h3⟩ := S.obj _ a _ ea hx
      cases h3 with
      | dK r => exact .base (.dK h2)
    · rename_i hx
      cases (show _ = _ from e)
      obtain ⟨u, h2, h3⟩ := S.obj _ a _ ea hx
      cases h3 with
      | dT r => exact .base (.dT h2)
    · cases e
  · cases e
def dIsi (t : Tn) (a : DE) : DE := fun ρ h => (a ρ h).bind fun x h1 => match tnOf h1 x with
  | some s => .ok (.bl (s.is t)) h1
  | none => .no
/-- own classes: which are which -/
structure ClsT (K : PySem.W.Frag) (C : Addr) : Prop where
  cl : Cls K C
  ha : PySem.W.findIn K (.ref C) "__class__" = some (some (.builtin "object.__class__"))
  hn : PySem.W.specialIn K (.builtin "object.__class__") "__get__" = some (some (.builtin "getset_descriptor.__get__"))
  ht : PySem.W.takesIn K (.builtin "object.__class__") = some true
  hm : PySem.W.mroIn K C (.type "object") = some true
def dIsO (tab : Nat → Option Bool) (a : DE) : DE := fun ρ h => (a ρ h).bind fun x h1 => match x with
  | .ref n => match h1[n]? with
    | some (.ins c _) => match tab c with
      | some b => .ok (.bl b) h1
      | none => .no
    | _ => .no
  | _ => .no
section
variable {X : Cx} {g : Nat → Addr} {W : WX} {x : Str} {p pos tp : Pos} {e : Expr} {d : DE}
theorem de_isi (t : Tn) (hm : X.mg "isinstance" = none) (hmt : X.mg x = none) (hv : bootBuiltins x = some (.type t.name)) (he : PE X e (tE X.K g W d)) (hg : Gl X "isinstance" := by rfl) (hgt : Gl X x := by rfl) (hn : x ≠ "__name__" := by decide) (hdb : (x == ("__debug__" : Str)) = false := by decide)
    (hs : starEach [e, .Name x tp] X.env = (false, eval e X.env) :: starEach [.Name x tp] X.env := by rfl) (hs2 : starEach [.Name x tp] X.env = (false, eval (.Name x tp) X.env) :: starEach [] X.env := by rfl) (hpl : (backTo pos (starEach [.Name x tp] X.env)).any (·.1) = false := by rfl) :
    PE X (.Call (.Name "isinstance" p) [e, .Name x tp] [] pos) (tE X.K g W (dIsi t d)) := by
  refine pe_imp (pe_callB call_isi hg hm PyProof.Rows.boot_isinstance (pa_cons he (pa_cons (pe_bltn (v := .ty t.name) hgt hmt hv rfl hn hdb) pa_nil hs2) hs) (by decide) (by decide) hs hpl) fun σ H Q ⟨φ, ρ, h, S, E, q⟩ => ?_
  refine ⟨φ, ρ, h, S, E, Post.bind q fun φ1 H1 x h1 v le1 S1 r1 p1 => ?_⟩
  split at p1
  · rename_i s hs
    exact ⟨v, .ty t.name, _, _, s.is t, rfl, .ty _, tnOf_rep S1 hs r1, kit_ty (kit_tn s t), p1.here S1 rfl⟩
  · exact p1.elim
theorem de_isO {C : Addr} (tab : Nat → Option Bool) (ht : ∀ c b, tab c = some b → ClsT X.K (g c) ∧ PySem.W.kitOne X.K (.ref (g c)) (.ref C) = some b) (hm : X.mg "isinstance" = none) (hmt : X.mg x = some (.ref C)) (he : PE X e (tE X.K g W d)) (hg : Gl X "isinstance" := by rfl) (hgt : Gl X x := by rfl)
    (hdb : (x == ("__debug__" : Str)) = false := by decide)
    (hs : starEach [e, .Name x tp] X.env = (false, eval e X.env) :: starEach [.Name x tp] X.env := by rfl) (hs2 : starEach [.Name x tp] X.env = (false, eval (.Name x tp) X.env) :: starEach [] X.env := by rfl) (hpl : (backTo pos (starEach [.Name x tp] X.env)).any (·.1) = false := by rfl) :
    PE X (.Call (.Name "isinstance" p) [e, .Name x tp] [] pos) (tE X.K g W (dIsO tab d)) := by
  refine pe_imp (pe_callB call_isi hg hm PyProof.Rows.boot_isinstance (pa_cons he (pa_cons (pe_glob (v := .ref C) hgt hmt rfl hdb) pa_nil hs2) hs) (by decide) (by decide) hs hpl) fun σ H Q ⟨φ, ρ, h, S, E, q⟩ => ?_
  refine ⟨φ, ρ, h, S, E, Post.bind q fun φ1 H1 x h1 v le1 S1 r1 p1 => ?_⟩
  split at p1
  · split at p1
    · rename_i hx
      split at p1
      · rename_i b hb
        obtain ⟨a, e1, ea⟩ := r1
        obtain ⟨u, h2, h3⟩ := S1.obj _ a _ ea hx
        cases h3 with
        | @ins _ dx _ vs rf =>
          obtain ⟨k1, k2⟩ := ht _ b hb
          subst e1
          exact ⟨_, .ref C, _, _, b, rfl, .own _, .base (.ins h2 k1.cl k1.ha k1.hn k1.ht k1.hm), k2, p1.here S1 rfl⟩
      · exact p1.elim
    · exact p1.elim
  · exact p1.elim
end
end DL

set_option Elab.async false
set_option linter.all false
set_option autoImplicit false
set_option maxRecDepth 100000
namespace DL
open PySem PySem.Spec PyProof.Rows L2

/-! ### methods of lists -/
abbrev FM := Nat → List D → List D → Hv → R D
def MtL (X : Cx) (g : Nat → Addr) (id : String) (f : FM) : Prop := ∃ r : V → List V → Hp → VK → Prop, MtR X id r ∧
  ∀ (W : WX) (σ : L2.St) (φ : List Addr) (H : Hp) (h : Hv) (n : Nat) (ys xs : List D) (v : V) (vs : List V) (Q : VK), Sim X.K g φ h H → Rep X.K φ H (.ref n) v → h[n]? = some (.lst ys) → RepL X.K φ H xs vs → Post X.K g (Rep X.K) W σ φ H (f n ys xs h) Q → r v vs H Q
def dMl (f : FM) (o : DE) (a : DA) : DE := fun ρ h => (o ρ h).bind fun x h1 => match x with
  | .ref n => match h1[n]? with
    | some (.lst _) => (a ρ h1).bind fun xs h2 => match h2[n]? with
      | some (.lst ys) => f n ys xs h2
      | _ => .no
    | _ => .no
  | _ => .no
section
variable {X : Cx} {g : Nat → Addr} {W : WX} {id : String} {name : Str} {apos cpos : Pos} {o e : Expr} {es : List Expr} {d : DE} {da : DA} {f : FM}
theorem de_ml (slot : Slot "list" name id) (hty : typeOf (.builtin id) = pure (.type "method_descriptor")) (hm : MtL X g id f) (ho : PE X o (tE X.K g W d)) (ha : PA X (e :: es) (tA X.K g W da))
    (hbase : attributeBase o name X.env (eval o X.env) = eval o X.env := by rfl)
    (hfew : ((backTo cpos (starEach (e :: es) X.env)).all (fun x => !x.1) && (backToKw cpos (keywordEach [] X.env)).all (fun x => x.1.isSome)
      && decide ((e :: es).length + ([] : List Keyword).length + (if ([] : List Keyword).isEmpty then 0 else 1) < 30)) = true := by rfl)
    (hline : (apos.endLine == cpos.line) = true := by rfl) (hs : starEach (e :: es) X.env = (false, eval e X.env) :: starEach es X.env := by rfl) (hplain : (backTo cpos (starEach es X.env)).any (·.1) = false := by rfl) :
    PE X (.Call (.Attribute o name apos) (e :: es) [] cpos) (tE X.K g W (dMl f d da)) := by
  obtain ⟨r, h1, h2⟩ := hm
  refine pe_imp (pe_bm PySem.F.plainAttrs_list slot hty h1 ho ha hbase hfew hline hs hplain) fun σ H Q ⟨φ, ρ, h, S, E, q⟩ => ?_
  refine ⟨φ, ρ, h, S, E, Post.bind q fun φ1 H1 x h1 v le1 S1 r1 p1 => ?_⟩
  split at p1
  · split at p1
    · rename_i hx
      obtain ⟨a, us, q1, _, q2, q3⟩ := lst_own S1 hx r1
      refine ⟨by subst q1; exact .inl ⟨rfl, us, SqL.of q2⟩, φ1, ρ, h1, S1, E.mono le1, Post.bind p1 fun φ2 H2 xs h2' vs le2 S2 r2 p2 => ?_⟩
      split at p2
      · rename_i ys hy
        exact h2 W σ φ2 H2 h2' _ ys xs v vs Q S2 (Rep.mono le2 _ _ r1) hy r2 p2
      · exact p2.elim
    · exact p1.elim
  · exact p1.elim
theorem de_ml0 (slot : Slot "list" name id) (hty : typeOf (.builtin id) = pure (.type "method_descriptor")) (hm : MtL X g id f) (ho : PE X o (tE X.K g W d))
    (hbase : attributeBase o name X.env (eval o X.env) = eval o X.env := by rfl) (hline : (apos.endLine == cpos.line) = true := by rfl) : PE X (.Call (.Attribute o name apos) [] [] cpos) (tE X.K g W (dMl f d aNil)) := by
  obtain ⟨r, h1, h2⟩ := hm
  refine pe_imp (pe_bm0 PySem.F.plainAttrs_list slot hty h1 ho hbase hline) fun σ H Q ⟨φ, ρ, h, S, E, q⟩ => ?_
  refine ⟨φ, ρ, h, S, E, Post.bind q fun φ1 H1 x h1 v le1 S1 r1 p1 => ?_⟩
  split at p1
  · split at p1
    · rename_i hx
      obtain ⟨a, us, q1, _, q2, q3⟩ := lst_own S1 hx r1
      refine ⟨by subst q1; exact .inl ⟨rfl, us, SqL.of q2⟩, ?_⟩
      simp only [aNil, DL.R.bind_ok, hx] at p1
      exact h2 W σ φ1 H1 h1 _ _ [] v [] Q S1 r1 hx rfl p1
    · exact p1.elim
  · exact p1.elim
theorem lst_mut {K : PySem.W.Frag} {φ : List Addr} {h : Hv} {H : Hp} {σ : L2.St} {x : D} {v : V} {Q : VK} {n : Nat} {a : Addr} {us vs : List V} {ys : List D} (S : Sim K g φ h H) (ea : φ[n]? = some a) (hH : H a = some (.lst us)) (r : RepL K φ H ys vs) (rx : Rep K φ H x v)
    (p : Post K g (Rep K) W σ φ H (.ok x (h.set n (.lst ys))) Q) : Q v (upd H a (.lst vs)) := by
  have nt : ∀ ws, HO.lst us ≠ .tup ws := fun _ z => nomatch z
  have nz : ∀ ob ws, HO.lst us ≠ .frz ob ws := fun _ _ z => nomatch z
  exact p φ _ _ (Le.mut hH nt nz) (S.mut ea hH nt nz (.lst r)) (Rep.mono (Le.mut hH nt nz) _ _ rx)
def mAppend : FM := fun n ys xs h => match xs with
  | [y] => if ys.length < cap then .ok .non (h.set n (.lst (ys ++ [y]))) else .no
  | _ => .no
def mClear : FM := fun n ys xs h => match xs with
  | [] => .ok .non (h.set n (.lst []))
  | _ => .no
def mReverse : FM := fun n ys xs h => match xs with
  | [] => .ok .non (h.set n (.lst ys.reverse))
  | _ => .no
/-- the first place of an int -/
def placeI (k : Int) : List Int → Option Nat
  | [] => none
  | i :: r => if i = k then some 0 else (placeI k r).map (· + 1)
theorem placeI_at {k : Int} : ∀ {l : List Int} {j : Nat}, placeI k l = some j → l[j]? = some k ∧ ∀ m, m < j → l[m]? ≠ some k
  | [], _, e => by cases e
  | i :: r, j, e => by
    unfold placeI at e
    split at e
    · rename_i hi
      cases (show _ = _ from e)
      subst hi
      exact ⟨rfl, fun m hm => absurd hm (Nat.not_lt_zero m)⟩
    · rename_i hi
      cases q : placeI k r with
      | none => rw [q] at e; cases e
      | some j' =>
        rw [q] at e
        cases (show _ = _ from e)
        obtain ⟨h1, h2⟩ := placeI_at q
        refine ⟨h1, fun m hm => ?_⟩
        cases m with
        | zero => exact fun z => hi (Option.some.inj z)
        | succ m => exact h2 m (by simp at hm; omega)
def mIndex : FM := fun n ys xs h => match xs with
  | [.int k] => match intsOf ys with
    | some ns => match placeI k ns with
      | some j => .ok (.int j) h
      | none => .no
    | none => .no
  | _ => .no
def mRemove : FM := fun n ys xs h => match xs with
  | [.int k] => match intsOf ys with
    | some ns => match placeI k ns with
      | some j => .ok .non (h.set n (.lst ((ns.eraseIdx j).map .int)))
      | none => .no
    | none => .no
  | _ => .no
theorem m_append : MtL X g "list.append" mAppend := by
  refine ⟨_, mt_append, fun W σ φ H h n ys xs v vs Q S r hy rl p => ?_⟩
  unfold mAppend at p
  split at p
  · split at p
    · rename_i hc
      obtain ⟨a, us, q1, ea, q2, q3⟩ := lst_own S hy r
      obtain ⟨u, e1, h1⟩ := one_rep rl
      exact ⟨a, us, u, q1, e1, q2, by rw [RepL.length q3]; exact cap_lt hc, lst_mut (x := .non) (v := .non) S ea q2 (RepL.append q3 (RepL.one h1)) rfl p⟩
    · exact p.elim
  · exact p.elim
theorem m_clear : MtL X g "list.clear" mClear := by
  refine ⟨_, mt_clear, fun W σ φ H h n ys xs v vs Q S r hy rl p => ?_⟩
  unfold mClear at p
  split at p
  · obtain ⟨a, us, q1, ea, q2, q3⟩ := lst_own S hy r
    exact ⟨a, us, q1, rl, q2, lst_mut (x := .non) (v := .non) S ea q2 (show RepL X.K φ H [] [] from rfl) rfl p⟩
  · exact p.elim
theorem m_reverse : MtL X g "list.reverse" mReverse := by
  refine ⟨_, mt_reverse, fun W σ φ H h n ys xs v vs Q S r hy rl p => ?_⟩
  unfold mReverse at p
  split at p
  · obtain ⟨a, us, q1, ea, q2, q3⟩ := lst_own S hy r
    exact ⟨a, us, q1, rl, q2, lst_mut (x := .non) (v := .non) S ea q2 (RepL.reverse q3) rfl p⟩
  · exact p.elim
theorem ints_flat : ∀ ns : List Int, (ns.map V.int).all flatV = true
  | [] => rfl
  | i :: r => by rw [List.map_cons, List.all_cons, ints_flat r]; rfl
theorem m_index : MtL X g "list.index" mIndex := by
  refine ⟨_, mt_index, fun W σ φ H h n ys xs v vs Q S r hy rl p => ?_⟩
  unfold mIndex at p
  split at p
  · rename_i k
    split at p
    · rename_i ns hn
      split at p
      · rename_i j hj
        obtain ⟨a, us, q1, ea, q2, q3⟩ := lst_own S hy r
        obtain ⟨u, e1, h1⟩ := one_rep rl
        cases (show _ = _ from h1)
        obtain ⟨k1, k2⟩ := placeI_at hj
        rw [intsOf_rep hn q3] at q2
        refine ⟨a, ns.map V.int, .int k, j, .int k, q1, e1, SqL.of q2, rfl, ints_flat ns, by rw [List.getElem?_map, k1]; rfl, by simp [eqV], fun m z hm hz => ?_, p.here S rfl⟩
        rw [List.getElem?_map] at hz
        cases q : ns[m]? with
        | none => rw [q] at hz; cases hz
        | some i =>
          rw [q] at hz
          cases (show _ = _ from hz)
          have : i ≠ k := fun z => k2 m hm (by rw [q, z])
          simp [eqV, this]
      · exact p.elim
    · exact p.elim
  · exact p.elim
theorem m_remove : MtL X g "list.remove" mRemove := by
  refine ⟨_, mt_remove, fun W σ φ H h n ys xs v vs Q S r hy rl p => ?_⟩
  unfold mRemove at p
  split at p
  · rename_i k
    split at p
    · rename_i ns hn
      split at p
      · rename_i j hj
        obtain ⟨a, us, q1, ea, q2, q3⟩ := lst_own S hy r
        obtain ⟨u, e1, h1⟩ := one_rep rl
        cases (show _ = _ from h1)
        obtain ⟨k1, k2⟩ := placeI_at hj
        rw [intsOf_rep hn q3] at q2
        exact ⟨a, ns, k, j, q1, e1, q2, k1, k2, lst_mut (x := .non) (v := .non) S ea q2 (ints_rep _) rfl p⟩
      · exact p.elim
    · exact p.elim
  · exact p.elim
end

/-! ### dicts -/
section
variable {κ : Type} [DecidableEq κ]
def valD (kvs : List (κ × D)) (k : κ) : Option D := (kvs.find? fun kv => decide (kv.1 = k)).map (·.2)
def putKD (kvs : List (κ × D)) (k : κ) (v : D) : List (κ × D) :=
  if (kvs.any fun kv => decide (kv.1 = k)) = true then kvs.map fun kv => if kv.1 = k then (kv.1, v) else kv else kvs ++ [(k, v)]
theorem valD_rep {K : PySem.W.Frag} {φ : List Addr} {H : Hp} {k : κ} : ∀ {xs : List (κ × D)} {vs : List (κ × V)}, RepKV K φ H xs vs → (∀ x, valD xs k = some x → ∃ v, valV vs k = some v ∧ Rep K φ H x v) ∧ (valD xs k = none → valV vs k = none)
  | [], _, r => by cases (show _ = _ from r); exact ⟨fun x z => (nomatch z), fun _ => rfl⟩
  | (c, x) :: xs, _, ⟨v, q, e1, h1, h2⟩ => by
    subst e1
    obtain ⟨i1, i2⟩ := valD_rep (k := k) h2
    by_cases e : c = k
    · have a1 : valD ((c, x) :: xs) k = some x := by simp [valD, e]
      have a2 : valV ((c, v) :: q) k = some v := valV_pos e
      rw [a1, a2]
      exact ⟨fun y z => ⟨v, rfl, by rw [← Option.some.inj z]; exact h1⟩, fun z => (nomatch z)⟩
    · have a1 : valD ((c, x) :: xs) k = valD xs k := by simp [valD, e]
      have a2 : valV ((c, v) :: q) k = valV q k := valV_neg e
      rw [a1, a2]
      exact ⟨i1, i2⟩
theorem any_rep {K : PySem.W.Frag} {φ : List Addr} {H : Hp} {k : κ} : ∀ {xs : List (κ × D)} {vs : List (κ × V)}, RepKV K φ H xs vs → (vs.any fun kv => decide (kv.1 = k)) = xs.any fun kv => decide (kv.1 = k)
  | [], _, r => by cases (show _ = _ from r); rfl
  | (c, x) :: xs, _, ⟨v, q, e1, h1, h2⟩ => by
    subst e1
    rw [List.any_cons, List.any_cons, any_rep h2]
theorem RepKV.append {K : PySem.W.Frag} {φ : List Addr} {H : Hp} : ∀ {xs ys : List (κ × D)} {vs us : List (κ × V)}, RepKV K φ H xs vs → RepKV K φ H ys us → RepKV K φ H (xs ++ ys) (vs ++ us)
  | [], _, _, _, r, r' => by cases (show _ = _ from r); exact r'
  | x :: xs, _, _, _, ⟨v, q, e1, h1, h2⟩, r' => by subst e1; exact ⟨v, _, rfl, h1, RepKV.append h2 r'⟩
theorem map_rep {K : PySem.W.Frag} {φ : List Addr} {H : Hp} {k : κ} {y : D} {u : V} (ry : Rep K φ H y u) : ∀ {xs : List (κ × D)} {vs : List (κ × V)}, RepKV K φ H xs vs →
    RepKV K φ H (xs.map fun kv => if kv.1 = k then (kv.1, y) else kv) (vs.map fun kv => if kv.1 = k then (kv.1, u) else kv)
  | [], _, r => by cases (show _ = _ from r); rfl
  | (c, x) :: xs, _, ⟨v, q, e1, h1, h2⟩ => by
    subst e1
    rw [List.map_cons, List.map_cons]
    by_cases e : c = k
    · rw [if_pos e, if_pos e]
      exact ⟨u, _, rfl, ry, map_rep ry h2⟩
    · rw [if_neg e, if_neg e]
      exact ⟨v, _, rfl, h1, map_rep ry h2⟩
theorem putKD_rep {K : PySem.W.Frag} {φ : List Addr} {H : Hp} {k : κ} {y : D} {u : V} (ry : Rep K φ H y u) {xs : List (κ × D)} {vs : List (κ × V)} (r : RepKV K φ H xs vs) : RepKV K φ H (putKD xs k y) (putK vs k u) := by
  unfold putKD putK
  rw [any_rep r]
  split
  · exact map_rep ry r
  · exact RepKV.append r ⟨u, [], rfl, ry, rfl⟩
end
/-- what a dict at n has for a key: none: no dict, no key -/
def keyOf : D → Option Key
  | .int i => some (.inl i)
  | .str x => some (.inr x)
  | _ => none
def dGetAt (h : Hv) (x k : D) : Option (Option D) := match x with
  | .ref n => match h[n]? with
    | some (.dK kvs) => match keyOf k with
      | some c => some (valD kvs c)
      | none => none
    | some (.dT kvs) => match k with
      | .key ks => some (valD kvs ks)
      | _ => none
    | some (.lkK kvs) => match keyOf k with
      | some c => some (valD kvs c)
      | none => none
    | some (.lkT kvs) => match k with
      | .key ks => some (valD kvs ks)
      | _ => none
    | _ => none
  | _ => none
theorem keyOf_rep {K : PySem.W.Frag} {φ : List Addr} {H : Hp} {x : D} {c : Key} (e : keyOf x = some c) {v : V} (r : Rep K φ H x v) : v = kV c := by
  cases x <;> cases (show _ = _ from e) <;> exact r
theorem dGetAt_rep {K : PySem.W.Frag} {g : Nat → Addr} {φ : List Addr} {h : Hv} {H : Hp} (S : Sim K g φ h H) {x k : D} {o : Option D} (e : dGetAt h x k = some o) {v u : V} (rx : Rep K φ H x v) (rk : Rep K φ H k u) :
    ∃ a o', v = .ref a ∧ IsD H a ∧ DGet H a u o' ∧ (∀ y, o = some y → ∃ w, o' = some w ∧ Rep K φ H y w) ∧ (o = none → o' = none) := by
  unfold dGetAt at e
  split at e
  · split at e
    · rename_i hx
      split at e
      · rename_i c hc
        cases (show _ = _ from e)
        obtain ⟨a, e1, ea⟩ := rx
        obtain ⟨z, h2, h3⟩ := S.obj _ a _ ea hx
        cases h3 with
        | @dK _ us r3 =>
          obtain ⟨i1, i2⟩ := valD_rep (k := c) r3
          rw [keyOf_rep hc rk]
          exact ⟨a, _, e1, .inl ⟨us, .inl h2⟩, DGet.k h2, i1, i2⟩
      · cases e
    · rename_i hx
      split at e
      · rename_i ks
        cases (show _ = _ from e)
        obtain ⟨a, e1, ea⟩ := rx
        obtain ⟨z, h2, h3⟩ := S.obj _ a _ ea hx
        obtain ⟨b, e2, hb⟩ := rk
        cases h3 with
        | @dT _ us r3 =>
          obtain ⟨i1, i2⟩ := valD_rep (k := ks) r3
          rw [e2]
          exact ⟨a, _, e1, .inr ⟨us, .inl h2⟩, DGet.t h2 hb, i1, i2⟩
      · cases e
    · rename_i hx
      split at e
      · rename_i c hc
        cases (show _ = _ from e)
        obtain ⟨a, e1, ea⟩ := rx
        obtain ⟨z, h2, h3⟩ := S.obj _ a _ ea hx
        cases h3 with
        | @lkK _ us o r3 =>
          obtain ⟨i1, i2⟩ := valD_rep (k := c) r3
          rw [keyOf_rep hc rk]
          exact ⟨a, _, e1, .inl ⟨us, .inr ⟨o, h2⟩⟩, .inl ⟨us, c, .inr ⟨o, h2⟩, rfl, rfl⟩, i1, i2⟩
      · cases e
    · rename_i hx
      split at e
      · rename_i ks
        cases (show _ = _ from e)
        obtain ⟨a, e1, ea⟩ := rx
        obtain ⟨z, h2, h3⟩ := S.obj _ a _ ea hx
        obtain ⟨b, e2, hb⟩ := rk
        cases h3 with
        | @lkT _ us o r3 =>
          obtain ⟨i1, i2⟩ := valD_rep (k := ks) r3
          rw [e2]
          exact ⟨a, _, e1, .inr ⟨us, .inr ⟨o, h2⟩⟩, .inr ⟨us, ks, b, .inr ⟨o, h2⟩, rfl, hb, rfl⟩, i1, i2⟩
      · cases e
    · cases e
  · cases e
def fDGet : F2 := fun x k h => match dGetAt h x k with
  | some (some y) => .ok y h
  | _ => .no
def fDIn : F2 := fun k x h => match dGetAt h x k with
  | some o => .ok (.bl o.isSome) h
  | none => .no
def fDNotIn : F2 := fun k x h => match dGetAt h x k with
  | some o => .ok (.bl (!o.isSome)) h
  | none => .no
def dNewK : DE := fun _ h => .ok (.ref h.length) (h ++ [.dK []])
def dNewT : DE := fun _ h => .ok (.ref h.length) (h ++ [.dT []])
/-- {k: v} -/
def dOne (k v : DE) : DE := fun ρ h => (k ρ (h ++ [.dK []])).bind fun x h1 => (v ρ h1).bind fun y h2 => match h2[h.length]?, keyOf x with
  | some (.dK []), some c => .ok (.ref h.length) (h2.set h.length (.dK [(c, y)]))
  | _, _ => .no
/-- a subscript of any kind: a list's, a tuple's, a dict's -/
def fSub' : F2 := fun x k h => match fIx x k h with
  | .no => fDGet x k h
  | r => r
section
variable {X : Cx} {g : Nat → Addr} {W : WX} {a b k v : Expr} {da db dk dv : DE} {pos : Pos}
theorem isSome_rep {K : PySem.W.Frag} {φ : List Addr} {H : Hp} {o : Option D} {o' : Option V} (h1 : ∀ y, o = some y → ∃ w, o' = some w ∧ Rep K φ H y w) (h2 : o = none → o' = none) : o'.isSome = o.isSome := by
  cases o with
  | none => rw [h2 rfl]; rfl
  | some y => obtain ⟨w, e, _⟩ := h1 y rfl; rw [e]; rfl
theorem dget_of (σ : L2.St) (H : Hp) (Q : VK) (z : tE X.K g W (dOp fDGet da db) σ H Q) : tDGet (tE X.K g W da) (tE X.K g W db) σ H Q := by
  obtain ⟨φ, ρ, h, S, E, p⟩ := z
  refine ⟨φ, ρ, h, S, E, Post.bind p fun φ1 H1 x h1 v le1 S1 r1 p1 => ?_⟩
  refine ⟨φ1, ρ, h1, S1, E.mono le1, Post.bind p1 fun φ2 H2 y h2 u le2 S2 r2 p2 => ?_⟩
  unfold fDGet at p2
  split at p2
  · rename_i y hy
    obtain ⟨a, o', e1, _, h3, h4, _⟩ := dGetAt_rep S2 hy (Rep.mono le2 _ _ r1) r2
    obtain ⟨w, e2, h5⟩ := h4 _ rfl
    subst e2
    exact ⟨a, w, e1, h3, p2.here S2 h5⟩
  · exact p2.elim
theorem de_dget {n : Nat} (hr : Room n X.A) (ha : PE X a (tE X.K g W da)) (hb : PE X b (tE X.K g W db)) (hs : NoSl b := by exact fun _ _ => rfl) : PE X (.Subscript a b pos) (tE X.K g W (dOp fDGet da db)) :=
  pe_imp (pe_dget (hu_of hr) ha hb hs) dget_of
theorem din_of (σ : L2.St) (H : Hp) (Q : VK) (z : tE X.K g W (dOp fDIn da db) σ H Q) : tDIn (tE X.K g W da) (tE X.K g W db) σ H Q := by
  obtain ⟨φ, ρ, h, S, E, p⟩ := z
  refine ⟨φ, ρ, h, S, E, Post.bind p fun φ1 H1 x h1 v le1 S1 r1 p1 => ?_⟩
  refine ⟨φ1, ρ, h1, S1, E.mono le1, Post.bind p1 fun φ2 H2 y h2 u le2 S2 r2 p2 => ?_⟩
  unfold fDIn at p2
  split at p2
  · rename_i o ho
    obtain ⟨a, o', e1, _, h3, h4, h5⟩ := dGetAt_rep S2 ho r2 (Rep.mono le2 _ _ r1)
    refine ⟨a, o', e1, h3, ?_⟩
    rw [isSome_rep h4 h5]
    exact p2.here S2 rfl
  · exact p2.elim
theorem dnotin_of (σ : L2.St) (H : Hp) (Q : VK) (z : tE X.K g W (dOp fDNotIn da db) σ H Q) : tDNotIn (tE X.K g W da) (tE X.K g W db) σ H Q := by
  obtain ⟨φ, ρ, h, S, E, p⟩ := z
  refine ⟨φ, ρ, h, S, E, Post.bind p fun φ1 H1 x h1 v le1 S1 r1 p1 => ?_⟩
  refine ⟨φ1, ρ, h1, S1, E.mono le1, Post.bind p1 fun φ2 H2 y h2 u le2 S2 r2 p2 => ?_⟩
  unfold fDNotIn at p2
  split at p2
  · rename_i o ho
    obtain ⟨a, o', e1, _, h3, h4, h5⟩ := dGetAt_rep S2 ho r2 (Rep.mono le2 _ _ r1)
    refine ⟨a, o', e1, h3, ?_⟩
    rw [isSome_rep h4 h5]
    exact p2.here S2 rfl
  · exact p2.elim
theorem de_din {n : Nat} (hr : Room n X.A) (ha : PE X a (tE X.K g W da)) (hb : PE X b (tE X.K g W db)) (hm : behindInMarks .In b = false := by rfl) : PE X (.Compare a [.In] [b] pos) (tE X.K g W (dOp fDIn da db)) :=
  pe_imp (pe_cmp (pc_din (hu_of hr) ha hb) hm) din_of
theorem de_dnotin {n : Nat} (hr : Room n X.A) (ha : PE X a (tE X.K g W da)) (hb : PE X b (tE X.K g W db)) (hm : behindInMarks .NotIn b = false := by rfl) : PE X (.Compare a [.NotIn] [b] pos) (tE X.K g W (dOp fDNotIn da db)) :=
  pe_imp (pe_cmp (pc_dnotin (hu_of hr) ha hb) hm) dnotin_of
theorem dB_back {d : DE} (σ : L2.St) (H : Hp) (Q : Bool → Hp → Prop) (t : TE) (ht : ∀ σ H Q, tE X.K g W d σ H Q → t σ H Q) (z : tT X.K g W (dB d) σ H Q) : tB t σ H Q := ht σ H _ (dB_of σ H Q z)
theorem dt_din {n : Nat} (hr : Room n X.A) (ha : PE X a (tE X.K g W da)) (hb : PE X b (tE X.K g W db)) (hm : behindInMarks .In b = false := by rfl) : PT X (.Compare a [.In] [b] pos) (tT X.K g W (dB (dOp fDIn da db))) :=
  pt_imp (pt_cmp (pc_din (hu_of hr) ha hb) hm) fun σ H Q z => dB_back σ H Q _ din_of z
theorem dt_dnotin {n : Nat} (hr : Room n X.A) (ha : PE X a (tE X.K g W da)) (hb : PE X b (tE X.K g W db)) (hm : behindInMarks .NotIn b = false := by rfl) : PT X (.Compare a [.NotIn] [b] pos) (tT X.K g W (dB (dOp fDNotIn da db))) :=
  pt_imp (pt_cmp (pc_dnotin (hu_of hr) ha hb) hm) fun σ H Q z => dB_back σ H Q _ dnotin_of z
theorem de_newK : PE X (.Dict [] [] pos) (tE X.K g W dNewK) := pe_imp pe_dnewK fun σ H Q ⟨φ, ρ, h, S, E, p⟩ q hq =>
  (show Post X.K g (Rep X.K) W σ φ H (.ok (.ref h.length) (h ++ [.dK []])) Q from p) (φ ++ [q]) _ _ (Le.newO hq) (S.newO hq (.dK rfl)) ⟨q, rfl, newO_get S⟩
theorem de_newT : PE X (.Dict [] [] pos) (tE X.K g W dNewT) := pe_imp pe_dnewT fun σ H Q ⟨φ, ρ, h, S, E, p⟩ q hq =>
  (show Post X.K g (Rep X.K) W σ φ H (.ok (.ref h.length) (h ++ [.dT []])) Q from p) (φ ++ [q]) _ _ (Le.newO hq) (S.newO hq (.dT rfl)) ⟨q, rfl, newO_get S⟩
theorem dk_mut {K : PySem.W.Frag} {φ : List Addr} {h : Hv} {H : Hp} {n : Nat} {a : Addr} {us vs : List (Key × V)} {ys : List (Key × D)} (S : Sim K g φ h H) (ea : φ[n]? = some a) (hH : H a = some (.dK us)) (r : RepKV K φ H ys vs) :
    Le K φ φ H (upd H a (.dK vs)) ∧ Sim K g φ (h.set n (.dK ys)) (upd H a (.dK vs)) := by
  have nt : ∀ ws, HO.dK us ≠ .tup ws := fun _ z => nomatch z
  have nz : ∀ ob ws, HO.dK us ≠ .frz ob ws := fun _ _ z => nomatch z
  exact ⟨Le.mut hH nt nz, S.mut ea hH nt nz (.dK r)⟩
theorem dt_mut {K : PySem.W.Frag} {φ : List Addr} {h : Hv} {H : Hp} {n : Nat} {a : Addr} {us vs : List (List Key × V)} {ys : List (List Key × D)} (S : Sim K g φ h H) (ea : φ[n]? = some a) (hH : H a = some (.dT us)) (r : RepKV K φ H ys vs) :
    Le K φ φ H (upd H a (.dT vs)) ∧ Sim K g φ (h.set n (.dT ys)) (upd H a (.dT vs)) := by
  have nt : ∀ ws, HO.dT us ≠ .tup ws := fun _ z => nomatch z
  have nz : ∀ ob ws, HO.dT us ≠ .frz ob ws := fun _ _ z => nomatch z
  exact ⟨Le.mut hH nt nz, S.mut ea hH nt nz (.dT r)⟩
theorem de_one1 (hk : PE X k (tE X.K g W dk)) (hv : PE X v (tE X.K g W dv)) : PE X (.Dict [some k] [v] pos) (tE X.K g W (dOne dk dv)) := by
  refine pe_imp (pe_disp (pps_cons hk hv pps_nil) (by rfl) (by rfl) (by simp) (by simp)) fun σ H Q ⟨φ, ρ, h, S, E, p⟩ q hq => ?_
  have S1 : Sim X.K g (φ ++ [q]) (h ++ [.dK []]) (upd H q (.dK [])) := S.newO hq (.dK rfl)
  have le1 : Le X.K φ (φ ++ [q]) H (upd H q (.dK [])) := Le.newO hq
  have eq : (φ ++ [q])[h.length]? = some q := newO_get S
  refine ⟨φ ++ [q], ρ, h ++ [.dK []], S1, E.mono le1, Post.bind (Post.mono le1 p) fun φ2 H2 x h2 v le2 S2 r2 p2 => ?_⟩
  refine ⟨φ2, ρ, h2, S2, (E.mono le1).mono le2, Post.bind p2 fun φ3 H3 y h3 u le3 S3 r3 p3 => ?_⟩
  split at p3
  · rename_i c hx hc
    have e3 : φ3[h.length]? = some q := prefix_get le3.pre (prefix_get le2.pre eq)
    obtain ⟨z, h4, h5⟩ := S3.obj _ q _ e3 hx
    cases h5 with
    | @dK _ us r5 =>
      cases (show us = [] from r5)
      obtain ⟨m1, m2⟩ := dk_mut S3 e3 h4 (ys := [(c, y)]) (vs := [(c, u)]) ⟨u, [], rfl, r3, rfl⟩
      refine ⟨h4, [(c, u)], ?_, by simp, p3 φ3 _ _ m1 m2 ⟨q, rfl, e3⟩⟩
      rw [keyOf_rep hc (Rep.mono le3 _ _ r2)]
      rfl
  · exact p3.elim

/-! ### x[i] = v -/
def dStore (o i v : DE) : DS := fun ρ h => SR.of ρ (v ρ h) fun y h1 => SR.of ρ (o ρ h1) fun x h2 => SR.of ρ (i ρ h2) fun k h3 => match x with
  | .ref n => match h3[n]?, k with
    | some (.lst xs), .int j => match ixN xs.length j with
      | some jj => .nx ρ (h3.set n (.lst (xs.set jj y)))
      | none => .no
    | _, _ => .no
  | _ => .no
def dStoreD (o i v : DE) : DS := fun ρ h => SR.of ρ (v ρ h) fun y h1 => SR.of ρ (o ρ h1) fun x h2 => SR.of ρ (i ρ h2) fun k h3 => match x with
  | .ref n => match h3[n]? with
    | some (.dK kvs) => match keyOf k with
      | some c => if kvs.length < cap then .nx ρ (h3.set n (.dK (putKD kvs c y))) else .no
      | none => .no
    | some (.dT kvs) => match k with
      | .key ks => if kvs.length < cap then .nx ρ (h3.set n (.dT (putKD kvs ks y))) else .no
      | _ => .no
    | _ => .no
  | _ => .no
theorem ds_store {o i e : Expr} {p' : Pos} {do_ di de : DE} (ho : PE X o (tE X.K g W do_)) (hi : PE X i (tE X.K g W di)) (he : PE X e (tE X.K g W de))
    (hs : swapsWithSole [.Subscript o i p'] e pos.line X.env = pure false := by rfl) (hw : swappedStores [.Subscript o i p'] e X.env = pure none := by rfl)
    (h1 : (assignEach [.Subscript o i p'] X.env).map (·.2) = [assign (.Subscript o i p') X.env] := by rfl)
    (ha : ∀ v, assign (.Subscript o i p') X.env v = (do
      let ov ← holding [v] (eval o X.env)
      let iv ← holding [v, ov] (eval i X.env)
      standAt p'
      holding [v, ov, iv] (setItem ov iv v)
      release [v, ov, iv] []) := by intro _; rfl) : PS X (.Assign [.Subscript o i p'] e pos) (tS X.K g W (dStore do_ di de)) := by
  refine ps_imp (ps_asg he (pg_sub ho hi set_list ha) hs hw h1) fun B σ H ⟨φ, ρ, h, S, E, p⟩ => ?_
  refine ⟨φ, ρ, h, S, E, PostS.of E p fun φ1 H1 y h1 u le1 S1 E1 r1 p1 => ?_⟩
  refine ⟨φ1, ρ, h1, S1, E1, PostS.of E1 p1 fun φ2 H2 x h2 v le2 S2 E2 r2 p2 => ?_⟩
  refine ⟨φ2, ρ, h2, S2, E2, PostS.of E2 p2 fun φ3 H3 k h3 w le3 S3 E3 r3 p3 => ?_⟩
  split at p3
  · split at p3
    · rename_i xs j hx
      split at p3
      · rename_i jj hj
        obtain ⟨a, us, q1, ea, q2, q3⟩ := lst_own S3 hx (Rep.mono le3 _ _ r2)
        have nt : ∀ ws, HO.lst us ≠ .tup ws := fun _ z => nomatch z
        have nz : ∀ ob ws, HO.lst us ≠ .frz ob ws := fun _ _ z => nomatch z
        refine ⟨a, us, j, jj, q1, r3, q2, by rw [RepL.length q3]; exact hj, ?_⟩
        exact PostS.here (PostS.mono (Le.mut q2 nt nz) p3) (S3.mut ea q2 nt nz (.lst (RepL.set (Rep.mono (le2.trans le3) _ _ r1) jj q3))) (E3.mono (Le.mut q2 nt nz))
      · exact p3.elim
    · exact p3.elim
  · exact p3.elim
theorem ds_storeD {n : Nat} (hr : Room n X.A) {o i e : Expr} {p' : Pos} {do_ di de : DE} (ho : PE X o (tE X.K g W do_)) (hi : PE X i (tE X.K g W di)) (he : PE X e (tE X.K g W de))
    (hs : swapsWith e (some (.Subscript o i p')) pos.line X.env = pure false := by rfl) : PS X (.Assign [.Subscript o i p'] e pos) (tS X.K g W (dStoreD do_ di de)) := by
  refine ps_imp (ps_dput (hu_of hr) ho hi he hs) fun B σ H ⟨φ, ρ, h, S, E, p⟩ => ?_
  refine ⟨φ, ρ, h, S, E, PostS.of E p fun φ1 H1 y h1 u le1 S1 E1 r1 p1 => ?_⟩
  refine ⟨φ1, ρ, h1, S1, E1, PostS.of E1 p1 fun φ2 H2 x h2 v le2 S2 E2 r2 p2 => ?_⟩
  refine ⟨φ2, ρ, h2, S2, E2, PostS.of E2 p2 fun φ3 H3 k h3 w le3 S3 E3 r3 p3 => ?_⟩
  have ry := Rep.mono (le2.trans le3) _ _ r1
  split at p3
  · obtain ⟨a, e1, ea⟩ := Rep.mono le3 _ _ r2
    split at p3
    · rename_i hx
      split at p3
      · rename_i c hc
        split at p3
        · rename_i hl
          obtain ⟨z, h4, h5⟩ := S3.obj _ a _ ea hx
          cases h5 with
          | @dK _ us r5 =>
            obtain ⟨m1, m2⟩ := dk_mut S3 ea h4 (putKD_rep (k := c) ry r5)
            refine ⟨a, _, e1, ?_, PostS.here (PostS.mono m1 p3) m2 (E3.mono m1)⟩
            rw [keyOf_rep hc r3]
            exact DPut.k h4 (by rw [RepKV.length r5]; exact cap_lt hl)
        · exact p3.elim
      · exact p3.elim
    · rename_i hx
      split at p3
      · rename_i ks
        split at p3
        · rename_i hl
          obtain ⟨z, h4, h5⟩ := S3.obj _ a _ ea hx
          obtain ⟨b, e2, hb⟩ := r3
          cases h5 with
          | @dT _ us r5 =>
            obtain ⟨m1, m2⟩ := dt_mut S3 ea h4 (putKD_rep (k := ks) ry r5)
            refine ⟨a, _, e1, .inr ⟨us, ks, b, h4, e2, hb, by rw [RepKV.length r5]; exact cap_lt hl, rfl⟩, PostS.here (PostS.mono m1 p3) m2 (E3.mono m1)⟩
        · exact p3.elim
      · exact p3.elim
    · exact p3.elim
  · exact p3.elim

/-! ### raise -/
/-- what of the text an own exception class without __init__ must have -/
structure ExcT (K : PySem.W.Frag) (C : Addr) : Prop where
  ex : PySem.W.excIn K C [.type "ValueError", .type "Exception", .type "BaseException", .type "object"] "ValueError.__new__" = true
  kp : PySem.W.keepIn K (.ref C) = true
  sb : PySem.W.subIn K (.ref C) (.type "BaseException") = some true
  ty : PySem.W.typeIn K (.ref C) = some (.type "type")
def dRaise (c : Nat) : DS := fun ρ h => .ex (.own c none) ρ h
theorem ds_raise (c : Nat) {x m : Str} {j : Nat} {p p2 cpos : Pos} (T : ExcT X.K (g c)) (hc : X.calm = true) (tk : L2N.Takes X W) (hm : X.mg x = some (.ref (g c))) (hg : Gl X x := by rfl) (hdb : (x == ("__debug__" : Str)) = false := by decide) :
    PS X (.Raise (some (.Call (.Name x p) [.Constant (.str m) j p2] [] cpos)) none pos) (tS X.K g W (dRaise c)) := by
  refine ps_imp (L2N.ps_raise hc tk (L2N.pmk_own PySem.F.excBase_ValueError T.ex hm T.kp (raises_own T.sb T.ty) hg hdb)) fun B σ H ⟨φ, ρ, h, S, E, q⟩ => ?_
  exact (show PostS X.K g W B φ H (.ex (.own c none) ρ h) from q) φ H σ _ _ (Le.refl X.K) S E ⟨rfl, rfl⟩
end
/-- code that is never come to -/
def dNo : DS := fun _ _ => .no
theorem ds_no {X : Cx} {g : Nat → Addr} {W : WX} {st : Stmt} : PS X st (tS X.K g W dNo) := ps_imp ps_never fun B σ H ⟨φ, ρ, h, S, E, q⟩ => q
theorem dss_no {X : Cx} {g : Nat → Addr} {W : WX} {sts : List Stmt} : PSs X sts (tS X.K g W dNo) := pss_imp pss_never fun B σ H ⟨φ, ρ, h, S, E, q⟩ => q
end DL

set_option Elab.async false
set_option linter.all false
set_option autoImplicit false
set_option maxRecDepth 100000
namespace DL
open PySem PySem.Spec PyProof.Rows L2

/-! ### what a def's user needs of it -/
structure Df (P : Program) (w : World) (K : PySem.W.Frag) (mg : Str → Option Value) (base : Heap) (g : Nat → Addr) (x : Str) (k n : Nat) (ps : List Str) (F : FD) : Prop where
  ex : ∃ f fd, mg x = some (.ref f) ∧ PySem.W.keepIn K (.ref f) = true ∧ Binds K fd ps [] ∧ FnG P w K mg base (L2N.CX P w) k f fd ps (spD K g n F)
  ar : Ar n F
structure Dm (P : Program) (w : World) (K : PySem.W.Frag) (mg : Str → Option Value) (base : Heap) (g : Nat → Addr) (c : Nat) (m : Str) (k n : Nat) (ps : List Str) (F : FD) : Prop where
  ex : ∃ f fd, Meth K (g c) m f ∧ Binds K fd ps [] ∧ FnG P w K mg base (L2N.CX P w) k f fd ps (spD K g n F)
  cl : Cls K (g c)
  ar : Ar n F
structure Dk (P : Program) (w : World) (K : PySem.W.Frag) (mg : Str → Option Value) (base : Heap) (g : Nat → Addr) (x : Str) (c k n : Nat) (ps : List Str) (F : FD) : Prop where
  ex : ∃ f fd, mg x = some (.ref (g c)) ∧ Mk K (g c) f ∧ Binds K fd ps [] ∧ FnG P w K mg base (L2N.CX P w) k f fd ps (spD K g n F)
  ar : Ar n F
/-- a constant -/
def Gc (K : PySem.W.Frag) (mg : Str → Option Value) (x : Str) (d : D) : Prop := ∃ v u, mg x = some u ∧ RelV v u ∧ ∀ φ H, Rep K φ H d v
/-- the built-in names that no def has taken -/
structure Bl (mg : Str → Option Value) : Prop where
  abs : mg "abs" = none
  all : mg "all" = none
  any : mg "any" = none
  bool : mg "bool" = none
  int : mg "int" = none
  isinstance : mg "isinstance" = none
  len : mg "len" = none
  list : mg "list" = none
  max : mg "max" = none
  min : mg "min" = none
  range : mg "range" = none
  reversed : mg "reversed" = none
  sorted : mg "sorted" = none
  str : mg "str" = none
  tuple : mg "tuple" = none
  zip : mg "zip" = none
/-- which answers are which: 1 Stream, 2 Apart, 3 Answer -/
def tab_Apart : Nat → Option Bool := fun c => if c = 1 then some false else if c = 2 then some true else none
def tab_Stream : Nat → Option Bool := fun c => if c = 1 then some true else if c = 2 then some false else none
def tab_Answer : Nat → Option Bool := fun c => if c = 1 then some true else if c = 2 then some true else none
def fuelI (i : Nat) (ρ : Sl) : Nat := match ρ[i]? with
  | some (some (.int n)) => n.natAbs + 2
  | _ => 0
def fIAdd : F2 := iop (fun _ _ => true) fun i j => .int (i + j)
section
variable {X : Cx} {g : Nat → Addr} {W : WX} {k n j : Nat} {ps : List Str} {F : FD} {x m : Str} {p pos apos : Pos} {e o : Expr} {es : List Expr} {da : DA} {d : DE} {c : Nat}
theorem de_gc {v : D} (h : Gc X.K X.mg x v) (hg : Gl X x := by rfl) (hd : (x == ("__debug__" : Str)) = false := by decide) : PE X (.Name x pos) (tE X.K g W (dC v)) := by
  obtain ⟨w, u, h1, h2, h3⟩ := h
  exact de_glob h1 h2 h3 hg hd
theorem Df.pe (h : Df X.prog X.w X.K X.mg X.base g x k n ps F) (hr : Room k X.A) (hgd : X.A.guards = some []) (tk : L2N.Takes X W) (ha : PA X (e :: es) (tA X.K g W da)) (hg : Gl X x := by rfl) (hdb : (x == ("__debug__" : Str)) = false := by decide)
    (he : starEach (e :: es) X.env = (false, eval e X.env) :: starEach es X.env := by rfl) (hpl : (backTo pos (starEach es X.env)).any (·.1) = false := by rfl) : PE X (.Call (.Name x p) (e :: es) [] pos) (tE X.K g W (dCall F da)) := by
  obtain ⟨f, fd, h1, h2, h3, h4⟩ := h.ex
  exact de_call h4 h.ar hr hgd tk h1 h2 h3 ha hg hdb he hpl
theorem Df.pe0 (h : Df X.prog X.w X.K X.mg X.base g x k n ps F) (hr : Room k X.A) (hgd : X.A.guards = some []) (tk : L2N.Takes X W) (hg : Gl X x := by rfl) (hdb : (x == ("__debug__" : Str)) = false := by decide) : PE X (.Call (.Name x p) [] [] pos) (tE X.K g W (dCall F aNil)) := by
  obtain ⟨f, fd, h1, h2, h3, h4⟩ := h.ex
  exact de_call0 h4 h.ar hr hgd tk h1 h2 h3 hg hdb
theorem Dk.pe (h : Dk X.prog X.w X.K X.mg X.base g x c k n ps F) (hr : Room (k + 1) X.A) (hgd : X.A.guards = some []) (tk : L2N.Takes X W) (ha : PA X (e :: es) (tA X.K g W da)) (hg : Gl X x := by rfl) (hdb : (x == ("__debug__" : Str)) = false := by decide)
    (he : starEach (e :: es) X.env = (false, eval e X.env) :: starEach es X.env := by rfl) (hpl : (backTo pos (starEach es X.env)).any (·.1) = false := by rfl) : PE X (.Call (.Name x p) (e :: es) [] pos) (tE X.K g W (dMake c F da)) := by
  obtain ⟨f, fd, h1, h2, h3, h4⟩ := h.ex
  exact de_make h2 h4 h.ar hr hgd tk h1 h3 ha hg hdb he hpl
theorem Dm.pe {pl : Sem Bool} (h : Dm X.prog X.w X.K X.mg X.base g c m k n ps F) (hr : Room k X.A) (hgd : X.A.guards = some []) (tk : L2N.Takes X W) (ho : PE X o (tE X.K g W d)) (ha : PA X (e :: es) (tA X.K g W da))
    (hst : starEach (e :: es) X.env = (false, eval e X.env) :: starEach es X.env := by rfl) (hpl : (backTo pos (starEach es X.env)).any (·.1) = false := by rfl)
    (ht : eval (.Call (.Attribute o m apos) (e :: es) [] pos) X.env = (do
      let w ← eval o X.env
      standAt apos.atName
      let (f, first) ← holding [w] (getMethod w m pl)
      callWith pos f first (backTo pos (starEach (e :: es) X.env)) (backToKw pos (keywordEach [] X.env))) := by rfl) : PE X (.Call (.Attribute o m apos) (e :: es) [] pos) (tE X.K g W (dMeth c m F d da)) := by
  obtain ⟨f, fd, h1, h3, h4⟩ := h.ex
  exact de_meth h.cl h1 h4 h.ar hr hgd tk h3 ho ha (pl := pl) hst hpl ht
theorem Dm.pe0 {pl : Sem Bool} (h : Dm X.prog X.w X.K X.mg X.base g c m k n ps F) (hr : Room k X.A) (hgd : X.A.guards = some []) (tk : L2N.Takes X W) (ho : PE X o (tE X.K g W d))
    (ht : eval (.Call (.Attribute o m apos) [] [] pos) X.env = (do
      let w ← eval o X.env
      standAt apos.atName
      let (f, first) ← holding [w] (getMethod w m pl)
      callWith pos f first (backTo pos (starEach [] X.env)) (backToKw pos (keywordEach [] X.env))) := by rfl) : PE X (.Call (.Attribute o m apos) [] [] pos) (tE X.K g W (dMeth c m F d aNil)) := by
  obtain ⟨f, fd, h1, h3, h4⟩ := h.ex
  exact de_meth0 h.cl h1 h4 h.ar hr hgd tk h3 ho (pl := pl) ht
end
section
variable {P : Program} {w : World} {K : PySem.W.Frag} {mg : Str → Option Value} {base : Heap} {g : Nat → Addr} {x qual : Str} {st : Stmt} {f : Addr} {fd : FuncData} {k n c : Nat} {ps N : List Str} {d : DS}
theorem Df.mk' (hm : mg x = some (.ref f)) (F : Fun K x qual st f fd) (b : Binds K fd ps []) (G : FnG P w K mg base (L2N.CX P w) k f fd ps (spD K g n (runD N n d))) : Df P w K mg base g x k n ps (runD N n d) :=
  ⟨⟨f, fd, hm, F.kp, b, G⟩, ar_run⟩
theorem Dm.mk' {m : Str} (cl : Cls K (g c)) (hm : Meth K (g c) m f) (b : Binds K fd ps []) (G : FnG P w K mg base (L2N.CX P w) k f fd ps (spD K g n (runD N n d))) : Dm P w K mg base g c m k n ps (runD N n d) :=
  ⟨⟨f, fd, hm, b, G⟩, cl, ar_run⟩
theorem Dk.mk' (hm : mg x = some (.ref (g c))) (M : Mk K (g c) f) (b : Binds K fd ps []) (G : FnG P w K mg base (L2N.CX P w) k f fd ps (spD K g n (runD N n d))) : Dk P w K mg base g x c k n ps (runD N n d) :=
  ⟨⟨f, fd, hm, M, b, G⟩, ar_run⟩
end
end DL

set_option Elab.async false
set_option linter.all false
set_option autoImplicit false
set_option maxRecDepth 100000
namespace DL
open PySem PySem.Spec PyProof.Rows L2

/-- the answer is True -/
def isT (r : R D) : Prop := ∃ h, r = .ok (.bl true) h
theorem vals_of {vs : List Value} {ns : List Int} (hi : IntsAre vs ns) : Vals (ns.map V.int) vs := vals_of_ints hi
/-- the law's call, from its function's answer -/
theorem law_run {P : Program} {w : World} {K : PySem.W.Frag} {mg mb : Str → Option Value} {k : Nat} {fa a : Addr} {fd : FuncData} {x : Str} {g : Nat → Addr} {F : FD} {s1 : Shared} {vs : List Value} {ns : List Int}
    (KX : K.In s1.heap) (hns : s1.heap.Ns mainGlobals mg) (hb : s1.heap.Ns builtinsNs mb) (hbb : ∀ y : Str, y ≠ "__name__" → mb y = bootBuiltins y) (hlim : s1.heap.NoLimit) (hg : s1.gens = #[])
    (ha : s1.heap.get? a = some { cls := .type "list", data := .seq vs.toArray }) (hi : IntsAre vs ns) (hl : ns.length ≤ sizeLine) (hr : Room k callerA)
    (G : ∀ base : Heap, K.In base → base.Ns mainGlobals mg → FnG P w K mg base (L2N.CX P w) k fa fd [x] (spD K g 1 F)) (hbind : ∀ (s : Shared) (u : Value), BindsTo s fd ⟨[u], []⟩ [(x, u)])
    (T : isT (F [.rol ns] [])) :
    codeAny (model P w) callerA (.call (.ref fa) ⟨[.ref a], []⟩) (fun r s' => r = .ok (.ret (.bool true)) ∧ OldK s1.heap s'.heap ∧ s'.os = s1.os ∧ AllBare s'.gens) s1 := by
  have rv : Vals (ns.map V.int) vs := vals_of hi
  have lenV : vs.length = ns.length := hi.length
  obtain ⟨hE, eT⟩ := T
  suffices core : ∀ H : Hp, Only H → RoL K H a (ns.map V.int) → HOk P w H s1.heap → (∀ b, H b ≠ none → b = a) → (H a ≠ none → K.lookup a = none) →
      codeAny (model P w) callerA (.call (.ref fa) ⟨[.ref a], []⟩) (fun r s' => r = .ok (.ret (.bool true)) ∧ OldK s1.heap s'.heap ∧ s'.os = s1.os ∧ AllBare s'.gens) s1 by
    cases hk : K.lookup a with
    | some o =>
      have e := KX a o hk
      rw [ha] at e
      cases e
      refine core (fun _ => none) (fun _ => .inl rfl) ?_ ?_ ?_ ?_
      · exact .inr ⟨_, vs.toArray, _, hk, rfl, rfl, rfl, by rw [List.size_toArray, lenV]; exact hl, by simpa using rv⟩
      · exact fun b u z => nomatch (show (none : Option HO) = some u from z)
      · exact fun b z => absurd rfl z
      · exact fun z => absurd rfl z
    | none =>
      let ob : Obj := { cls := .type "list", data := .seq vs.toArray }
      refine core (fun b => if b = a then some (.frz ob (.lst (ns.map V.int))) else none) ?_ ?_ ?_ ?_ ?_
      · intro b
        by_cases h : b = a
        · exact .inr ⟨ob, _, if_pos h⟩
        · exact .inl (if_neg h)
      · exact .inl ⟨ob, if_pos rfl⟩
      · intro b u z
        by_cases h : b = a
        · subst h
          cases (if_pos rfl).symm.trans z
          exact ⟨ha, by rw [List.length_map]; exact hl, vs, _, rv, ha⟩
        · cases (if_neg h).symm.trans z
      · intro b z
        by_cases h : b = a
        · exact h
        · exact absurd (if_neg h) z
      · exact fun _ => hk
  intro H hO hS hok hA hK
  have nodict : ∀ {b : Addr} {o : Obj} {es : Array DictEntry} {ep : Nat}, s1.heap.get? b = some o → o.data = .dict es ep → H b = none := by
    intro b o es ep e d
    cases z : H b with
    | none => rfl
    | some u =>
      cases hA b (by rw [z]; simp)
      rw [ha] at e
      cases e
      cases (show Data.seq vs.toArray _ = Data.dict es ep from d)
  have keepNs : ∀ {b : Addr} {m : Str → Option Value}, s1.heap.Ns b m → (hidT s1.heap H).Ns b m := by
    rintro b m ⟨o, es, ep, e, d, r⟩
    exact ⟨o, es, ep, hidT_get e (nodict e d), d, r⟩
  have hKb : K.In (hidT s1.heap H) := by
    intro b o e
    refine hidT_get (KX b o e) ?_
    cases z : H b with
    | none => rfl
    | some u =>
      cases hA b (by rw [z]; simp)
      rw [hK (by rw [z]; simp)] at e
      cases e
  have hM : Mod K mg (hidT s1.heap H) := ⟨hKb, keepNs hns, ⟨mb, keepNs hb, hbb⟩, by obtain ⟨mc, h1, h2⟩ := hlim; exact ⟨mc, keepNs h1, h2⟩⟩
  have e0 : Env0 P w K mg (hidT s1.heap H) callerA [] s1 H :=
    ⟨rfl, hM, fun b o e => of_hidT e, Nat.le_of_eq (hidT_size _ _), trivial, fun b hb => (nomatch hb), hok, .of_eq hg⟩
  have sp : spD K g 1 F [.ref a] H (fun v _ => v = .bl true) (fun _ _ _ => False) := by
    refine ⟨rfl, [], [.rol ns], [], ⟨rfl, .nil, fun n b o z => by simp at z⟩, ⟨.ref a, [], rfl, ⟨a, rfl, hS⟩, rfl⟩, ?_⟩
    rw [eT]
    exact fun φ' H' v _ _ q => q
  refine codeAny_mono ((G _ hKb (keepNs hns)).run callerA [] s1 H ⟨[.ref a], []⟩ [.ref a] [.ref a] _ _ hr rfl e0 (hbind s1 (.ref a)) (.cons rfl .nil) sp) ?_
  intro r s' h
  match r, h with
  | .error e, h =>
    obtain ⟨_, _, _, _, _, _, _, _, _, _, _, _, z⟩ := (show L2N.CX P w [] H s1 (fun _ _ _ => False) e s' from h)
    exact z.elim
  | .ok .next, h => exact h.elim
  | .ok .brk, h => exact h.elim
  | .ok .cont, h => exact h.elim
  | .ok (.ret u), h =>
    obtain ⟨v, H', os, bare, un, hok', r', q⟩ := h
    cases (show v = .bl true from q)
    cases (show u = Value.bool true from r')
    refine ⟨rfl, OldK.of_keep fun b o e => ?_, os, bare⟩
    cases z : H b with
    | none => exact un.keep b o e z (by intro t; cases t) (by simp)
    | some u =>
      rcases hO b with z' | ⟨o2, xs, z'⟩
      · rw [z] at z'
        cases z'
      · obtain ⟨e1, _⟩ := hok b _ z'
        obtain ⟨e2, _⟩ := hok' b _ (un.frzs b o2 _ z')
        rw [e] at e1
        cases e1
        exact e2
theorem walkD {l : PySem.W.OpenLaw} {n k : Nat} {q : Program} {loose : List Str} {XP : (Str → Option Value) → Heap → Prop} {YP : World → Heap → Prop} {d : DefRec} {K : Params → PySem.W.Frag} {x : Str} {F : FD}
    (hn : l.most = some n) (hn2 : n ≤ sizeLine) (hdf : d.params.defaults = []) (hr : Room k callerA)
    (hY : ∀ (w : World) (h : Heap), YP w h → (K w.params).In h)
    (G : ∀ (w : World) (mg : Str → Option Value) (fa : Addr) (h : Heap), (K w.params).In h → h.Ns mainGlobals mg → mg d.name = some (.ref fa) →
      ∃ (g : Nat → Addr) (fd : FuncData), (∀ (s : Shared) (u : Value), BindsTo s fd ⟨[u], []⟩ [(x, u)]) ∧
        ∀ base : Heap, (K w.params).In base → base.Ns mainGlobals mg → FnG l.prog w (K w.params) mg base (L2N.CX l.prog w) k fa fd [x] (spD (K w.params) g 1 F))
    (T : ∀ ns : List Int, ns.length ≤ n → (∀ z ∈ ns, Builtin.Int.intBits z ≤ 1048576) → isT (F [.rol ns] [])) :
    PySem.W.WalkO q loose XP YP l.row.toRowW d [] (fun f vs => PySem.call f vs) := by
  refine Att.attach_callB hn hdf ?_
  intro w s0 s1 mg mb fa o pm cd doc a vs ns G0 Y ho hd hcd hmg hobj hints hlen hbits hg
  obtain ⟨g, fd, hb, hF⟩ := G w mg fa _ (hY w _ Y) G0.T.g hmg
  exact law_run (hY w _ Y) G0.T.g G0.T.b G0.T.builtins G0.T.nolimit hg hobj hints (Nat.le_trans hlen hn2) hr hF hb (T ns hlen hbits)
/-! ### from the written part -/
section
theorem kit_own {K : PySem.W.Frag} {C1 C2 : Addr} {b : Bool} (h2 : PySem.W.isClsIn K C2 = true) (h3 : PySem.W.typeIn K (.ref C2) = some (.type "type")) (h4 : PySem.W.subIn K (.ref C1) (.ref C2) = some b) (h5 : PySem.W.subIn K (.ref C2) (.ref C2) = some true) :
    PySem.W.kitOne K (.ref C1) (.ref C2) = some b := by
  unfold PySem.W.kitOne
  by_cases e : (Value.ref C1 == Value.ref C2) = true
  · have e' : Value.ref C1 = Value.ref C2 := beq_iff_eq.mp e
    rw [if_pos e]
    rw [e', h5] at h4
    exact h4
  · rw [if_neg e]
    have h2' : (PySem.W.clsIn K C2).isSome = true := h2
    show (if ((PySem.W.clsIn K C2).isSome && PySem.W.typeIn K (.ref C2) == some (.type "type")) = true then PySem.W.subIn K (.ref C1) (.ref C2) else none) = some b
    rw [if_pos (by rw [h2', h3]; rfl)]
    exact h4
variable {K : PySem.W.Frag} {h : Heap} {mg : Str → Option Value}
theorem gc_int {x : Str} {i : Int} {t : Tok} (X : K.In h) (G : h.Ns mainGlobals mg) (e : PySem.W.nsIn K mainGlobals x = some (some (.int i t))) : Gc K mg x (.int i) := ⟨.int i, _, PySem.W.mg_of X G e, ⟨t, rfl⟩, fun _ _ => rfl⟩
theorem gc_str {x y : Str} {t : Tok} (X : K.In h) (G : h.Ns mainGlobals mg) (e : PySem.W.nsIn K mainGlobals x = some (some (.str y t))) : Gc K mg x (.str y) := ⟨.str y, _, PySem.W.mg_of X G e, ⟨t, rfl⟩, fun _ _ => rfl⟩
theorem gc_pair {x : Str} {i j : Int} {t u : Tok} {a : Addr} {dd : Option Addr} {n : Nat} {sl : Array (Option Value)} (X : K.In h) (G : h.Ns mainGlobals mg) (e : PySem.W.nsIn K mainGlobals x = some (some (.ref a)))
    (l : K.lookup a = some ⟨.type "tuple", dd, .seq #[.int i t, .int j u] n, sl⟩) : Gc K mg x (.tup [.int i, .int j]) :=
  ⟨.ref a, _, PySem.W.mg_of X G e, rfl, fun φ H => ⟨a, [.int i, .int j], rfl, .inr ⟨_, _, _, l, rfl, rfl, (show 2 ≤ sizeLine by decide), .cons ⟨t, rfl⟩ (.cons ⟨u, rfl⟩ .nil)⟩, _, _, rfl, rfl, _, _, rfl, rfl, rfl⟩⟩
end
end DL

set_option Elab.async false
set_option linter.all false
set_option autoImplicit false
set_option maxRecDepth 100000
/-! str of data: of ints, of lists and tuples of data. -/
namespace DL
open PySem PySem.Spec PyProof.Rows L2
def strOk (d : PyData) : Bool := d.showable && !d.hasDict && decide (d.depth ≤ 64) && decide (d.shown.length ≤ cap)
def bStr : FD := fun xs h => match xs with
  | [.int i] => if i.natAbs.log2 < 1920 then .ok (.str (toString i)) h else .no
  | [.tup ys] => match dat h 12 (.tup ys) with
    | some d => if strOk d = true then .ok (.str d.shown) h else .no
    | none => .no
  | [.ref n] => match dat h 12 (.ref n) with
    | some d => if strOk d = true then .ok (.str d.shown) h else .no
    | none => .no
  | _ => .no
section
variable {X : Cx} {g : Nat → Addr}
def rStrD (K : PySem.W.Frag) : List V → Hp → VK → Prop := fun xs H Q => (∃ i, xs = [.int i] ∧ i.natAbs.log2 < 1920 ∧ Q (.str (toString i)) H) ∨
  ∃ a d, xs = [.ref a] ∧ Dp K H (.ref a) d ∧ strOk d = true ∧ Q (.str d.shown) H
theorem call_strD {k : Nat} (hr : Room k X.A) (hgd : X.A.guards = some []) : CallR X (.type "str") (rStrD X.K) := by
  intro pins s σ H xs us Q I r h
  rcases h with h | ⟨a, d, rfl, hd, hok, q⟩
  · exact call_str_int pins s σ H xs us Q I r h
  · obtain ⟨u, rfl, ru⟩ := vals1 r
    cases ru
    obtain ⟨as, rd⟩ := Dp.reads I d (.ref a) _ hd rfl
    unfold strOk at hok
    rw [Bool.and_eq_true, Bool.and_eq_true, Bool.and_eq_true] at hok
    obtain ⟨⟨⟨h1, h2⟩, h3⟩, h4⟩ := hok
    have h3' := of_decide_eq_true h3
    have h4' := of_decide_eq_true h4
    have h2' : d.hasDict = false := by simpa using h2
    refine str_of_reads rd h1 (fun z => by rw [h2'] at z; cases z) hgd (by have := hr.un; omega) (fun _ _ e => e) (fun h' u tk hk => ⟨.str _, H, I.kept hk, ⟨_, rfl⟩, q⟩) (cap_le h4')
theorem c_str {k : Nat} (hr : Room k X.A) (hgd : X.A.guards = some []) : CallD X g (.type "str") bStr := by
  refine ⟨_, call_strD hr hgd, fun W σ φ H h xs vs Q S r p => ?_⟩
  unfold bStr at p
  split at p
  · split at p
    · rename_i hl
      obtain ⟨v, e1, h1⟩ := one_rep r
      cases (show _ = _ from h1)
      exact .inl ⟨_, e1, hl, p.here S rfl⟩
    · exact p.elim
  · split at p
    · rename_i d hd
      split at p
      · rename_i hl
        obtain ⟨v, e1, h1⟩ := one_rep r
        have dp := dat_rep S 12 _ d v hd h1
        obtain ⟨a, _, e2, _⟩ := h1
        subst e2
        exact .inr ⟨a, d, e1, dp, hl, p.here S rfl⟩
      · exact p.elim
    · exact p.elim
  · split at p
    · rename_i d hd
      split at p
      · rename_i hl
        obtain ⟨v, e1, h1⟩ := one_rep r
        have dp := dat_rep S 12 _ d v hd h1
        obtain ⟨a, e2, _⟩ := h1
        subst e2
        exact .inr ⟨a, d, e1, dp, hl, p.here S rfl⟩
      · exact p.elim
    · exact p.elim
  · exact p.elim
end
end DL

set_option autoImplicit false
set_option maxRecDepth 100000
namespace DL
open PySem PySem.Spec PyProof.Rows L2
theorem pyNext_list_end_hot {prog : Program} {w : World} {A : Around} {E : Value → Shared → Prop} {s : Shared} {it l x1 : Addr} {i : Nat} {items : Array Value} {Q : Option Value → Shared → Prop}
    (hot : HotX.HotAt A x1 s.heap) (ne : x1 ≠ it) (hit : s.heap.IsListIter it l i) (hl : s.heap.IsList l items) (hx : items[i]? = none)
    (hQ : ∀ h' : Heap, Heap.ExtBut it s.heap h' → Q none { heap := h', gens := s.gens, drawn := s.drawn, toks := s.toks, os := s.os }) :
    wpAny (model prog w) A (pyNext (.ref it)) Q E s := by
  obtain ⟨hh, o1, vs1, h1, d1, c1⟩ := hot
  have hit0 := hit
  obtain ⟨o, ho, hc, hd⟩ := hit
  obtain ⟨ol, hol, _, nl, hdl⟩ := hl
  unfold pyNext
  refine wpAny_bind (wpAny_attempt (wpAny_callSpecial?_slot (Heap.IsListIter.typeIs hit0) slot_listiter_next (wpAny_call_entry slot_listiter_next (Heap.IsListIter.typeIs hit0) entry_listiter_next ?_ (args_listiter_next (.ref it)))))
  refine wpAny_bind (wpAny_of_eq rfl ?_)
  refine wpAny_bind (wpAny_field ho hd rfl ?_)
  simp only []
  have e00 : (#[Value.ref l, Value.int (i : Int) 0] : Array Value)[0] = Value.ref l := rfl
  simp only [e00]
  rw [if_neg (show ¬ ((Value.ref l == Value.none) = true) from fun z => Bool.false_ne_true z)]
  refine wpAny_bind (wpAny_field ho hd rfl ?_)
  refine wpAny_bind (wpAny_seqItems hol hdl ?_)
  have hx' : items[((i : Int)).toNat]? = none := by simpa using hx
  simp only [hx']
  refine wpAny_bind (wpAny_rule (wpAny_bind (wpAny_setField ho hd (by simp) ?_)))
  have e1 : (s.heap.update it (Obj.mapFields fun x => x.setIfInBounds 0 Value.none)).get? x1 = some o1 := by rw [Heap.get?_update_other _ _ (fun z => ne z.symm)]; exact h1
  have x0 : Heap.ExtBut it s.heap (s.heap.update it (Obj.mapFields fun x => x.setIfInBounds 0 Value.none)) := Heap.SameBut.extBut (Heap.SameBut.update s.heap it (Obj.mapFields fun x => x.setIfInBounds 0 Value.none))
  generalize s.heap.update it (Obj.mapFields fun x => x.setIfInBounds 0 Value.none) = g at *
  unfold Builtin.SmallTypes.stopIteration
  refine wpAny_bind ?_
  refine wpAny_bind (wpAny_newObj_type (wpAny_bind (wpAny_of_eq rfl (wpAny_newObj_type (HotX.raiseNew_hot (x1 := x1) ⟨hh, o1, vs1, Heap.get?_push_of_some _ (Heap.get?_push_of_some _ e1), d1, c1⟩ (Nat.ne_of_lt (Heap.lt_size (Heap.get?_push_of_some _ e1))) (Heap.get?_push_size _ rfl) rfl (by simp; omega) ?_) ?_))) ?_)
  · refine wpAny_bind (wpAny_isInstance ⟨_, Heap.get?_update_self _ (Heap.get?_push_size _ rfl) rfl, rfl⟩ isSubtype_stop (wpAny_pure (hQ _ ?_)))
    intro b o' hb e
    have eb := x0 b o' hb e
    rw [Heap.get?_update_other _ _ (Nat.ne_of_gt (Heap.lt_size (Heap.get?_push_of_some _ eb)))]
    exact Heap.get?_push_of_some _ (Heap.get?_push_of_some _ eb)
  · exact sizeOk_excFields _ _ _ _ _ _ _ _
  · show (0 : Nat) ≤ sizeLine
    exact Nat.zero_le _
theorem walks_list_hot {prog : Program} {w : World} {A : Around} {x1 : Addr} {o1 : Obj} {vs1 : Array Value} (hh : A.handled = some (.ref x1)) (d1 : o1.data = .fields vs1) (c1 : vs1[2]? = some Value.none) (I ax : Addr) (hne : ax ≠ I) (n1 : x1 ≠ I) (items : Array Value) :
    Walks prog w A I [I, ax, x1] [I] items.size (fun i v => items[i]? = some v) fun i h => (h.IsListIter I ax i ∧ h.IsList ax items) ∧ h.get? x1 = some o1 := by
  refine ⟨fun b hb => by simp at hb; simp [hb], fun i h h' st hk => ⟨⟨Heap.IsListIter.at st.1.1 fun o e => hk I (by simp) o e, Heap.IsList.at st.1.2 fun o e => hk ax (by simp) o e⟩, hk x1 (by simp) o1 st.2⟩, fun i s Q E hi st hQ => ?_, fun s Q E st hQ => ?_, fun i s Q E st hQ => wpAny_pyIter_listiter st.1.1 hQ⟩
  · refine wpAny_pyNext_list_item st.1.1 st.1.2 (getElem?_pos items i hi) fun h' hit' hs' => hQ items[i] h' s.toks (getElem?_pos items i hi) ⟨⟨hit', Heap.IsList.extBut st.1.2 (Heap.SameBut.extBut hs') hne⟩, Heap.SameBut.extBut hs' x1 o1 n1 st.2⟩ fun b o hb e => Heap.SameBut.extBut hs' b o (fun z => hb (by simp [z])) e
  · refine pyNext_list_end_hot (x1 := x1) ⟨hh, o1, vs1, st.2, d1, c1⟩ n1 st.1.1 st.1.2 (by simp) fun h' he' => hQ h' s.toks fun b o hb e => he' b o (fun z => hb (by simp [z])) e
theorem cr_anyH {X : Cx} (hc : L2H.HotC X) : CallR X (.builtin "any") (rAny X.K) := by
  intro pins s σ H vs us Q I r h
  obtain ⟨a, bs, rfl, hs, q⟩ := h
  obtain ⟨its, rv, hl, _⟩ := I.list hs
  rw [Vals.ref1 r]
  have hb := Vals.bls rv
  obtain ⟨p, ⟨hh, vs1, d1, c1⟩, pm⟩ := hc
  have g1 := (I.pin p (List.mem_append_left _ pm)).1
  refine call_any_walk (iter_any (PlainL.isList hl) fun s₂ e2 st hne => ?_)
  subst e2
  have n1 : p.1 ≠ s.heap.objs.size := Nat.ne_of_lt (Heap.lt_size g1)
  refine ⟨s.heap.objs.size, _, _, its.toArray.size, _, _, fun i => bs.getD i false, rfl, walks_list_hot (A := X.A.in1) hh d1 c1 s.heap.objs.size a hne n1 its.toArray, ⟨st, Heap.get?_push_of_some _ g1⟩, truth_bools hb, fun h' tk hk => ?_⟩
  refine ⟨.bl (bs.any id), H, I.kept fun b o eo => hk b o (fun hm => by
    have : b = s.heap.objs.size := by simpa using hm
    exact absurd (this ▸ Heap.lt_size eo) (Nat.lt_irrefl _)) (Heap.get?_push_of_some _ eo), ?_, q⟩
  show Value.bool _ = Value.bool _
  congr 1
  rw [← any_range bs, hb]
  simp
end DL

set_option Elab.async false
set_option linter.all false
set_option autoImplicit false
set_option maxRecDepth 100000
/-! try .. except E as n: a suite that returns; what may be asked of the exception in it. -/
namespace DL
open PySem PySem.Spec PyProof.Rows L2
section
variable {X : Cx} {g : Nat → Addr} {W : WX} {x : Str} {p pos tp : Pos} {e : Expr} {d : DE}
theorem c_anyH (hc : L2H.HotC X) : CallD X g (.builtin "any") bAny := by
  refine ⟨_, cr_anyH hc, fun W σ φ H h xs vs Q S r p => ?_⟩
  unfold bAny at p
  split at p
  · obtain ⟨v, e1, h1⟩ := one_rep r
    split at p
    · rename_i ys hy
      split at p
      · rename_i bs hb
        obtain ⟨a, us, q1, q2, q3⟩ := lstOf_rep S hy h1
        subst q1
        rw [boolsOf_rep hb q3] at q2
        exact ⟨a, bs, e1, q2, p.here S rfl⟩
      · exact p.elim
    · exact p.elim
  · exact p.elim
def dIsE (a : Addr) (b : Bool) (e : DE) : DE := fun ρ h => (e ρ h).bind fun x h1 => match x with
  | .adr a' => if a' = a then .ok (.bl b) h1 else .no
  | _ => .no
theorem hot_of {a : Addr} {oe : Obj} {pn : List (Addr × Obj)} {cls : Value} {d : Option Addr} (z : L2N.Zn cls d oe) (f : ∃ vs, oe.data = .fields vs) : L2H.HotC (X.suite a ((a, oe) :: pn)) := by
  obtain ⟨vs, f⟩ := f
  exact ⟨(a, oe), ⟨rfl, vs, f, z.2.2 vs f⟩, by simp⟩
theorem de_isE {a C T : Addr} {oe : Obj} {pn : List (Addr × Obj)} {b : Bool} (E : ExcC X.K C) (z : L2N.Zn (.ref C) none oe) (f : ∃ vs, oe.data = .fields vs) (hk : PySem.W.kitOne X.K (.ref C) (.ref T) = some b) (hm : X.mg "isinstance" = none) (hmt : X.mg x = some (.ref T))
    (he : PE (X.suite a ((a, oe) :: pn)) e (tE X.K g W d)) (hg : Gl (X.suite a ((a, oe) :: pn)) "isinstance" := by rfl) (hgt : Gl (X.suite a ((a, oe) :: pn)) x := by rfl) (hdb : (x == ("__debug__" : Str)) = false := by decide)
    (hs : starEach [e, .Name x tp] X.env = (false, eval e X.env) :: starEach [.Name x tp] X.env := by rfl) (hs2 : starEach [.Name x tp] X.env = (false, eval (.Name x tp) X.env) :: starEach [] X.env := by rfl) (hpl : (backTo pos (starEach [.Name x tp] X.env)).any (·.1) = false := by rfl) :
    PE (X.suite a ((a, oe) :: pn)) (.Call (.Name "isinstance" p) [e, .Name x tp] [] pos) (tE X.K g W (dIsE a b d)) := by
  refine pe_imp (pe_callB (call_isE E z.zc f) hg hm PyProof.Rows.boot_isinstance (pa_cons he (pa_cons (pe_glob (v := .ref T) hgt hmt rfl hdb) pa_nil hs2) hs) (by decide) (by decide) hs hpl) fun σ H Q ⟨φ, ρ, h, S, E, q⟩ => ?_
  refine ⟨φ, ρ, h, S, E, Post.bind q fun φ1 H1 x h1 v le1 S1 r1 p1 => ?_⟩
  split at p1
  · split at p1
    · rename_i hc
      subst hc
      cases (show v = .ref _ from r1)
      exact ⟨_, .ref T, b, rfl, fun u r => r, hk, p1.here S1 rfl⟩
    · exact p1.elim
  · exact p1.elim
theorem de_isEB {a C : Addr} {oe : Obj} {pn : List (Addr × Obj)} {b : Bool} {t : String} (E : ExcC X.K C) (z : L2N.Zn (.ref C) none oe) (f : ∃ vs, oe.data = .fields vs) (hk : PySem.W.kitOne X.K (.ref C) (.type t) = some b) (hm : X.mg "isinstance" = none) (hmt : X.mg x = none) (hv : bootBuiltins x = some (.type t))
    (he : PE (X.suite a ((a, oe) :: pn)) e (tE X.K g W d)) (hg : Gl (X.suite a ((a, oe) :: pn)) "isinstance" := by rfl) (hgt : Gl (X.suite a ((a, oe) :: pn)) x := by rfl) (hn : x ≠ "__name__" := by decide) (hdb : (x == ("__debug__" : Str)) = false := by decide)
    (hs : starEach [e, .Name x tp] X.env = (false, eval e X.env) :: starEach [.Name x tp] X.env := by rfl) (hs2 : starEach [.Name x tp] X.env = (false, eval (.Name x tp) X.env) :: starEach [] X.env := by rfl) (hpl : (backTo pos (starEach [.Name x tp] X.env)).any (·.1) = false := by rfl) :
    PE (X.suite a ((a, oe) :: pn)) (.Call (.Name "isinstance" p) [e, .Name x tp] [] pos) (tE X.K g W (dIsE a b d)) := by
  refine pe_imp (pe_callB (call_isE E z.zc f) hg hm PyProof.Rows.boot_isinstance (pa_cons he (pa_cons (pe_bltn (v := .ty t) hgt hmt hv rfl hn hdb) pa_nil hs2) hs) (by decide) (by decide) hs hpl) fun σ H Q ⟨φ, ρ, h, S, E, q⟩ => ?_
  refine ⟨φ, ρ, h, S, E, Post.bind q fun φ1 H1 x h1 v le1 S1 r1 p1 => ?_⟩
  split at p1
  · split at p1
    · rename_i hc
      subst hc
      cases (show v = .ref _ from r1)
      exact ⟨_, .type t, b, rfl, fun u r => r, hk, p1.here S1 rfl⟩
    · exact p1.elim
  · exact p1.elim
/-! ### try -/
def dTry (kn : Nat → Bool) (body : DS) (hnd : Nat → Hv → SR) : DS := fun ρ h => match body ρ h with
  | .ex (.own c none) _ h' => if kn c = true then hnd c h' else .no
  | .ex _ _ _ => .no
  | r => r
theorem PostS.retOnly {K : PySem.W.Frag} {B B' : Ends} {φ : List Addr} {H : Hp} {x : D} {h : Hv} {W' : WX} (e : B'.rt = B.rt) (p : PostS K g W B φ H (.rt x h)) : PostS K g W' B' φ H (.rt x h) := fun φ2 H2 v l S r => by
  rw [e]; exact p φ2 H2 v l S r
theorem ds_try (i : Nat) {y n : Str} {body suite : List Stmt} {b₀ : Stmt} {np pos' : Pos} {db : DS} {sts : Addr → Nat → DS} (kn : Nat → Bool) (hnd : Nat → Hv → SR) {Cy : Addr}
    (hN : X.N.Nodup) (hc : Names X y (.ref Cy)) (tk : L2N.Takes X W) (hk : ∀ c, kn c = true → PySem.W.exmOne X.K (.ref (g c)) (.ref Cy) = some true)
    (hb : ∀ (W' : WX) (pn : List (Addr × Obj)) (xe : Value → Shared → Prop), L2N.Takes (X.tr pn xe) W' → PassesOwn (model X.prog X.w) X.A X.env xe → PSs (X.tr pn xe) body (tS X.K g W' db))
    (hsu : ∀ (a : Addr) (oe : Obj) (c : Nat) (pn : List (Addr × Obj)), kn c = true → L2N.Zn (.ref (g c)) none oe → (∃ vs, oe.data = .fields vs) → PSs (X.suite a ((a, oe) :: pn)) (b₀ :: suite) (tS X.K g W (sts a c)))
    (hu : ∀ (a : Addr) (c : Nat) (ρ : Sl) (h : Hv), kn c = true → ρ.length = X.N.length → sts a c (ρ.set i (some (.adr a))) h = hnd c h)
    (hr : ∀ (c : Nat) (h : Hv), (∃ x h', hnd c h = .rt x h') ∨ hnd c h = .no)
    (hs : X.stack = X.env :: X.outer := by rfl) (hf : X.env.frame = some X.env.locals := by rfl) (hi : X.N[i]? = some n := by rfl) (hln : X.env.kindOf n = some .local := by rfl) :
    PS X (.Try body [.ExceptHandler (some (.Name y np)) (some n) (b₀ :: suite) pos'] [] [] pos) (tS X.K g W (dTry kn db hnd)) := by
  refine ps_imp (L2N.ps_try_as (i := i) (tb := fun W' => tS X.K g W' db)
    (ts := fun a cls d D σ H => ∃ (c : Nat) (ρ : Sl) (φ : List Addr) (h : Hv), kn c = true ∧ cls = .ref (g c) ∧ d = none ∧ Sim X.K g φ h H ∧ EnvR X.K φ H (ρ.set i (some (.adr a))) σ ∧ PostS X.K g W D φ H (hnd c h)) hs hf hN hi hln hc tk hb (fun a oe cls d pn hz hf => ?_)) fun B σ H ⟨φ, ρ, h, S, E, q⟩ => ?_
  · constructor
    intro pins s σ H D I ⟨c, ρ, φ, h, kc, e1, e2, S, E, p⟩
    subst e1 e2
    refine (hsu a oe c pn kc hz hf).run pins s σ H D I ⟨φ, ρ.set i (some (.adr a)), h, S, E, ?_⟩
    rw [hu a c ρ h kc (by have := E.1; rw [List.length_set] at this; rw [this]; exact I.len)]
    exact p
  · refine ⟨φ, ρ, h, S, E, ?_⟩
    unfold dTry at q
    cases z : db ρ h with
    | nx ρ' h' => rw [z] at q; exact q
    | rt x h' => rw [z] at q; exact q
    | bk ρ' h' => rw [z] at q; exact q
    | ct ρ' h' => rw [z] at q; exact q
    | no => rw [z] at q; exact q
    | ex ee ρ' h' =>
      rw [z] at q
      cases ee with
      | row c k => exact q.elim
      | own c o =>
        cases o with
        | some n => exact q.elim
        | none =>
          simp only [] at q
          by_cases kc : kn c = true
          · rw [if_pos kc] at q
            intro φ2 H2 σ2 cls d l S2 E2 rx
            obtain ⟨r1, r2⟩ := rx
            subst r1 r2
            refine ⟨true, hk c kc, fun _ a ha => ⟨c, ρ', φ2, h', kc, rfl, rfl, S2, E2.set i (show Rep X.K φ2 H2 (.adr a) (.ref a) from rfl), ?_⟩, fun z => by cases z⟩
            rcases hr c h' with ⟨x, h'', e⟩ | e
            · rw [e] at q ⊢
              exact PostS.retOnly (W := W) (B := B) rfl (PostS.mono l q)
            · rw [e] at q; exact q.elim
          · rw [if_neg kc] at q; exact q.elim
end
theorem kitOneV {K : PySem.W.Frag} {C : Addr} (h : PySem.W.subIn K (.ref C) (.type "ValueError") = some true) : PySem.W.kitOne K (.ref C) (.type "ValueError") = some true := by
  unfold PySem.W.kitOne PySem.W.kitCls
  split
  · rfl
  · show (if PySem.W.kitMeta "ValueError" = true then _ else _) = _
    rw [if_pos (show PySem.W.kitMeta "ValueError" = true from by decide)]; exact h
theorem exm_own {K : PySem.W.Frag} {C1 C2 : Addr} {b : Bool} (h1 : PySem.W.subIn K (.ref C2) (.type "BaseException") = some true) (h2 : PySem.W.isClsIn K C2 = true) (h3 : PySem.W.typeIn K (.ref C2) = some (.type "type")) (h4 : PySem.W.subIn K (.ref C1) (.ref C2) = some b) :
    PySem.W.exmOne K (.ref C1) (.ref C2) = some b := by
  unfold PySem.W.exmOne
  rw [if_pos (by rw [h1]; rfl)]
  have h2' : (PySem.W.clsIn K C2).isSome = true := h2
  show (if ((PySem.W.clsIn K C2).isSome && PySem.W.typeIn K (.ref C2) == some (.type "type")) = true then PySem.W.subIn K (.ref C1) (.ref C2) else none) = some b
  rw [if_pos (by rw [h2', h3]; rfl)]
  exact h4
end DL

set_option Elab.async false
set_option linter.all false
set_option autoImplicit false
set_option maxRecDepth 100000
/-! The combinators one by one, as they act on slots and heap: rows to rewrite with. -/
namespace DL
open PySem PySem.Spec PyProof.Rows L2
section
variable {α β : Type} {ρ ρ1 : Sl} {h h1 : Hv} {x y z : D} {i j n : Nat} {a b c : DE} {t u : DS} {p q : DT} {as : DA} {f f' : F2} {F : FD}
def SR.seq (r : SR) (u : DS) : SR := match r with
  | .nx ρ' h' => u ρ' h'
  | r => r
@[simp] theorem SR.seq_nx : SR.seq (.nx ρ h) u = u ρ h := id rfl
@[simp] theorem SR.seq_rt : SR.seq (.rt x h) u = .rt x h := id rfl
@[simp] theorem SR.seq_ex {e : Ex} : SR.seq (.ex e ρ h) u = .ex e ρ h := id rfl
@[simp] theorem SR.seq_no : SR.seq .no u = .no := id rfl
@[simp] theorem SR.seq_bk : SR.seq (.bk ρ h) u = .bk ρ h := id rfl
@[simp] theorem SR.seq_ct : SR.seq (.ct ρ h) u = .ct ρ h := id rfl
@[simp] theorem SR.fin_nx : SR.fin (.nx ρ h) = .ok .non h := id rfl
@[simp] theorem SR.fin_rt : SR.fin (.rt x h) = .ok x h := id rfl
@[simp] theorem SR.fin_ex {e : Ex} : SR.fin (.ex e ρ h) = .ex e h := id rfl
@[simp] theorem seq_ap : dSeq t u ρ h = SR.seq (t ρ h) u := by unfold dSeq SR.seq; cases t ρ h <;> rfl
def getV (o : Option (Option D)) (h : Hv) : R D := match o with
  | some (some x) => .ok x h
  | _ => .no
@[simp] theorem getV_some : getV (some (some x)) h = .ok x h := id rfl
@[simp] theorem var_ap : dVar i ρ h = getV ρ[i]? h := id rfl
@[simp] theorem con_ap : dC x ρ h = .ok x h := id rfl
def opK (f : F2) (b : DE) (ρ : Sl) (x : D) (h : Hv) : R D := (b ρ h).bind (f x)
@[simp] theorem opK_ap : opK f b ρ x h = (b ρ h).bind (f x) := id rfl
@[simp] theorem op_ap : dOp f a b ρ h = (a ρ h).bind (opK f b ρ) := id rfl
def boolV (x : D) (h : Hv) : R Bool := match x with
  | .bl b => .ok b h
  | _ => .no
@[simp] theorem boolV_bl {k : Bool} : boolV (.bl k) h = .ok k h := id rfl
@[simp] theorem b_ap : dB a ρ h = (a ρ h).bind boolV := id rfl
def notK (k : Bool) (h : Hv) : R Bool := .ok (!k) h
@[simp] theorem notK_ap {k : Bool} : notK k h = .ok (!k) h := id rfl
@[simp] theorem not_ap : dNot p ρ h = (p ρ h).bind notK := id rfl
def andK (q : DT) (ρ : Sl) (k : Bool) (h : Hv) : R Bool := if k = true then q ρ h else .ok false h
@[simp] theorem andK_ap {k : Bool} : andK q ρ k h = if k = true then q ρ h else .ok false h := id rfl
def orK (q : DT) (ρ : Sl) (k : Bool) (h : Hv) : R Bool := if k = true then .ok true h else q ρ h
@[simp] theorem orK_ap {k : Bool} : orK q ρ k h = if k = true then .ok true h else q ρ h := id rfl
def notKV (k : Bool) (h : Hv) : R D := .ok (.bl (!k)) h
@[simp] theorem notKV_ap {k : Bool} : notKV k h = .ok (.bl (!k)) h := id rfl
def andKV (q : DE) (ρ : Sl) (k : Bool) (h : Hv) : R D := if k = true then q ρ h else .ok (.bl false) h
@[simp] theorem andKV_ap {k : Bool} : andKV a ρ k h = if k = true then a ρ h else .ok (.bl false) h := id rfl
def orKV (q : DE) (ρ : Sl) (k : Bool) (h : Hv) : R D := if k = true then .ok (.bl true) h else q ρ h
@[simp] theorem orKV_ap {k : Bool} : orKV a ρ k h = if k = true then .ok (.bl true) h else a ρ h := id rfl
def ifKV (a b : DE) (ρ : Sl) (k : Bool) (h : Hv) : R D := if k = true then a ρ h else b ρ h
@[simp] theorem ifKV_ap {k : Bool} : ifKV a b ρ k h = if k = true then a ρ h else b ρ h := id rfl
@[simp] theorem and_ap : dAnd p q ρ h = (p ρ h).bind (andK q ρ) := id rfl
@[simp] theorem or_ap : dOr p q ρ h = (p ρ h).bind (orK q ρ) := id rfl
@[simp] theorem notv_ap : dNotV a ρ h = ((a ρ h).bind boolV).bind notKV := by
  unfold dNotV
  cases a ρ h with
  | ok x h1 => cases x <;> rfl
  | ex e h1 => rfl
  | no => rfl
@[simp] theorem andv_ap : dAndV a b ρ h = ((a ρ h).bind boolV).bind (andKV b ρ) := by
  unfold dAndV
  cases a ρ h with
  | ok x h1 => cases x <;> rfl
  | ex e h1 => rfl
  | no => rfl
@[simp] theorem orv_ap : dOrV a b ρ h = ((a ρ h).bind boolV).bind (orKV b ρ) := by
  unfold dOrV
  cases a ρ h with
  | ok x h1 => cases x <;> rfl
  | ex e h1 => rfl
  | no => rfl
@[simp] theorem ife_ap : dIfE p a b ρ h = (p ρ h).bind (ifKV a b ρ) := id rfl
def chK3 (f' : F2) (y : D) (c : DE) (ρ : Sl) (k : Bool) (h : Hv) : R D := if k = true then (c ρ h).bind (f' y) else .ok (.bl false) h
@[simp] theorem chK3_ap {k : Bool} : chK3 f' y c ρ k h = if k = true then (c ρ h).bind (f' y) else .ok (.bl false) h := id rfl
def chK2 (f f' : F2) (x : D) (c : DE) (ρ : Sl) (y : D) (h : Hv) : R D := ((f x y h).bind boolV).bind (chK3 f' y c ρ)
@[simp] theorem chK2_ap : chK2 f f' x c ρ y h = ((f x y h).bind boolV).bind (chK3 f' y c ρ) := id rfl
def chK1 (f f' : F2) (b c : DE) (ρ : Sl) (x : D) (h : Hv) : R D := (b ρ h).bind (chK2 f f' x c ρ)
@[simp] theorem chK1_ap : chK1 f f' b c ρ x h = (b ρ h).bind (chK2 f f' x c ρ) := id rfl
@[simp] theorem chain_ap : dChain f f' a b c ρ h = (a ρ h).bind (chK1 f f' b c ρ) := by
  unfold dChain
  congr 1; funext x h1; unfold chK1; congr 1; funext y h2
  unfold chK2
  cases f x y h2 with
  | ok x h1 => cases x <;> rfl
  | ex e h1 => rfl
  | no => rfl
@[simp] theorem iop_ap {C : Int → Int → Bool} {G : Int → Int → D} {i j : Int} : iop C G (.int i) (.int j) h = if C i j = true then .ok (G i j) h else .no := id rfl
@[simp] theorem fSub_ap {i j : Int} : fSub (.int i) (.int j) h = .ok (.int (i - j)) h := id rfl
@[simp] theorem fDiv_ap {i j : Int} : fDiv (.int i) (.int j) h = if divC i j = true then .ok (.int (i.fdiv j)) h else .no := id rfl
@[simp] theorem fMod_ap {i j : Int} : fMod (.int i) (.int j) h = if j ≠ 0 then .ok (.int (i.fmod j)) h else .no := by unfold fMod iop; by_cases q : j = 0 <;> simp [q]
@[simp] theorem fLt_ap {i j : Int} : fLt (.int i) (.int j) h = .ok (.bl (decide (i < j))) h := id rfl
@[simp] theorem fLe_ap {i j : Int} : fLe (.int i) (.int j) h = .ok (.bl (decide (i ≤ j))) h := id rfl
@[simp] theorem fGt_ap {i j : Int} : fGt (.int i) (.int j) h = .ok (.bl (decide (j < i))) h := id rfl
@[simp] theorem fGe_ap {i j : Int} : fGe (.int i) (.int j) h = .ok (.bl (decide (j ≤ i))) h := id rfl
@[simp] theorem fAdd_ap {i j : Int} : fAdd (.int i) (.int j) h = .ok (.int (i + j)) h := id rfl
@[simp] theorem fMul_ap {i j : Int} : fMul (.int i) (.int j) h = if mulC i j = true then .ok (.int (i * j)) h else .no := id rfl
@[simp] theorem neg_ap : dNeg a ρ h = (a ρ h).bind (fUn fun i => -i) := id rfl
@[simp] theorem fUn_ap {G : Int → Int} {i : Int} : fUn G (.int i) h = .ok (.int (G i)) h := id rfl
@[simp] theorem nil_ap : aNil ρ h = .ok [] h := id rfl
def coK2 (x : D) (xs : List D) (h : Hv) : R (List D) := .ok (x :: xs) h
@[simp] theorem coK2_ap {xs : List D} : coK2 x xs h = .ok (x :: xs) h := id rfl
def coK1 (as : DA) (ρ : Sl) (x : D) (h : Hv) : R (List D) := (as ρ h).bind (coK2 x)
@[simp] theorem coK1_ap : coK1 as ρ x h = (as ρ h).bind (coK2 x) := id rfl
@[simp] theorem cons_ap : aCons a as ρ h = (a ρ h).bind (coK1 as ρ) := id rfl
def tuK (xs : List D) (h : Hv) : R D := if xs.length ≤ cap then .ok (.tup xs) h else .no
theorem tuK_ap {xs : List D} (e : xs.length ≤ cap) : tuK xs h = .ok (.tup xs) h := if_pos e
@[simp] theorem tuK2 : tuK [x, y] h = .ok (.tup [x, y]) h := id rfl
@[simp] theorem tuK3 : tuK [x, y, z] h = .ok (.tup [x, y, z]) h := id rfl
@[simp] theorem tup_ap : dTup as ρ h = (as ρ h).bind tuK := id rfl
def lsK (xs : List D) (h : Hv) : R D := if xs.length ≤ cap then .ok (.ref h.length) (h ++ [.lst xs]) else .no
theorem lsK_ap {xs : List D} (e : xs.length ≤ cap) : lsK xs h = .ok (.ref h.length) (h ++ [.lst xs]) := if_pos e
@[simp] theorem lsK0 : lsK [] h = .ok (.ref h.length) (h ++ [.lst []]) := id rfl
@[simp] theorem lsK1 : lsK [x] h = .ok (.ref h.length) (h ++ [.lst [x]]) := id rfl
@[simp] theorem lsK2 : lsK [x, y] h = .ok (.ref h.length) (h ++ [.lst [x, y]]) := id rfl
@[simp] theorem lsK3 : lsK [x, y, z] h = .ok (.ref h.length) (h ++ [.lst [x, y, z]]) := id rfl
@[simp] theorem lst_ap : dLst as ρ h = (as ρ h).bind lsK := id rfl
def ixV (o : Option (List D)) (i : Int) (h : Hv) : R D := match o with
  | some xs => match atI xs i with
    | some y => .ok y h
    | none => .no
  | none => .no
theorem fIx_ap {i : Int} : fIx x (.int i) h = ixV (itemsOf h x) i h := by cases x <;> rfl
@[simp] theorem fIx_tup {i : Int} {xs : List D} : fIx (.tup xs) (.int i) h = ixV (some xs) i h := id rfl
@[simp] theorem fIx_ref {i : Int} {n : Nat} : fIx (.ref n) (.int i) h = ixV (lstAt h n) i h := id rfl
@[simp] theorem fIx_rol {i : Int} {ns : List Int} : fIx (.rol ns) (.int i) h = ixV (some (ns.map D.int)) i h := id rfl
theorem ixN_nat {k n : Nat} (e : k < n) : ixN n (k : Int) = some k := by
  unfold ixN
  rw [if_pos (by omega), if_pos (by omega)]
  simp
theorem atI_nat {xs : List D} {i : Nat} {y : D} (e : xs[i]? = some y) : atI xs (i : Int) = some y := by
  unfold atI
  rw [ixN_nat (List.getElem?_eq_some_iff.mp e).1]
  simp [e]
theorem ixV_nat {xs : List D} {i : Nat} {y : D} (e : xs[i]? = some y) : ixV (some xs) (i : Int) h = .ok y h := by
  simp [ixV, atI_nat e]
@[simp] theorem ixV_0 {xs : List D} : ixV (some (x :: xs)) 0 h = .ok x h := ixV_nat (i := 0) rfl
@[simp] theorem ixV_1 {xs : List D} : ixV (some (x :: y :: xs)) 1 h = .ok y h := ixV_nat (i := 1) rfl
@[simp] theorem ixV_2 {xs : List D} : ixV (some (x :: y :: z :: xs)) 2 h = .ok z h := ixV_nat (i := 2) rfl
@[simp] theorem ix_ap : dIx a b ρ h = (a ρ h).bind (opK fIx b ρ) := id rfl
@[simp] theorem onone_ap : oNone ρ h = .ok none h := id rfl
def seK (ρ : Sl) (i : Nat) (x : D) (h : Hv) : SR := .nx (ρ.set i (some x)) h
@[simp] theorem seK_ap : seK ρ i x h = .nx (ρ.set i (some x)) h := id rfl
@[simp] theorem set_ap {e : DE} : dSet i e ρ h = SR.of ρ (e ρ h) (seK ρ i) := id rfl
def drK (ρ : Sl) (_ : D) (h : Hv) : SR := .nx ρ h
@[simp] theorem drK_ap : drK ρ x h = .nx ρ h := id rfl
@[simp] theorem drop_ap {e : DE} : dDrop e ρ h = SR.of ρ (e ρ h) (drK ρ) := id rfl
@[simp] theorem ret_ap {e : DE} : dRet e ρ h = SR.of ρ (e ρ h) SR.rt := id rfl
@[simp] theorem retn_ap : dRetN ρ h = .rt .non h := id rfl
@[simp] theorem nx_ap : dNx ρ h = .nx ρ h := id rfl
@[simp] theorem no_ap : dNo ρ h = .no := id rfl
@[simp] theorem raise_ap {k : Nat} : dRaise k ρ h = .ex (.own k none) ρ h := id rfl
def ifK (t u : DS) (ρ : Sl) (k : Bool) (h : Hv) : SR := if k = true then t ρ h else u ρ h
@[simp] theorem ifK_ap {k : Bool} : ifK t u ρ k h = if k = true then t ρ h else u ρ h := id rfl
@[simp] theorem if_ap : dIf p t u ρ h = SR.of ρ (p ρ h) (ifK t u ρ) := id rfl
def parV (ρ : Sl) (i j : Nat) (xs : List D) (h : Hv) : SR := match xs with
  | [x, y] => .nx ((ρ.set i (some x)).set j (some y)) h
  | _ => .no
@[simp] theorem parV_two : parV ρ i j [x, y] h = .nx ((ρ.set i (some x)).set j (some y)) h := id rfl
@[simp] theorem par_ap : dPar i j as ρ h = SR.of ρ (as ρ h) (parV ρ i j) := id rfl
def asgV (o : Option Sl) (h : Hv) : SR := match o with
  | some ρ' => .nx ρ' h
  | none => .no
@[simp] theorem asgV_some : asgV (some ρ) h = .nx ρ h := id rfl
def asK (g : DG) (ρ : Sl) (x : D) (h : Hv) : SR := asgV (g x ρ) h
@[simp] theorem asK_ap {g : DG} : asK g ρ x h = asgV (g x ρ) h := id rfl
@[simp] theorem asg_ap {e : DE} {g : DG} : dAsg e g ρ h = SR.of ρ (e ρ h) (asK g ρ) := id rfl
@[simp] theorem gn_ap : gN i x ρ = some (ρ.set i (some x)) := id rfl
@[simp] theorem gsnil_ap : gsNil [] ρ = some ρ := id rfl
@[simp] theorem gscons_ap {k : Nat} {g : DGs} {xs : List D} : gsCons (gN k) g (x :: xs) ρ = g xs (ρ.set k (some x)) := id rfl
theorem gt_tup {k : Nat} {g : DGs} {xs : List D} (e : xs.length = k) : gT k g (.tup xs) ρ = g xs ρ := by unfold gT; simp [e]
@[simp] theorem gt_two {g : DGs} : gT 2 g (.tup [x, y]) ρ = g [x, y] ρ := id rfl
@[simp] theorem gt_three {g : DGs} : gT 3 g (.tup [x, y, z]) ρ = g [x, y, z] ρ := id rfl
@[simp] theorem call_ap : dCall F as ρ h = (as ρ h).bind F := id rfl
@[simp] theorem run_ap {N : List Str} {d : DS} {xs : List D} : runD N n d xs h = if xs.length = n then (d (startD N xs) h).fin else .no := id rfl
@[simp] theorem yes_ap : dYes ρ h = .ok true h := id rfl
@[simp] theorem abs_ap {i : Int} : bAbs [.int i] h = .ok (.int (if i < 0 then -i else i)) h := id rfl
def isV (o : Option Tn) (t : Tn) (h : Hv) : R D := match o with
  | some s => .ok (.bl (s.is t)) h
  | none => .no
@[simp] theorem isV_some {s t : Tn} : isV (some s) t h = .ok (.bl (s.is t)) h := id rfl
def isK (t : Tn) (x : D) (h : Hv) : R D := isV (tnOf h x) t h
@[simp] theorem isK_ap {t : Tn} : isK t x h = isV (tnOf h x) t h := id rfl
@[simp] theorem isi_ap {t : Tn} : dIsi t a ρ h = (a ρ h).bind (isK t) := id rfl
@[simp] theorem tnOf_int {i : Int} : tnOf h (.int i) = some .int := id rfl
@[simp] theorem tnOf_bl {k : Bool} : tnOf h (.bl k) = some .bool := id rfl
@[simp] theorem tnOf_non : tnOf h .non = some .none := id rfl
@[simp] theorem tnOf_str {w : Str} : tnOf h (.str w) = some .str := id rfl
@[simp] theorem tnOf_tup {xs : List D} : tnOf h (.tup xs) = some .tuple := id rfl
def eqV (o : Option Bool) (h : Hv) : R D := match o with
  | some b => .ok (.bl b) h
  | none => .no
@[simp] theorem eqV_some {k : Bool} : eqV (some k) h = .ok (.bl k) h := id rfl
@[simp] theorem fEq_ap : fEq x y h = eqV (eqD h x y) h := id rfl
@[simp] theorem fNe_ap : fNe x y h = eqV ((eqD h x y).map (!·)) h := by unfold fNe eqV; cases eqD h x y <;> rfl
@[simp] theorem eqD_int {i j : Int} : eqD h (.int i) (.int j) = some (decide (i = j)) := id rfl
@[simp] theorem eqD_str {a b : Str} : eqD h (.str a) (.str b) = some (decide (a = b)) := id rfl
@[simp] theorem len_tup {xs : List D} : bLen [.tup xs] h = .ok (.int xs.length) h := id rfl
end
@[simp] theorem is_dec_int : Tn.is .int .int = true := id rfl
@[simp] theorem is_int_bool : Tn.is .int .bool = false := id rfl
@[simp] theorem is_bool_int : Tn.is .bool .int = true := id rfl
@[simp] theorem is_bool_bool : Tn.is .bool .bool = true := id rfl
@[simp] theorem is_tup : Tn.is .tuple .tuple = true := id rfl
@[simp] theorem is_lst : Tn.is .list .list = true := id rfl
end DL

set_option Elab.async false
set_option linter.all false
set_option autoImplicit false
set_option maxRecDepth 100000
/-! Fractions as values: a rational's pair, and how large it may be. -/
namespace DL
open PySem PySem.Spec PyProof.Rows L2
abbrev pr (a b : Int) : D := .tup [.int a, .int b]
def fr (x : Rat) : D := .tup [.int x.num, .int x.den]
/-- bits: numerator and denominator stay below a power -/
def Sm (n : Nat) (x : Rat) : Prop := x.num.natAbs < 2 ^ n ∧ x.den < 2 ^ n
theorem Sm.mono {m n : Nat} {x : Rat} (h : Sm m x) (e : m ≤ n) : Sm n x :=
  ⟨Nat.lt_of_lt_of_le h.1 (Nat.pow_le_pow_right (by decide) e), Nat.lt_of_lt_of_le h.2 (Nat.pow_le_pow_right (by decide) e)⟩
theorem mul_lt_pow {a b m n : Nat} (h1 : a < 2 ^ m) (h2 : b < 2 ^ n) : a * b < 2 ^ (m + n) := by
  rw [Nat.pow_add]
  exact Nat.mul_lt_mul'' h1 h2
theorem mkRat_bits {a : Int} {b n : Nat} (hb : b ≠ 0) (h1 : a.natAbs < 2 ^ n) (h2 : b < 2 ^ n) : Sm n (mkRat a b) := by
  constructor
  · rw [Rat.num_mkRat, if_neg hb]
    have : (a / (b.gcd a.natAbs : Nat)).natAbs ≤ a.natAbs := Int.natAbs_ediv_le_natAbs _ _
    omega
  · rw [Rat.den_mkRat, if_neg hb]
    exact Nat.lt_of_le_of_lt (Nat.div_le_self _ _) h2
theorem Sm.mul {m n : Nat} {x y : Rat} (hx : Sm m x) (hy : Sm n y) : Sm (m + n) (x * y) := by
  rw [Rat.mul_def']
  refine mkRat_bits (Nat.mul_ne_zero x.den_nz y.den_nz) ?_ (mul_lt_pow hx.2 hy.2)
  rw [Int.natAbs_mul]
  exact mul_lt_pow hx.1 hy.1
theorem sum_lt {a b m n : Nat} (h1 : a < 2 ^ (m + n)) (h2 : b < 2 ^ (m + n)) : a + b < 2 ^ (m + n + 1) := by
  rw [Nat.pow_succ]; omega
theorem Sm.add {m n : Nat} {x y : Rat} (hx : Sm m x) (hy : Sm n y) : Sm (m + n + 1) (x + y) := by
  rw [Rat.add_def']
  refine mkRat_bits (Nat.mul_ne_zero x.den_nz y.den_nz) ?_ (Nat.lt_of_lt_of_le (mul_lt_pow hx.2 hy.2) (Nat.pow_le_pow_right (by decide) (by omega)))
  have h1 : x.num.natAbs * y.den < 2 ^ (m + n) := mul_lt_pow hx.1 hy.2
  have h2 : y.num.natAbs * x.den < 2 ^ (m + n) := by rw [Nat.add_comm]; exact mul_lt_pow hy.1 hx.2
  have h3 : (x.num * y.den + y.num * x.den).natAbs ≤ x.num.natAbs * y.den + y.num.natAbs * x.den := by
    refine Nat.le_trans (Int.natAbs_add_le _ _) ?_
    rw [Int.natAbs_mul, Int.natAbs_mul]
    exact Nat.le_refl _
  exact Nat.lt_of_le_of_lt h3 (sum_lt h1 h2)
theorem Sm.neg {m : Nat} {x : Rat} (hx : Sm m x) : Sm m (-x) := ⟨by rw [Rat.neg_num, Int.natAbs_neg]; exact hx.1, hx.2⟩
theorem Sm.sub {m n : Nat} {x y : Rat} (hx : Sm m x) (hy : Sm n y) : Sm (m + n + 1) (x - y) := by
  rw [Rat.sub_eq_add_neg]; exact hx.add hy.neg
theorem Sm.inv {m : Nat} {x : Rat} (hx : Sm m x) (hm : 1 ≤ m := by decide) : Sm m x⁻¹ := by
  have h2 : 1 < 2 ^ m := Nat.lt_of_lt_of_le (by decide : 1 < 2 ^ 1) (Nat.pow_le_pow_right (by decide) hm)
  constructor
  · rw [Rat.num_inv, Int.natAbs_mul]
    have : x.num.sign.natAbs ≤ 1 := by
      rcases Int.lt_trichotomy x.num 0 with h | h | h
      · rw [Int.sign_eq_neg_one_of_neg h]; decide
      · rw [h]; decide
      · rw [Int.sign_eq_one_of_pos h]; decide
    have h3 := hx.2
    calc x.num.sign.natAbs * (x.den : Int).natAbs ≤ 1 * (x.den : Int).natAbs := Nat.mul_le_mul_right _ this
      _ < 2 ^ m := by simpa using h3
  · rw [Rat.den_inv]
    split
    · exact h2
    · exact hx.1
theorem Sm.div {m n : Nat} {x y : Rat} (hx : Sm m x) (hy : Sm n y) (hn : 1 ≤ n) : Sm (m + n) (x / y) := by
  rw [Rat.div_def]; exact hx.mul (hy.inv hn)
theorem log_lt {a n : Nat} (h : a < 2 ^ n) (hn : 0 < n) : a.log2 < n := by
  by_cases z : a = 0
  · subst z; simpa using hn
  · exact (Nat.log2_lt z).mpr h
theorem mulC_sm {a b : Int} (ha : a.natAbs < 2 ^ 60000000) (hb : b.natAbs < 2 ^ 60000000) : mulC a b = true := by
  unfold mulC
  have := log_lt ha (by decide)
  have := log_lt hb (by decide)
  exact decide_eq_true (by omega)
theorem pow_up {a m n : Nat} (h : a < 2 ^ m) (e : m ≤ n) : a < 2 ^ n := Nat.lt_of_lt_of_le h (Nat.pow_le_pow_right (by decide) e)
theorem divC_ok {a b : Int} (hb : b ≠ 0) (h : b.natAbs < 2 ^ 9000) : divC a b = true := by
  unfold divC
  rw [PyProof.noPylong_of_log2 (log_lt h (by decide))]
  simp [hb]
theorem fdiv_gcd (a b : Int) (hb : b ≠ 0) : a.fdiv (if b < 0 then -(Int.gcd a b : Int) else Int.gcd a b) = (Rat.divInt a b).num ∧ b.fdiv (if b < 0 then -(Int.gcd a b : Int) else Int.gcd a b) = (Rat.divInt a b).den := by
  have hg : (Int.gcd a b : Int) ≠ 0 := by
    intro h
    have z : Int.gcd a b = 0 := by exact_mod_cast h
    exact hb (Int.gcd_eq_zero_iff.mp z).2
  have d1 : (Int.gcd a b : Int) ∣ a := Int.gcd_dvd_left a b
  have d2 : (Int.gcd a b : Int) ∣ b := Int.gcd_dvd_right a b
  rw [Rat.num_divInt, Rat.den_divInt, if_neg hb, Int.gcd_comm b a]
  by_cases hn : b < 0
  · rw [if_pos hn]
    have e1 : -(Int.gcd a b : Int) ∣ a := Int.neg_dvd.mpr d1
    have e2 : -(Int.gcd a b : Int) ∣ b := Int.neg_dvd.mpr d2
    rw [Int.fdiv_eq_ediv_of_dvd e1, Int.fdiv_eq_ediv_of_dvd e2, Int.sign_eq_neg_one_of_neg hn]
    constructor
    · rw [Int.ediv_neg, Int.neg_mul, Int.one_mul, Int.neg_ediv_of_dvd d1]
    · rw [Int.ediv_neg, Int.natCast_ediv, ← Int.neg_ediv_of_dvd d2]
      congr 1
      omega
  · rw [if_neg hn, Int.fdiv_eq_ediv_of_dvd d1, Int.fdiv_eq_ediv_of_dvd d2]
    have hp : 0 < b := by omega
    rw [Int.sign_eq_one_of_pos hp, Int.one_mul]
    constructor
    · rfl
    · rw [Int.natCast_ediv]
      congr 1
      omega
theorem fr_inj {x y : Rat} (h1 : x.num = y.num) (h2 : (x.den : Int) = y.den) : x = y := Rat.ext h1 (by omega)
theorem eqD_pr (h : Hv) (a b c d : Int) : eqD h (pr a b) (pr c d) = some (decide (a = c ∧ b = d)) := by
  have e1 : dat h 12 (pr a b) = some (.tuple [.int a, .int b]) := rfl
  have e2 : dat h 12 (pr c d) = some (.tuple [.int c, .int d]) := rfl
  unfold eqD
  split
  · rename_i q _; cases q
  · rename_i q _; cases q
  · rw [e1, e2]
    have s1 : SeqAt.shaped (.tuple [.int a, .int b]) = true := rfl
    have s2 : SeqAt.shaped (.tuple [.int c, .int d]) = true := rfl
    simp only [s1, s2, and_self, if_true]
    congr 1
    simp only [PyData.eqv, PyData.eqvAll, Bool.and_true]
    by_cases p : a = c <;> by_cases q : b = d <;> simp [p, q]
theorem eqD_fr (h : Hv) (x y : Rat) : eqD h (fr x) (fr y) = some (decide (x = y)) := by
  unfold fr
  rw [eqD_pr]
  congr 1
  apply decide_eq_decide.mpr
  constructor
  · rintro ⟨p, q⟩; exact fr_inj p q
  · rintro rfl; exact ⟨rfl, rfl⟩
theorem fr_zero : fr 0 = pr 0 1 := rfl
theorem fr_one : fr 1 = pr 1 1 := rfl
end DL

set_option Elab.async false
set_option linter.all false
set_option autoImplicit false
set_option maxRecDepth 100000
/-! Heaps that grow, lists on them, and loops by what holds at each turn. -/
namespace DL
open PySem PySem.Spec PyProof.Rows L2
theorem get_pre {h h' : Hv} {n : Nat} {o : O} (p : h <+: h') (e : h[n]? = some o) : h'[n]? = some o := prefix_get p e
theorem lst_pre {h h' : Hv} {n : Nat} {xs : List D} (p : h <+: h') (e : lstAt h n = some xs) : lstAt h' n = some xs := by
  unfold lstAt at e ⊢
  cases q : h[n]? with
  | none => rw [q] at e; cases e
  | some o => rw [q] at e; rw [get_pre p q]; exact e
theorem lst_get {h : Hv} {n : Nat} {xs : List D} : lstAt h n = some xs ↔ h[n]? = some (.lst xs) := by
  unfold lstAt
  split
  · rename_i ys q; rw [q]; simp
  · rename_i q
    constructor
    · intro e; cases e
    · intro e; exact absurd e (q xs)
@[simp] theorem lst_new {h : Hv} {xs : List D} : lstAt (h ++ [.lst xs]) h.length = some xs := by simp [lst_get]
theorem lst_lt {h : Hv} {n : Nat} {xs : List D} (e : lstAt h n = some xs) : n < h.length := (List.getElem?_eq_some_iff.mp (lst_get.mp e)).1
theorem pre_app {h t : Hv} : h <+: h ++ t := List.prefix_append _ _
theorem pre_set {h h' : Hv} {n : Nat} {o : O} (p : h <+: h') (e : h.length ≤ n) : h <+: h'.set n o := by
  obtain ⟨t, rfl⟩ := p
  rw [List.set_append_right _ _ e]
  exact pre_app
theorem lst_set_ne {h : Hv} {m n : Nat} {o : O} (e : m ≠ n) : lstAt (h.set n o) m = lstAt h m := by
  unfold lstAt
  rw [List.getElem?_set_ne (by omega)]
theorem lst_set_eq {h : Hv} {n : Nat} {xs : List D} (e : n < h.length) : lstAt (h.set n (.lst xs)) n = some xs := by
  rw [lst_get, List.getElem?_set_self e]
/-- loops -/
theorem for_nx {src : Src} {t : DG} {b : DS} {xs : List D} (I : Nat → Sl → Hv → Prop) (hs : ∀ i ρ h, I i ρ h → srcAt h src i = some xs[i]?)
    (st : ∀ i x ρ h, xs[i]? = some x → I i ρ h → ∃ ρ1 ρ' h', t x ρ = some ρ1 ∧ b ρ1 h = .nx ρ' h' ∧ I (i + 1) ρ' h') :
    ∀ (m i : Nat) (ρ : Sl) (h : Hv), xs.length < m + i → i ≤ xs.length → I i ρ h → ∃ ρ' h', loopR src t b m i ρ h = .nx ρ' h' ∧ I xs.length ρ' h'
  | 0, i, ρ, h, hm, hi, _ => by omega
  | m + 1, i, ρ, h, hm, hi, hI => by
    unfold loopR
    rw [hs i ρ h hI]
    cases q : xs[i]? with
    | none =>
      have : i = xs.length := by have := List.getElem?_eq_none_iff.mp q; omega
      subst this
      exact ⟨ρ, h, rfl, hI⟩
    | some x =>
      have hl := (List.getElem?_eq_some_iff.mp q).1
      obtain ⟨ρ1, ρ', h', e1, e2, e3⟩ := st i x ρ h q hI
      simp only [e1, e2]
      exact for_nx I hs st m (i + 1) ρ' h' (by omega) (by omega) e3
def forK (t : DG) (b : DS) (ρ : Sl) (src : Src) (h : Hv) : SR := loopR src t b (srcLen h src + 1) 0 ρ h
@[simp] theorem for_ap {it : DI} {t : DG} {b : DS} {ρ : Sl} {h : Hv} : dFor it t b ρ h = SR.of ρ (it ρ h) (forK t b ρ) := id rfl
theorem forK_nx {src : Src} {t : DG} {b : DS} {ρ : Sl} {h : Hv} {xs : List D} (I : Nat → Sl → Hv → Prop) (h0 : I 0 ρ h) (hl : srcLen h src = xs.length) (hs : ∀ i ρ h, I i ρ h → srcAt h src i = some xs[i]?)
    (st : ∀ i x ρ h, xs[i]? = some x → I i ρ h → ∃ ρ1 ρ' h', t x ρ = some ρ1 ∧ b ρ1 h = .nx ρ' h' ∧ I (i + 1) ρ' h') : ∃ ρ' h', forK t b ρ src h = .nx ρ' h' ∧ I xs.length ρ' h' := by
  unfold forK
  exact for_nx I hs st _ 0 ρ h (by omega) (by omega) h0
theorem src_lst {h : Hv} {n i : Nat} {xs : List D} (e : lstAt h n = some xs) : srcAt h (.lst n) i = some xs[i]? := by simp [srcAt, e]
theorem srcLen_lst {h : Hv} {n : Nat} {xs : List D} (e : lstAt h n = some xs) : srcLen h (.lst n) = xs.length := by simp [srcLen, e]
def upI (lo : Int) (n : Nat) : List D := (List.range n).map fun i : Nat => D.int (lo + i)
theorem upI_len {lo : Int} {n : Nat} : (upI lo n).length = n := by simp [upI]
theorem upI_at {lo : Int} {n i : Nat} : (upI lo n)[i]? = if i < n then some (.int (lo + i)) else none := by
  unfold upI
  by_cases q : i < n
  · simp [q]
  · simp [q]
theorem src_rng {h : Hv} {lo : Int} {n i : Nat} : srcAt h (.rng lo n) i = some (upI lo n)[i]? := by
  rw [upI_at]
  show (if i < n then _ else _) = _
  split <;> rfl
theorem src_tup {h : Hv} {xs : List D} {i : Nat} : srcAt h (.tup xs) i = some xs[i]? := rfl
def downI (n : Nat) : List D := (List.range n).map fun i : Nat => D.int ((n : Int) - 1 - i)
theorem downI_len {n : Nat} : (downI n).length = n := by simp [downI]
theorem downI_at {n i : Nat} : (downI n)[i]? = if i < n then some (.int ((n : Int) - 1 - i)) else none := by
  unfold downI
  by_cases q : i < n
  · simp [q]
  · simp [q]
theorem src_rev {h : Hv} {n i : Nat} : srcAt h (.rev 0 n) i = some (downI n)[i]? := by
  rw [downI_at]
  show (if i < n then _ else _) = _
  rw [show (0 : Int) + n - 1 - i = n - 1 - i from by omega]
  split <;> rfl
def diK (x : D) (h : Hv) : R Src := match x with
  | .ref n => match lstAt h n with
    | some _ => .ok (.lst n) h
    | none => .no
  | .tup xs => .ok (.tup xs) h
  | _ => .no
@[simp] theorem di_ap {e : DE} {ρ : Sl} {h : Hv} : diOf e ρ h = (e ρ h).bind diK := id rfl
@[simp] theorem diK_tup {xs : List D} {h : Hv} : diK (.tup xs) h = .ok (.tup xs) h := id rfl
theorem diK_ref {n : Nat} {xs : List D} {h : Hv} (e : lstAt h n = some xs) : diK (.ref n) h = .ok (.lst n) h := by simp [diK, e]
def rgK (x : D) (h : Hv) : R Src := match x with
  | .int j => if j ≤ 1000000 ∧ -1000000 ≤ j then .ok (.rng 0 j.toNat) h else .no
  | _ => .no
@[simp] theorem rng1_ap {e : DE} {ρ : Sl} {h : Hv} : diRng1 e ρ h = (e ρ h).bind rgK := id rfl
theorem rgK_nat {n : Nat} {h : Hv} (e : n ≤ 1000000) : rgK (.int n) h = .ok (.rng 0 n) h := by
  unfold rgK
  simp only []
  rw [if_pos ⟨by omega, by omega⟩]
  simp
def rg2K2 (x y : D) (h : Hv) : R Src := match x, y with
  | .int i, .int j => if i ≤ 1000000 ∧ -1000000 ≤ i ∧ j ≤ 1000000 ∧ -1000000 ≤ j then .ok (.rng i (j - i).toNat) h else .no
  | _, _ => .no
def rg2K (b : DE) (ρ : Sl) (x : D) (h : Hv) : R Src := (b ρ h).bind (rg2K2 x)
@[simp] theorem rg2K_ap {b : DE} {ρ : Sl} {x : D} {h : Hv} : rg2K b ρ x h = (b ρ h).bind (rg2K2 x) := id rfl
@[simp] theorem rng2_ap {a b : DE} {ρ : Sl} {h : Hv} : diRng2 a b ρ h = (a ρ h).bind (rg2K b ρ) := id rfl
theorem rg2K2_nat {m n : Nat} {h : Hv} (e1 : m ≤ 1000000) (e2 : n ≤ 1000000) : rg2K2 (.int m) (.int n) h = .ok (.rng m (n - m)) h := by
  unfold rg2K2
  simp only []
  rw [if_pos ⟨by omega, by omega, by omega, by omega⟩]
  congr 2
  omega
def rvK (x : D) (h : Hv) : R Src := match x with
  | .int j => if j ≤ 1000000 ∧ -1000000 ≤ j then .ok (.rev 0 j.toNat) h else .no
  | _ => .no
@[simp] theorem rev_ap {e : DE} {ρ : Sl} {h : Hv} : diRevRng e ρ h = (e ρ h).bind rvK := id rfl
theorem rvK_nat {n : Nat} {h : Hv} (e : n ≤ 1000000) : rvK (.int n) h = .ok (.rev 0 n) h := by
  unfold rvK
  simp only []
  rw [if_pos ⟨by omega, by omega⟩]
  simp
/-- comprehensions -/
theorem lc_run {src : Src} {t : DG} {c : DT} {e : DE} {ρw : Sl} {n : Nat} {xs : List D} (I : Nat → Hv → List D → Prop) (hs : ∀ i h acc, I i h acc → srcAt h src i = some xs[i]? ∧ h[n]? = some (.lst acc))
    (st : ∀ i x h acc, xs[i]? = some x → I i h acc → ∃ ρ1, t x ρw = some ρ1 ∧ ((∃ h2, c ρ1 h = .ok false h2 ∧ I (i + 1) h2 acc) ∨
      ∃ h2 y h3, c ρ1 h = .ok true h2 ∧ e ρ1 h2 = .ok y h3 ∧ h3[n]? = some (.lst acc) ∧ acc.length < cap ∧ I (i + 1) (h3.set n (.lst (acc ++ [y]))) (acc ++ [y]))) :
    ∀ (m i : Nat) (h : Hv) (acc : List D), xs.length < m + i → i ≤ xs.length → I i h acc → ∃ h' acc', lcR src t c e ρw n m i h = .ok (.ref n) h' ∧ I xs.length h' acc'
  | 0, i, h, acc, hm, hi, _ => by omega
  | m + 1, i, h, acc, hm, hi, hI => by
    unfold lcR
    rw [(hs i h acc hI).1]
    cases q : xs[i]? with
    | none =>
      have : i = xs.length := by have := List.getElem?_eq_none_iff.mp q; omega
      subst this
      exact ⟨h, acc, rfl, hI⟩
    | some x =>
      have hl := (List.getElem?_eq_some_iff.mp q).1
      obtain ⟨ρ1, e1, ⟨h2, e2, e3⟩ | ⟨h2, y, h3, e2, e3, e4, e5, e6⟩⟩ := st i x h acc q hI
      · simp only [e1, e2, R.cold_ok, R.bind_ok]
        rw [if_neg (by decide)]
        exact lc_run I hs st m (i + 1) h2 acc (by omega) (by omega) e3
      · simp only [e1, e2, e3, e4, R.cold_ok, R.bind_ok, if_true]
        rw [if_pos e5]
        exact lc_run I hs st m (i + 1) _ _ (by omega) (by omega) e6
def lcK (t : DG) (c : DT) (e : DE) (ρw : Sl) (src : Src) (h : Hv) : R D := lcR src t c e ρw h.length (srcLen h src + 1) 0 (h ++ [.lst []])
@[simp] theorem lc_ap {it : DI} {t : DG} {c : DT} {e : DE} {vs : List Nat} {ρ : Sl} {h : Hv} : dLc it t c e vs ρ h = (it ρ h).bind (lcK t c e (wipeD ρ vs)) := id rfl
/-- a source that stands as long as the old heap does -/
def Stands (h : Hv) (src : Src) (xs : List D) : Prop := srcLen h src = xs.length ∧ ∀ h' i, h <+: h' → srcAt h' src i = some xs[i]?
theorem stands_lst {h : Hv} {n : Nat} {xs : List D} (e : lstAt h n = some xs) : Stands h (.lst n) xs := ⟨srcLen_lst e, fun _ _ p => src_lst (lst_pre p e)⟩
theorem stands_rng {h : Hv} {lo : Int} {n : Nat} : Stands h (.rng lo n) (upI lo n) := ⟨by rw [upI_len]; rfl, fun _ _ _ => src_rng⟩
theorem stands_rev {h : Hv} {n : Nat} : Stands h (.rev 0 n) (downI n) := ⟨by rw [downI_len]; rfl, fun _ _ _ => src_rev⟩
theorem stands_tup {h : Hv} {xs : List D} : Stands h (.tup xs) xs := ⟨rfl, fun _ _ _ => rfl⟩
/-- a comprehension whose items hold no things of the heap; what they leave behind is new -/
theorem lc_val {t : DG} {c : DT} {e : DE} {ρw : Sl} {src : Src} {h : Hv} {xs : List D} (f : Nat → D → Option D) (hS : Stands h src xs) (hc : xs.length < cap)
    (st : ∀ i x h1, xs[i]? = some x → h <+: h1 → ∃ ρ1, t x ρw = some ρ1 ∧ ((f i x = none ∧ ∃ h2, c ρ1 h1 = .ok false h2 ∧ h1 <+: h2) ∨
      ∃ h2 y h3, f i x = some y ∧ c ρ1 h1 = .ok true h2 ∧ e ρ1 h2 = .ok y h3 ∧ h1 <+: h3)) :
    ∃ h', lcK t c e ρw src h = .ok (.ref h.length) h' ∧ h <+: h' ∧ lstAt h' h.length = some ((xs.zipIdx).filterMap fun p => f p.2 p.1) := by
  unfold lcK
  have key := lc_run (src := src) (t := t) (c := c) (e := e) (ρw := ρw) (n := h.length) (xs := xs)
    (fun i h1 acc => h <+: h1 ∧ h1[h.length]? = some (.lst acc) ∧ acc.length ≤ i ∧ i ≤ xs.length ∧ acc = ((xs.take i).zipIdx).filterMap fun p => f p.2 p.1)
    (fun i h1 acc ⟨a, b, _⟩ => ⟨hS.2 h1 i a, b⟩)
    (fun i x h1 acc q ⟨a, b, cl, il, d⟩ => by
      have hl := (List.getElem?_eq_some_iff.mp q).1
      have tk : xs.take (i + 1) = xs.take i ++ [x] := by
        rw [List.take_add_one, q]; rfl
      have zz : ((xs.take (i + 1)).zipIdx).filterMap (fun p => f p.2 p.1) = acc ++ (match f i x with | some y => [y] | none => []) := by
        rw [tk, List.zipIdx_append, List.filterMap_append, ← d]
        congr 1
        simp only [List.length_take, Nat.zero_add, List.zipIdx_cons, List.zipIdx_nil, List.filterMap_cons, List.filterMap_nil]
        rw [show min i xs.length = i from by omega]
        cases f i x <;> rfl
      obtain ⟨ρ1, e1, ⟨f0, h2, e2, p2⟩ | ⟨h2, y, h3, f1, e2, e3, p3⟩⟩ := st i x h1 q a
      · refine ⟨ρ1, e1, .inl ⟨h2, e2, a.trans p2, get_pre p2 b, by omega, hl, ?_⟩⟩
        rw [zz, f0, List.append_nil]
      · refine ⟨ρ1, e1, .inr ⟨h2, y, h3, e2, e3, get_pre p3 b, by omega, pre_set (a.trans p3) (Nat.le_refl _), ?_, ?_, hl, ?_⟩⟩
        · have := (List.getElem?_eq_some_iff.mp (get_pre p3 b)).1
          rw [List.getElem?_set_self this]
        · simp; omega
        · rw [zz, f1])
    (srcLen h src + 1) 0 (h ++ [.lst []]) [] (by rw [hS.1]; omega) (by omega) ⟨pre_app, by simp, by simp, by omega, by simp⟩
  obtain ⟨h', acc', e1, p1, p2, _, _, p3⟩ := key
  refine ⟨h', e1, p1, ?_⟩
  rw [lst_get, p2, p3, List.take_length]
end DL

set_option Elab.async false
set_option linter.all false
set_option autoImplicit false
set_option maxRecDepth 100000
/-! A suite that asks of what class an exception is, and returns. -/
namespace DL
open PySem PySem.Spec PyProof.Rows L2
def isEK (a : Addr) (b : Bool) (x : D) (h : Hv) : R D := match x with
  | .adr a' => if a' = a then .ok (.bl b) h else .no
  | _ => .no
theorem isE_ap {a : Addr} {b : Bool} {e : DE} {ρ : Sl} {h : Hv} : dIsE a b e ρ h = (e ρ h).bind (isEK a b) := rfl
theorem isEK_ap {a : Addr} {b : Bool} {h : Hv} : isEK a b (.adr a) h = .ok (.bl b) h := if_pos rfl
theorem refS_is {a : Addr} {i o : Nat} {b1 b2 b3 b4 b5 b6 : Bool} {ρ : Sl} {h : Hv} (ne : i ≠ o) (hi : i < ρ.length) (ho : o < ρ.length) :
    (dSeq (dSet o (dLst (aCons (dIsE a b1 (dVar i)) (aCons (dIsE a b2 (dVar i)) (aCons (dIsE a b3 (dVar i)) aNil)))))
    (dSeq (dSet o (dOp fAdd (dVar o) (dLst (aCons (dIsE a b4 (dVar i)) (aCons (dIsE a b5 (dVar i)) aNil)))))
    (dRet (dAndV (dIsE a b6 (dVar i)) (dAndV (dIsE a true (dVar i)) (dNotV (dCall bAny (aCons (dVar o) aNil)))))))) (ρ.set i (some (.adr a))) h =
      .rt (.bl (b6 && !([b1, b2, b3, b4, b5].any id))) (h ++ [.lst [.bl b1, .bl b2, .bl b3], .lst [.bl b4, .bl b5], .lst [.bl b1, .bl b2, .bl b3, .bl b4, .bl b5]]) := by
  have r1 : (ρ.set i (some (D.adr a)))[i]? = some (some (.adr a)) := by rw [List.getElem?_set_self hi]
  have r2 : ∀ x, ((ρ.set i (some (D.adr a))).set o x)[i]? = some (some (.adr a)) := fun x => by rw [List.getElem?_set_ne ne.symm]; exact r1
  have r3 : ∀ x, ((ρ.set i (some (D.adr a))).set o x)[o]? = some x := fun x => by rw [List.getElem?_set_self (by simpa using ho)]
  have r4 : ∀ x y, (((ρ.set i (some (D.adr a))).set o x).set o y)[i]? = some (some (.adr a)) := fun x y => by rw [List.getElem?_set_ne ne.symm]; exact r2 x
  have r5 : ∀ x y, (((ρ.set i (some (D.adr a))).set o x).set o y)[o]? = some y := fun x y => by rw [List.getElem?_set_self (by simpa using ho)]
  generalize hA : h ++ [O.lst [D.bl b1, .bl b2, .bl b3]] = A
  have lA : lstAt A h.length = some [D.bl b1, .bl b2, .bl b3] := by rw [← hA]; exact lst_new
  generalize hB : A ++ [O.lst [D.bl b4, .bl b5]] = B
  have pB : A <+: B := by rw [← hB]; exact pre_app
  have lB : lstAt B A.length = some [D.bl b4, .bl b5] := by rw [← hB]; exact lst_new
  have ad : fAdd (.ref h.length) (.ref A.length) B = .ok (.ref B.length) (B ++ [.lst [.bl b1, .bl b2, .bl b3, .bl b4, .bl b5]]) := by
    simp only [fAdd, lst_get.mp (lst_pre pB lA), lst_get.mp lB]
    rw [if_pos (show [D.bl b1, .bl b2, .bl b3].length + [D.bl b4, .bl b5].length ≤ cap from (by decide : 3 + 2 ≤ cap))]; rfl
  generalize hC : B ++ [O.lst [D.bl b1, .bl b2, .bl b3, .bl b4, .bl b5]] = C at ad
  have lC : lstAt C B.length = some [D.bl b1, .bl b2, .bl b3, .bl b4, .bl b5] := by rw [← hC]; exact lst_new
  have an : bAny [.ref B.length] C = .ok (.bl ([b1, b2, b3, b4, b5].any id)) C := by
    have : bAll.lstOf C (.ref B.length) = some [D.bl b1, .bl b2, .bl b3, .bl b4, .bl b5] := lC
    simp only [bAny, this, boolsOf]
    rfl
  have fin : h ++ [O.lst [D.bl b1, .bl b2, .bl b3], O.lst [D.bl b4, .bl b5], O.lst [D.bl b1, .bl b2, .bl b3, .bl b4, .bl b5]] = C := by
    rw [← hC, ← hB, ← hA, List.append_assoc, List.append_assoc]; rfl
  rw [fin]
  simp only [seq_ap, set_ap, lst_ap, cons_ap, isE_ap, var_ap, r1, getV_some, R.bind_ok, isEK_ap, coK1_ap, nil_ap, coK2_ap, lsK3, hA, SR.of_ok, seK_ap, SR.seq_nx, op_ap, r2, r3, opK_ap, lsK2, hB, ad, ret_ap, andv_ap, r4, r5, boolV_bl, andKV_ap, notv_ap, call_ap, an, notKV_ap]
  cases b6 with
  | true => simp
  | false => simp
end DL

set_option Elab.async false
set_option linter.all false
set_option autoImplicit false
set_option maxRecDepth 100000
/-! list(range(..)). -/
namespace DL
open PySem PySem.Spec PyProof.Rows L2
def dLRg (a : DE) : DE := fun ρ h => (a ρ h).bind fun x h1 => match x with
  | .int j => if j ≤ 1000000 ∧ 0 ≤ j then .ok (.ref h1.length) (h1 ++ [.lst (((List.range j.toNat).map fun k : Nat => (k : Int)).map D.int)]) else .no
  | _ => .no
section
variable {X : Cx} {g : Nat → Addr} {W : WX} {p p2 pos pos2 : Pos} {a : Expr} {da : DE}
theorem de_lrg (hc : X.calm = true) (hl : X.mg "list" = none) (hr : X.mg "range" = none) (ha : PE X a (tE X.K g W da)) (hgl : Gl X "list" := by rfl) (hgr : Gl X "range" := by rfl)
    (na : starEach [a] X.env = (false, eval a X.env) :: starEach [] X.env := by rfl)
    (nb : starEach [.Call (.Name "range" p2) [a] [] pos2] X.env = (false, eval (.Call (.Name "range" p2) [a] [] pos2) X.env) :: starEach [] X.env := by rfl) :
    PE X (.Call (.Name "list" p) [.Call (.Name "range" p2) [a] [] pos2] [] pos) (tE X.K g W (dLRg da)) := by
  refine pe_imp (pe_listRg hc hgl hl (prg_1 hgr hr ha na) nb) fun σ H Q ⟨φ, ρ, h, S, E, q⟩ => ?_
  refine ⟨φ, ρ, h, S, E, Post.bind q fun φ1 H1 x h1 v le1 S1 r1 p1 => ?_⟩
  split at p1
  · split at p1
    · rename_i j hj
      cases (show v = .int j from r1)
      refine ⟨j, rfl, RgOk.of_le (by omega) (by omega) (by omega) (by omega), fun q hq => ?_⟩
      have e : rgV 0 j = ((List.range j.toNat).map fun k : Nat => (k : Int)).map V.int := by
        unfold rgV
        rw [List.map_map, Int.sub_zero]
        exact List.map_congr_left fun i _ => by show V.int (0 + (i : Int)) = V.int (i : Int); rw [Int.zero_add]
      rw [e]
      exact p1.newLst S1 (ints_rep _) hq
    · exact p1.elim
  · exact p1.elim
end
end DL

set_option Elab.async false
set_option linter.all false
set_option autoImplicit false
set_option maxRecDepth 100000
/-! Methods of texts. -/
namespace DL
open PySem PySem.Spec PyProof.Rows L2
abbrev FT := Str → Str → Hv → R D
def dT1 (f : FT) (o e : DE) : DE := fun ρ h => (o ρ h).bind fun x h1 => match x with
  | .str a => (e ρ h1).bind fun y h2 => match y with
    | .str b => f a b h2
    | _ => .no
  | _ => .no
def tSplit : FT := fun a b h => if (b.length == 0) = false ∧ a.length ≤ cap then .ok (.ref h.length) (h ++ [.lst ((Txt.split a b).map D.str)]) else .no
def tPart : FT := fun a b h => if (b.length == 0) = false ∧ a.length ≤ cap then .ok (.tup [.str (Txt.partition a b).1, .str (Txt.partition a b).2.1, .str (Txt.partition a b).2.2]) h else .no
def tStrip : FT := fun a b h => if a.length ≤ cap then .ok (.str (Txt.stripChars a b)) h else .no
def tStarts : FT := fun a b h => .ok (.bl (Txt.startswith a b)) h
def TxD (X : Cx) (g : Nat → Addr) (id : String) (f : FT) : Prop := ∃ r : V → List V → Hp → VK → Prop, MtR X id r ∧
  ∀ (W : WX) (σ : L2.St) (φ : List Addr) (H : Hp) (h : Hv) (a b : Str) (Q : VK), Sim X.K g φ h H → Post X.K g (Rep X.K) W σ φ H (f a b h) Q → r (.str a) [.str b] H Q
section
variable {X : Cx} {g : Nat → Addr} {W : WX} {id : String} {name : Str} {apos pos : Pos} {o e : Expr} {d d2 : DE} {f : FT}
theorem strs_rep {K : PySem.W.Frag} {φ : List Addr} {H : Hp} : ∀ ys : List Str, RepL K φ H (ys.map D.str) (ys.map V.str)
  | [] => rfl
  | i :: r => ⟨_, _, rfl, rfl, strs_rep r⟩
theorem sz_le {n : Nat} (h : n ≤ cap) : n + 2 ≤ sizeLine := by
  rw [sizeLine_eq]; unfold cap at h; omega
theorem tx_split : TxD X g "str.split" tSplit := ⟨_, mt_split, fun W σ φ H h a b Q S p => by
  unfold tSplit at p
  split at p
  · rename_i c
    exact ⟨a, b, rfl, rfl, c.1, sz_le c.2, fun q hq => p.newLst S (strs_rep _) hq⟩
  · exact p.elim⟩
theorem tx_part : TxD X g "str.partition" tPart := ⟨_, mt_partition, fun W σ φ H h a b Q S p => by
  unfold tPart at p
  split at p
  · rename_i c
    exact ⟨a, b, rfl, rfl, c.1, by have := sz_le c.2; omega, fun q hq => p.newTup S (strs_rep [_, _, _]) hq⟩
  · exact p.elim⟩
theorem tx_strip : TxD X g "str.strip" tStrip := ⟨_, mt_stripChars, fun W σ φ H h a b Q S p => by
  unfold tStrip at p
  split at p
  · rename_i c
    exact ⟨a, b, rfl, rfl, by have := sz_le c; omega, p.here S rfl⟩
  · exact p.elim⟩
theorem tx_starts : TxD X g "str.startswith" tStarts := ⟨_, mt_startswith, fun W σ φ H h a b Q S p => ⟨a, b, rfl, rfl, p.here S rfl⟩⟩
theorem de_t1 (slot : Slot "str" name id) (ty : typeOf (.builtin id) = pure (.type "method_descriptor")) (hm : TxD X g id f) (ho : PE X o (tE X.K g W d)) (he : PE X e (tE X.K g W d2))
    (hs : starEach [e] X.env = [(false, eval e X.env)] := by rfl) (hbase : attributeBase o name X.env (eval o X.env) = eval o X.env := by rfl) (hline : (apos.endLine == pos.line) = true := by rfl) :
    PE X (.Call (.Attribute o name apos) [e] [] pos) (tE X.K g W (dT1 f d d2)) := by
  obtain ⟨r, h1, h2⟩ := hm
  refine pe_imp (pe_m1 slot ty h1 ho he hs hbase hline) fun σ H Q ⟨φ, ρ, h, S, E, q⟩ => ?_
  refine ⟨φ, ρ, h, S, E, Post.bind q fun φ1 H1 x h1' v le1 S1 r1 p1 => ?_⟩
  split at p1
  · rename_i a
    cases (show v = .str a from r1)
    refine ⟨⟨a, rfl⟩, φ1, ρ, h1', S1, E.mono le1, Post.bind p1 fun φ2 H2 y h2' u le2 S2 r2 p2 => ?_⟩
    split at p2
    · rename_i b
      cases (show u = .str b from r2)
      exact h2 W σ φ2 H2 h2' a b Q S2 p2
    · exact p2.elim
  · exact p1.elim
end
def strsOf : List D → Option (List Str)
  | [] => some []
  | .str i :: r => (strsOf r).map (i :: ·)
  | _ => none
theorem strsOf_rep {K : PySem.W.Frag} {φ : List Addr} {H : Hp} : ∀ {xs : List D} {ns : List Str} {vs : List V}, strsOf xs = some ns → RepL K φ H xs vs → vs = ns.map V.str
  | [], ns, vs, e, r => by cases (show _ = _ from e); exact r
  | .str i :: r, ns, vs, e, ⟨v, q, e1, h1, h2⟩ => by
    unfold strsOf at e
    cases z : strsOf r with
    | none => rw [z] at e; cases e
    | some ks' =>
      rw [z] at e
      cases (show _ = _ from e)
      rw [e1, strsOf_rep z h2]
      cases (show v = .str i from h1)
      rfl
def dJoin (o e : DE) : DE := fun ρ h => (o ρ h).bind fun x h1 => match x with
  | .str a => (e ρ h1).bind fun y h2 => match y with
    | .ref n => match lstAt h2 n with
      | some xs => match strsOf xs with
        | some ys => if (ys.map (·.length)).sum + ys.length * a.length ≤ cap then .ok (.str (Txt.join a ys)) h2 else .no
        | none => .no
      | none => .no
    | _ => .no
  | _ => .no
def bIntS : FD := fun xs h => match xs with
  | [.str a] => match PySem.intText? a with
    | some n => if a.length ≤ 640 then .ok (.int n) h else .no
    | none => .no
  | _ => .no
section
variable {X : Cx} {g : Nat → Addr} {W : WX} {apos pos : Pos} {o e : Expr} {d d2 : DE} {s : Stmt}
theorem de_join (ho : PE X o (tE X.K g W d)) (he : PE X e (tE X.K g W d2))
    (hs : starEach [e] X.env = [(false, eval e X.env)] := by rfl) (hbase : attributeBase o "join" X.env (eval o X.env) = eval o X.env := by rfl) (hline : (apos.endLine == pos.line) = true := by rfl) :
    PE X (.Call (.Attribute o "join" apos) [e] [] pos) (tE X.K g W (dJoin d d2)) := by
  refine pe_imp (pe_m1 F.slot_str_join F.type_str_join mt_join ho he hs hbase hline) fun σ H Q ⟨φ, ρ, h, S, E, q⟩ => ?_
  refine ⟨φ, ρ, h, S, E, Post.bind q fun φ1 H1 x h1' v le1 S1 r1 p1 => ?_⟩
  split at p1
  · rename_i a
    cases (show v = .str a from r1)
    refine ⟨⟨a, rfl⟩, φ1, ρ, h1', S1, E.mono le1, Post.bind p1 fun φ2 H2 y h2' u le2 S2 r2 p2 => ?_⟩
    split at p2
    · split at p2
      · rename_i xs hx
        split at p2
        · rename_i ys hy
          split at p2
          · rename_i hc
            obtain ⟨b, vs, q1, q2, q3⟩ := lstAt_rep S2 hx r2
            rw [strsOf_rep hy q3] at q2
            exact ⟨a, b, ys, rfl, by rw [q1], .inl q2, Nat.le_trans hc (by decide), p2.here S2 rfl⟩
          · exact p2.elim
        · exact p2.elim
      · exact p2.elim
    · exact p2.elim
  · exact p1.elim
theorem c_intS : CallD X g (.type "int") bIntS := by
  refine ⟨_, call_int_str, fun W σ φ H h xs vs Q S r p => ?_⟩
  unfold bIntS at p
  split at p
  · rename_i a
    obtain ⟨v, e1, h1⟩ := one_rep r
    split at p
    · rename_i n hn
      split at p
      · rename_i hc
        exact ⟨a, n, by rw [e1, show v = .str a from h1], hn, hc, p.here S rfl⟩
      · exact p.elim
    · exact p.elim
  · exact p.elim
end
/-! ### try .. except .. else, where nothing is raised -/
def Wn : WX := fun _ _ _ _ => False
def dTryN (db du : DS) : DS := fun ρ h => match db ρ h with
  | .nx ρ' h' => du ρ' h'
  | .ex _ _ _ => .no
  | r => r
section
variable {X : Cx} {g : Nat → Addr} {W : WX} {pos : Pos} {body orelse : List Stmt} {h₀ : ExceptHandler} {hs : List ExceptHandler} {db du : DS}
theorem takes_none : L2N.Takes X.nox Wn := fun u s' ⟨a, B, sI, pins, σ, H, cls, d, e, I, nb, up, sky, na, os, ag, w⟩ => w.elim
theorem ds_thru (hb : L2N.Takes X.nox Wn → PSs X.nox body (tS X.K g Wn db)) (ho : PSs X orelse (tS X.K g W du)) : PS X (.Try body (h₀ :: hs) orelse [] pos) (tS X.K g W (dTryN db du)) := by
  refine ps_imp (ps_try_thru (hb takes_none) ho) fun B σ H ⟨φ, ρ, h, S, E, q⟩ => ?_
  refine ⟨φ, ρ, h, S, E, ?_⟩
  unfold dTryN at q
  cases z : db ρ h with
  | nx ρ' h' =>
    rw [z] at q
    exact fun φ2 H2 σ2 l S E => ⟨φ2, ρ', h', S, E, PostS.mono l q⟩
  | rt x h' => rw [z] at q; exact q
  | bk ρ' h' => rw [z] at q; exact q
  | ct ρ' h' => rw [z] at q; exact q
  | no => rw [z] at q; exact q
  | ex e ρ' h' => rw [z] at q; exact q.elim
end
end DL

set_option Elab.async false
set_option linter.all false
set_option autoImplicit false
set_option maxRecDepth 100000
/-! dicts walked (by keys, by pairs), list(d.values()), sorted(d) of pairs, tuples compared, d.get(k, x). -/
namespace DL
open PySem PySem.Spec PyProof.Rows L2
section
variable {X : Cx} {pins : List (Addr × Obj)} {σ : L2.St} {H : Hp} {s : Shared} {d : Addr} {o : Obj}
theorem frzT2 {kvs : List (List Key × V)} (I : Inv X pins σ H s) (h : H d = some (.frz o (.dT kvs))) :
    (d == sysModules) = false ∧ s.heap.get? d = some o ∧ o.ExactDict ∧ kvs.length ≤ sizeLine ∧ ∃ (es : Array DictEntry) (ep : Nat), o.data = .dict es ep ∧ es.size = kvs.length ∧
      ∀ (i : Nat) (k : List Key) (v : V), kvs[i]? = some (k, v) → ∃ (en : DictEntry) (q : Addr), es[i]? = some en ∧ en.key = .ref q ∧ H q = some (.tup (k.map kV)) ∧ RelV v en.val := by
  obtain ⟨hd, z, hs, xs, pr, o', es, ep, ho, hx, hdt, he, _⟩ := I.hok d _ h
  rw [hd] at ho
  cases ho
  have l2 : kvs.length = xs.length := Paired.length pr
  refine ⟨hs, hd, hx, z, es, ep, hdt, ?_, fun i k v e => ?_⟩
  · have l1 : es.size = xs.length := size_of_entries he
    omega
  · obtain ⟨b, hb, e1, e2, e3⟩ := paired_get pr e
    have q := entry_at he i
    rw [hb] at q
    exact ⟨_, b.2.1, q, rfl, e2, e3⟩
end
theorem turn_itemsT {P : Program} {w : World} {K : PySem.W.Frag} {d : Addr} {o : Obj} {es : Array DictEntry} {ep : Nat} {kvs : List (List Key × V)} {elts : List Expr} {kk : Nat} {tpos : Pos} (it : Addr) (hod : o.data = .dict es ep) :
    Turn P w K (.Tuple elts kk tpos) (ItiT d o kvs) [it] it (fun i h => ∃ ok ov, IsItemIter h it d i es.size ep ok ov) where
  mem := by simp
  obj := fun i h st b hb => by
    have e : b = it := by simpa using hb
    subst e
    obtain ⟨ok, ov, e⟩ := st
    exact ⟨_, e, fun v z => nomatch z⟩
  keep := fun i h h' st k => let ⟨ok, ov, e⟩ := st; ⟨ok, ov, k it (by simp) _ e⟩
  item := by
    intro X hP hw hK hc i pins s σ H E I hf st hg
    subst hP hw hK
    obtain ⟨hd, hi⟩ := hg
    obtain ⟨hs, hgd, hx, _, es', ep', hdt, hsz, ent⟩ := frzT2 I hd
    obtain ⟨rfl, rfl⟩ := dict_ep hod hdt
    obtain ⟨⟨k, v⟩, hkv⟩ : ∃ p, kvs[i]? = some p := ⟨kvs[i], List.getElem?_eq_getElem hi⟩
    obtain ⟨en, q, hen, hkey, hq, hval⟩ := ent i k v hkv
    obtain ⟨ok, ov, he⟩ := st
    have hlt : it < s.heap.objs.size := Heap.lt_size he
    have hi' : i < es'.size := by omega
    have ei : es'[i] = en := by
      rw [Array.getElem?_eq_getElem hi'] at hen
      exact Option.some.inj hen
    refine DT.nextI he ⟨o, hgd, hx, hdt⟩ hi' fun h' ho hT hz hk => ?_
    rw [ei] at ho hT
    refine ⟨_, rfl, wpAny_letOwnedTupleGo_items (s := { s with heap := h' }) ho fun h'' he' sb => ?_⟩
    have hT2 : h''.get? s.heap.objs.size = some { cls := .type "tuple", data := .seq #[en.key, en.val] } := (sb.2 _ (Nat.ne_of_gt hlt)).trans hT
    have new : ObjOk X.prog X.w (upd H s.heap.objs.size (.tup [.ref q, v])) h'' s.heap.objs.size (.tup [.ref q, v]) :=
      ⟨by show 2 ≤ sizeLine; decide, [en.key, en.val], .cons (by rw [hkey]; rfl) (.cons hval .nil), ⟨_, hT2, rfl, _, rfl⟩⟩
    have I1 : Inv X pins σ (upd H s.heap.objs.size (.tup [.ref q, v])) { s with heap := h'' } :=
      I.turnedNew (t' := s.toks) (ch := [it]) (fun b ob hb e => (sb.2 b (by simpa using hb)).trans (hk b ob (by simpa using hb) e)) hf (Nat.le_refl _) new
    refine ⟨.ref s.heap.objs.size, _, I1, rfl, ⟨_, q, k, v, hkv, hq, rfl, I.hok.fresh (Nat.le_refl _), rfl⟩, ⟨en.key, en.val, he'⟩, fun b hb => ?_⟩
    have e : b = it := by simpa using hb
    rw [e, upd_ne (Nat.ne_of_lt hlt)]
    exact (hf it (by simp)).1
  done := by
    intro X hP hw hK hc i pins s σ H E I hf st hg
    subst hP hw hK
    obtain ⟨hd, hi⟩ := hg
    obtain ⟨f0, f1, f2, f3, f4, f5⟩ := hf it (by simp)
    obtain ⟨hs, hgd, hx, _, es', ep', hdt, hsz, ent⟩ := frzT2 I hd
    obtain ⟨rfl, rfl⟩ := dict_ep hod hdt
    obtain ⟨ok, ov, he⟩ := st
    exact DT.endI (I.ok.hd hc) he ⟨o, hgd, hx, hdt⟩ (by omega) fun h' eb => ⟨rfl, I.turned (t' := s.toks) (fun b ob hb e => eb b ob hb e) f0 f1 f3 f4 f5⟩
  self := fun A i s Q E st h => let ⟨_, _, e⟩ := st; PySem.W.kcp_self e h

/-! ### for k in d, for k, v in d.items(): d is locked from then on -/
def keyD : Key → D
  | .inl i => .int i
  | .inr x => .str x
def diDK (e : DE) : DI := fun ρ h => (e ρ h).bind fun x h1 => match x with
  | .ref n => match h1[n]? with
    | some (.dK kvs) => .ok (.tup (kvs.map fun p => keyD p.1)) (h1.set n (.lkK kvs))
    | some (.lkK kvs) => .ok (.tup (kvs.map fun p => keyD p.1)) h1
    | some (.dT kvs) => .ok (.tup (kvs.map fun p => .key p.1)) (h1.set n (.lkT kvs))
    | some (.lkT kvs) => .ok (.tup (kvs.map fun p => .key p.1)) h1
    | _ => .no
  | _ => .no
def diIt (e : DE) : DI := fun ρ h => (e ρ h).bind fun x h1 => match x with
  | .ref n => match h1[n]? with
    | some (.dT kvs) => .ok (.tup (kvs.map fun p => .tup [.key p.1, p.2])) (h1.set n (.lkT kvs))
    | _ => .no
  | _ => .no
theorem keyD_rep {K : PySem.W.Frag} {φ : List Addr} {H : Hp} : ∀ k : Key, Rep K φ H (keyD k) (kV k)
  | .inl i => rfl
  | .inr x => rfl
theorem keysD_rep {K : PySem.W.Frag} {φ : List Addr} {H : Hp} : ∀ {xs : List (Key × D)} {vs : List (Key × V)}, RepKV K φ H xs vs → RepL K φ H (xs.map fun p => keyD p.1) (vs.map fun p => kV p.1)
  | [], _, r => by cases (show _ = _ from r); rfl
  | p :: xs, _, ⟨v, r, e, h1, h2⟩ => by
    subst e
    exact ⟨_, _, rfl, keyD_rep p.1, keysD_rep h2⟩
theorem keysT_rep {κ : Type} {K : PySem.W.Frag} {φ : List Addr} {H : Hp} : ∀ {xs : List (κ × D)} {vs : List (κ × V)}, RepKV K φ H xs vs → xs.map (·.1) = vs.map (·.1)
  | [], _, r => by cases (show _ = _ from r); rfl
  | p :: xs, _, ⟨v, r, e, h1, h2⟩ => by
    subst e
    rw [List.map_cons, List.map_cons, keysT_rep h2]
section
variable {X : Cx} {g : Nat → Addr} {W : WX} {e tg : Expr} {da : DE} {apos cpos : Pos}
theorem di_dk (he : PE X e (tE X.K g W da)) : PI X tg e (tI X.K g W (diDK da)) := by
  refine ⟨fun pins s σ H R I ⟨φ, ρ, h, S, E, q⟩ => ?_⟩
  refine thn (he.run pins s σ H (fun v H1 => ∃ d, v = .ref d ∧ ((∃ vs, H1 d = some (.dK vs) ∧ ∀ o, R (Itk d o vs) (upd H1 d (.frz o (.dK vs)))) ∨ (∃ o vs, H1 d = some (.frz o (.dK vs)) ∧ R (Itk d o vs) H1) ∨
    (∃ vs, H1 d = some (.dT vs) ∧ ∀ o, R (Itkt d o vs) (upd H1 d (.frz o (.dT vs)))) ∨ (∃ o vs, H1 d = some (.frz o (.dT vs)) ∧ R (Itkt d o vs) H1))) I ⟨φ, ρ, h, S, E, Post.bind q fun φ1 H1 x h1 v le1 S1 r1 p1 => ?_⟩) fun v s1 ⟨x, H1, I1, r1, d, ex, q1⟩ => ?_
  · split at p1
    · obtain ⟨a, e1, ea⟩ := r1
      split at p1
      · rename_i hx
        obtain ⟨z, h2, h3⟩ := S1.obj _ a _ ea hx
        cases h3 with
        | @dK _ us r3 =>
          refine ⟨a, e1, .inl ⟨us, h2, fun o => ?_⟩⟩
          have nt : ∀ ws, HO.dK us ≠ .tup ws := fun _ z => nomatch z
          have nz : ∀ ob ws, HO.dK us ≠ .frz ob ws := fun _ _ z => nomatch z
          exact p1 φ1 _ _ (Le.mut h2 nt nz) (S1.mut ea h2 nt nz (.lkK r3)) (.kK upd_same (RepL.mono (Le.mut h2 nt nz) _ _ (keysD_rep r3)))
      · rename_i hx
        obtain ⟨z, h2, h3⟩ := S1.obj _ a _ ea hx
        cases h3 with
        | @lkK _ us o r3 => exact ⟨a, e1, .inr (.inl ⟨o, us, h2, p1.here S1 (.kK h2 (keysD_rep r3))⟩)⟩
      · rename_i hx
        obtain ⟨z, h2, h3⟩ := S1.obj _ a _ ea hx
        cases h3 with
        | @dT xs us r3 =>
          refine ⟨a, e1, .inr (.inr (.inl ⟨us, h2, fun o => ?_⟩))⟩
          have nt : ∀ ws, HO.dT us ≠ .tup ws := fun _ z => nomatch z
          have nz : ∀ ob ws, HO.dT us ≠ .frz ob ws := fun _ _ z => nomatch z
          refine p1 φ1 _ _ (Le.mut h2 nt nz) (S1.mut ea h2 nt nz (.lkT r3)) (.kT upd_same ?_)
          have e := congrArg (List.map D.key) (keysT_rep r3)
          rw [List.map_map, List.map_map] at e
          exact e
      · rename_i hx
        obtain ⟨z, h2, h3⟩ := S1.obj _ a _ ea hx
        cases h3 with
        | @lkT xs us o r3 =>
          have e := congrArg (List.map D.key) (keysT_rep r3)
          rw [List.map_map, List.map_map] at e
          exact ⟨a, e1, .inr (.inr (.inr ⟨o, us, h2, p1.here S1 (.kT h2 e)⟩))⟩
      · exact p1.elim
    · exact p1.elim
  · subst ex
    obtain rfl : v = Value.ref d := r1
    rcases q1 with ⟨vs, hd, q⟩ | ⟨o, vs, hd, q⟩ | ⟨vs, hd, q⟩ | ⟨o, vs, hd, q⟩
    · obtain ⟨od, I2⟩ := I1.lock hd True.intro
      obtain ⟨hs, hgd, hx, es, ep, vs', hdt, hsz, kv, hm⟩ := I2.frzK upd_same
      refine iter_keys hs hgd hx hdt (pi_one (tk := s1.toks) I2 _ (turn_keys _ hdt) ⟨_, Heap.get?_push_size _ rfl, rfl, ?_⟩ (q od))
      rw [hsz] <;> rfl
    · obtain ⟨hs, hgd, hx, es, ep, vs', hdt, hsz, kv, hm⟩ := I1.frzK hd
      refine iter_keys hs hgd hx hdt (pi_one (tk := s1.toks) I1 _ (turn_keys _ hdt) ⟨_, Heap.get?_push_size _ rfl, rfl, ?_⟩ q)
      rw [hsz] <;> rfl
    · obtain ⟨od, I2⟩ := I1.lock hd True.intro
      obtain ⟨hs, hgd, hx, es, ep, hdt, hsz, ent⟩ := I2.frzT upd_same
      refine iter_keys hs hgd hx hdt (pi_one (tk := s1.toks) I2 _ (turn_keysT _ hdt) ⟨_, Heap.get?_push_size _ rfl, rfl, ?_⟩ (q od))
      rw [hsz] <;> rfl
    · obtain ⟨hs, hgd, hx, es, ep, hdt, hsz, ent⟩ := I1.frzT hd
      refine iter_keys hs hgd hx hdt (pi_one (tk := s1.toks) I1 _ (turn_keysT _ hdt) ⟨_, Heap.get?_push_size _ rfl, rfl, ?_⟩ q)
      rw [hsz] <;> rfl
theorem di_it {elts : List Expr} {kk : Nat} {tpos : Pos} (he : PE X e (tE X.K g W da)) (hbase : attributeBase e "items" X.env (eval e X.env) = eval e X.env := by rfl) (hline : (apos.endLine == cpos.line) = true := by rfl) :
    PI X (.Tuple elts kk tpos) (.Call (.Attribute e "items" apos) [] [] cpos) (tI X.K g W (diIt da)) := by
  refine ⟨fun pins s σ H R I ⟨φ, ρ, h, S, E, q⟩ => ?_⟩
  refine wpAny_Call_method (T := "dict") (id := "dict.items") hbase rfl hline F.plainAttrs_dict F.slot_dict_items F.type_dict_items
    (thn (he.run pins s σ H (fun v H1 => ∃ d vs, v = .ref d ∧ H1 d = some (.dT vs) ∧ ∀ o, R (ItiT d o vs) (upd H1 d (.frz o (.dT vs)))) I ⟨φ, ρ, h, S, E, Post.bind q fun φ1 H1 x h1 v le1 S1 r1 p1 => ?_⟩) fun v s1 ⟨x, H1, I1, r1, d, vs, ex, hd, q1⟩ => ?_)
  · split at p1
    · obtain ⟨a, e1, ea⟩ := r1
      split at p1
      · rename_i hx
        obtain ⟨z, h2, h3⟩ := S1.obj _ a _ ea hx
        cases h3 with
        | @dT xs us r3 =>
          refine ⟨a, us, e1, h2, fun o => ?_⟩
          have nt : ∀ ws, HO.dT us ≠ .tup ws := fun _ z => nomatch z
          have nz : ∀ ob ws, HO.dT us ≠ .frz ob ws := fun _ _ z => nomatch z
          exact p1 φ1 _ _ (Le.mut h2 nt nz) (S1.mut ea h2 nt nz (.lkT r3)) (.iT upd_same (RepKV.mono (Le.mut h2 nt nz) _ _ r3) rfl)
      · exact p1.elim
    · exact p1.elim
  · subst ex
    obtain rfl : v = Value.ref d := r1
    obtain ⟨od, J⟩ := I1.lock hd True.intro
    obtain ⟨hs, hgd, hx, _, es, ep, hdt, hsz, ent⟩ := frzT2 J upd_same
    have raw : DT.Raw s1.heap d es ep := ⟨_, hgd, hx, hdt⟩
    refine ⟨raw.typeIs, fun b qb => ?_, ?_⟩
    · cases qb
      exact ⟨_, hgd, hx.2.1⟩
    have I2 : Inv X pins σ _ { s1 with heap := s1.heap.push { cls := .type "dict_items", data := .fields #[.ref d] } } := J.kept (t' := s1.toks) fun b o q => Heap.get?_push_of_some _ q
    have fin : wpAny (model X.prog X.w) X.A (pyIter (.ref s1.heap.objs.size)) (PIE X pins σ (.Tuple elts kk tpos) R) X.xe { s1 with heap := s1.heap.push { cls := .type "dict_items", data := .fields #[.ref d] } } :=
      DT.iterI (s := { s1 with heap := s1.heap.push { cls := .type "dict_items", data := .fields #[.ref d] } }) ⟨_, Heap.get?_push_size _ rfl, rfl, rfl⟩ (raw.push _) (pi_one (tk := s1.toks) I2 _ (turn_itemsT _ hdt) ⟨.none, .none, Heap.get?_push_size _ rfl⟩ (q1 od))
    show wpAny _ _ (callWith cpos (.builtin "dict.items") [.ref d] [] []) _ X.xe s1
    exact method_meetsIn F.slot_dict_items F.entry_dict_items rfl (PySem.evalArgs_none ⟨rfl, raw.typeIs, F.args_dict_items_1 _, _, DT.meetsItems (es := es) (ep := ep) hs, raw, fin⟩)
end

/-! ### list(d.values()) -/
def valsO (p d : Addr) : HO := .ext fun h => h.IsValuesView p d
theorem valsO_ok {P : Program} {w : World} {H : Hp} {h : Heap} {p d : Addr} (e : h.get? p = some { cls := .type "dict_values", data := .fields #[.ref d] }) : ObjOk P w H h p (valsO p d) :=
  ⟨⟨_, e, rfl, rfl⟩, ⟨_, e⟩, fun h1 h2 x k => let ⟨o, ho, r⟩ := x; ⟨o, k o ho, r⟩⟩
def tVals (te : TE) : TE := fun σ H Q => te σ H fun x H1 => ∃ a kvs, x = .ref a ∧ H1 a = some (.dK kvs) ∧ ∀ p, H1 p = none → Q (.ref p) (upd H1 p (valsO p a))
def dLVals (e : DE) : DE := fun ρ h => (e ρ h).bind fun x h1 => match x with
  | .ref n => match h1[n]? with
    | some (.dK kvs) => .ok (.ref h1.length) (h1 ++ [.lst (kvs.map (·.2))])
    | _ => .no
  | _ => .no
theorem vals_rep {κ : Type} {K : PySem.W.Frag} {φ : List Addr} {H : Hp} : ∀ {xs : List (κ × D)} {vs : List (κ × V)}, RepKV K φ H xs vs → RepL K φ H (xs.map (·.2)) (vs.map (·.2))
  | [], _, r => by cases (show _ = _ from r); rfl
  | p :: xs, _, ⟨v, r, e, h1, h2⟩ => by
    subst e
    exact ⟨_, _, rfl, h1, vals_rep h2⟩
section
variable {X : Cx} {g : Nat → Addr} {W : WX} {e : Expr} {te : TE} {da : DE} {apos cpos p pos : Pos}
theorem pe_vals (he : PE X e te) (hbase : attributeBase e "values" X.env (eval e X.env) = eval e X.env := by rfl) (hline : (apos.endLine == cpos.line) = true := by rfl) : PE X (.Call (.Attribute e "values" apos) [] [] cpos) (tVals te) := by
  refine ⟨fun pins s σ H Q I h => ?_⟩
  refine wpAny_Call_method (T := "dict") (id := "dict.values") hbase rfl hline F.plainAttrs_dict F.slot_dict_values F.type_dict_values (thn (he.run pins s σ H _ I h) fun u s1 ⟨x, H1, I1, rx, d, kvs, ex, hd, q⟩ => ?_)
  subst ex
  obtain rfl : u = Value.ref d := rx
  obtain ⟨z, hs, vs, rel, dd⟩ := dk_of I1.hok hd
  refine ⟨dd.typeIs, fun b qb => ?_, ?_⟩
  · cases qb
    obtain ⟨ob, _, _, h1, h2, _⟩ := dd
    exact ⟨ob, h1, h2.2.1⟩
  have fin : EP X pins σ Q (.ref s1.heap.objs.size) { s1 with heap := s1.heap.push { cls := .type "dict_values", data := .fields #[.ref d] } } :=
    ⟨.ref s1.heap.objs.size, upd H1 s1.heap.objs.size (valsO s1.heap.objs.size d), I1.laid (t' := s1.toks) (fun b u e => Heap.get?_push_of_some _ e) (Nat.le_refl _) (valsO_ok (Heap.get?_push_size _ rfl)), rfl, q _ (I1.hok.fresh (Nat.le_refl _))⟩
  show wpAny _ _ (callWith cpos (.builtin "dict.values") [.ref d] [] []) _ X.xe s1
  exact method_meetsIn F.slot_dict_values F.entry_dict_values rfl (PySem.evalArgs_none ⟨rfl, dd.typeIs, F.args_dict_values_1 _, _, meets_dict_values (mixKind X.prog X.w) d hs, ⟨vs, dd⟩, fin⟩)
def rListVals : List V → Hp → VK → Prop := fun xs H Q => ∃ p a kvs, xs = [.ref p] ∧ H p = some (valsO p a) ∧ H a = some (.dK kvs) ∧ ∀ q, H q = none → Q (.ref q) (upd H q (.lst (kvs.map (·.2))))
theorem kv_vals : ∀ {kvs : List (Key × V)} {vs : List (Key × Value)}, KV kvs vs → Vals (kvs.map (·.2)) (vs.map (·.2))
  | _, _, .nil => .nil
  | _, _, .cons h t => .cons h.2 (kv_vals t)
theorem cr_listVals (hc : X.calm = true) : CallR X (.type "list") rListVals := by
  intro pins s σ H xs us Q I r h
  obtain ⟨p, a, kvs, e, hp, ha, q⟩ := h
  subst e
  obtain ⟨u, eu, rx⟩ := vals1 r
  subst eu
  obtain rfl : u = Value.ref p := rx
  obtain ⟨hv, _⟩ := (show ObjOk X.prog X.w H s.heap p (valsO p a) from I.hok p _ hp)
  obtain ⟨z, lo, vs, rk, hd⟩ := dk_of I.hok ha
  obtain ⟨ep, hat⟩ := hd.dictAt
  have hl : kvs.length = vs.length := Paired.length rk
  refine PySem.W.kdl_call (PySem.W.kdl_values (knd := mixKind X.prog X.w) (kvs := vs) (ep := ep) (r := p) (d := a)) (I.ok.hd hc) ⟨hv, hat⟩ (by rw [← hl]; exact z) fun h' tk acc' c' hkeep hS hacc => ?_
  have ev : acc'.toList = vs.map (·.2) := PySem.W.kdl_vals_eq acc'.toList (by rw [Array.length_toList]; exact hacc.1) fun j v e => hacc.2 j v (by rw [← Array.getElem?_toList]; exact e)
  refine ⟨.ref s.heap.objs.size, upd H s.heap.objs.size (.lst (kvs.map (·.2))), I.laid hkeep (Nat.le_refl _) (show ObjOk X.prog X.w _ _ _ (.lst (kvs.map (·.2))) from ⟨?_, acc'.toList, c', ?_, ?_⟩), rfl, q _ (I.hok.fresh (Nat.le_refl _))⟩
  · rw [List.length_map]; exact z
  · rw [ev]; exact kv_vals rk
  · rw [Array.toArray_toList]; exact hS
theorem de_lvals (hc : X.calm = true) (hl : X.mg "list" = none) (he : PE X e (tE X.K g W da)) (hg : Gl X "list" := by rfl) (hbase : attributeBase e "values" X.env (eval e X.env) = eval e X.env := by rfl) (hline : (apos.endLine == cpos.line) = true := by rfl)
    (hs : starEach [.Call (.Attribute e "values" apos) [] [] cpos] X.env = (false, eval (.Call (.Attribute e "values" apos) [] [] cpos) X.env) :: starEach [] X.env := by rfl) (hpl : (backTo pos (starEach [] X.env)).any (·.1) = false := by rfl) :
    PE X (.Call (.Name "list" p) [.Call (.Attribute e "values" apos) [] [] cpos] [] pos) (tE X.K g W (dLVals da)) := by
  refine pe_imp (pe_callTy (cr_listVals hc) hg hl PyProof.Rows.boot_list (pa_cons (pe_vals he hbase hline) pa_nil hs) (by decide) (by decide) hs hpl) fun σ H Q ⟨φ, ρ, h, S, E, q⟩ => ?_
  refine ⟨φ, ρ, h, S, E, Post.bind q fun φ1 H1 x h1 v le1 S1 r1 p1 => ?_⟩
  split at p1
  · obtain ⟨a, e1, ea⟩ := r1
    split at p1
    · rename_i hx
      obtain ⟨z, h2, h3⟩ := S1.obj _ a _ ea hx
      cases h3 with
      | @dK _ us r3 =>
        subst e1
        refine ⟨a, us, rfl, h2, fun p hp => ⟨p, a, us, rfl, upd_same, by rw [upd_ne (ne_of_none h2 hp)]; exact h2, fun q hq => ?_⟩⟩
        have p2 := Post.mono (Le.newT (o := valsO p a) hp) p1
        exact p2.newLst (S1.newT hp) (RepL.mono (Le.newT hp) _ _ (vals_rep r3)) hq
    · exact p1.elim
  · exact p1.elim

/-! ### sorted(d), d's keys pairs of ints -/
/-- the place of a pair among sorted ones -/
def insP (p : Int × Int) : List (Int × Int) → List (Int × Int)
  | [] => [p]
  | q :: r => if SrtO.lexB q p then q :: insP p r else p :: q :: r
def srtP (l : List (Int × Int)) : List (Int × Int) := l.foldr insP []
end
end DL

set_option Elab.async false
set_option linter.all false
set_option autoImplicit false
set_option maxRecDepth 100000
/-! sorted(d), d's keys pairs of ints; tuples compared; d.get(k, x). -/
namespace DL
open PySem PySem.Spec PyProof.Rows L2
abbrev PP := Int × Int
def leB (p q : PP) : Bool := decide (p.1 < q.1) || (decide (p.1 = q.1) && decide (p.2 ≤ q.2))
theorem leB_iff {p q : PP} : leB p q = true ↔ p.1 < q.1 ∨ (p.1 = q.1 ∧ p.2 ≤ q.2) := by simp [leB]
def inP (p : PP) : List PP → List PP
  | [] => [p]
  | q :: r => if leB p q = true then p :: q :: r else q :: inP p r
def sortP : List PP → List PP
  | [] => []
  | p :: r => inP p (sortP r)
theorem inP_perm (i : PP) : ∀ l : List PP, (inP i l).Perm (i :: l)
  | [] => .refl _
  | j :: r => by
    unfold inP
    split
    · exact .refl _
    · exact ((inP_perm i r).cons j).trans (.swap i j r)
theorem sortP_perm : ∀ l : List PP, (sortP l).Perm l
  | [] => .refl _
  | i :: r => (inP_perm i (sortP r)).trans ((sortP_perm r).cons i)
abbrev SrtP (l : List PP) : Prop := l.Pairwise fun p q => leB p q = true
theorem inP_sorted (i : PP) : ∀ l : List PP, SrtP l → SrtP (inP i l)
  | [], _ => List.pairwise_singleton _ _
  | j :: r, h => by
    unfold inP
    have hj := List.pairwise_cons.mp h
    split
    · rename_i hij
      exact List.pairwise_cons.mpr ⟨fun k hk => by
        rcases List.mem_cons.mp hk with z | z
        · subst z; exact hij
        · have a := leB_iff.mp hij
          have b := leB_iff.mp (hj.1 k z)
          exact leB_iff.mpr (by omega), h⟩
    · rename_i hij
      refine List.pairwise_cons.mpr ⟨fun k hk => ?_, inP_sorted i r hj.2⟩
      rcases List.mem_cons.mp ((inP_perm i r).subset hk) with z | z
      · subst z
        have a := mt leB_iff.mpr hij
        exact leB_iff.mpr (by omega)
      · exact hj.1 k z
theorem sortP_sorted : ∀ l : List PP, SrtP (sortP l)
  | [] => .nil
  | i :: r => inP_sorted i _ (sortP_sorted r)
theorem sortedP_one : ∀ {xs ys : List PP}, xs.Perm ys → SrtP xs → SrtP ys → xs = ys
  | [], ys, p, _, _ => by simpa using p.length_eq.symm
  | x :: xs, [], p, _, _ => by simpa using p.length_eq
  | x :: xs, y :: ys, p, h1, h2 => by
    have a := List.pairwise_cons.mp h1
    have b := List.pairwise_cons.mp h2
    have e : x = y := by
      have m1 : y ∈ x :: xs := p.symm.subset List.mem_cons_self
      have m2 : x ∈ y :: ys := p.subset List.mem_cons_self
      rcases List.mem_cons.mp m1 with z | z
      · exact z.symm
      · rcases List.mem_cons.mp m2 with w | w
        · exact w
        · have q1 := leB_iff.mp (a.1 y z)
          have q2 := leB_iff.mp (b.1 x w)
          obtain ⟨x1, x2⟩ := x
          obtain ⟨y1, y2⟩ := y
          have e1 : x1 = y1 := by dsimp only at q1 q2; omega
          have e2 : x2 = y2 := by dsimp only at q1 q2; omega
          rw [e1, e2]
    subst e
    rw [sortedP_one p.cons_inv a.2 b.2]
theorem sortP_is {l l' : List PP} (p : l'.Perm l) (s : SrtP l') : l' = sortP l := sortedP_one (p.trans (sortP_perm l).symm) s (sortP_sorted l)
def keyP (p : PP) : List Key := [.inl p.1, .inl p.2]
def pairsK {α : Type} : List (List Key × α) → Option (List PP)
  | [] => some []
  | ([.inl i, .inl j], _) :: r => (pairsK r).map ((i, j) :: ·)
  | _ => none
theorem pairsK_is {α : Type} : ∀ {kvs : List (List Key × α)} {ps : List PP}, pairsK kvs = some ps → kvs.map (·.1) = ps.map keyP
  | [], ps, h => by cases (show _ = _ from h); rfl
  | ([.inl i, .inl j], x) :: r, ps, h => by
    unfold pairsK at h
    cases e : pairsK r with
    | none => rw [e] at h; cases h
    | some qs =>
      rw [e] at h
      cases (show (i, j) :: qs = ps from Option.some.inj h)
      rw [List.map_cons, List.map_cons, pairsK_is e]
      rfl
  | ([], x) :: r, ps, h => by cases h
  | ([.inr i], x) :: r, ps, h => by cases h
  | ([.inl i], x) :: r, ps, h => by cases h
  | (.inr i :: k :: l, x) :: r, ps, h => by cases h
  | (.inl i :: .inr k :: l, x) :: r, ps, h => by cases h
  | (.inl i :: .inl k :: m :: l, x) :: r, ps, h => by cases h
abbrev IsKP (H : Hp) (qs : List PP) (bs : List Addr) : Prop := Paired (fun (p : PP) b => H b = some (.tup [V.int p.1, V.int p.2])) qs bs
/-- sorted(d): a new list of d's own key tuples -/
def rSortDT : List V → Hp → VK → Prop := fun xs H Q => ∃ (a : Addr) (kvs : List (List Key × V)) (ps : List PP), xs = [.ref a] ∧ Rd H a (.dT kvs) ∧ kvs.map (·.1) = ps.map keyP ∧
  ∀ (bs : List Addr) (p : Addr), IsKP H (sortP ps) bs → H p = none → Q (.ref p) (upd H p (.lst (bs.map V.ref)))
def adrOf : Value → Addr
  | .ref a => a
  | _ => 0
def pairAt (H : Hp) : Value → PP
  | .ref q => match H q with
    | some (.tup [.int i, .int j]) => (i, j)
    | _ => (0, 0)
  | _ => (0, 0)
theorem pairAt_is {H : Hp} {q : Addr} {p : PP} (h : H q = some (.tup [V.int p.1, V.int p.2])) : pairAt H (.ref q) = p := by
  unfold pairAt
  simp only [h]
theorem isKP_of {H : Hp} : ∀ {out : List Value}, (∀ u ∈ out, ∃ b, u = Value.ref b ∧ H b = some (.tup [V.int (pairAt H u).1, V.int (pairAt H u).2])) → IsKP H (out.map (pairAt H)) (out.map adrOf) ∧ Vals ((out.map adrOf).map V.ref) out
  | [], _ => ⟨.nil, .nil⟩
  | u :: r, h => by
    obtain ⟨b, e, hb⟩ := h u List.mem_cons_self
    obtain ⟨i1, i2⟩ := isKP_of fun v hv => h v (List.mem_cons_of_mem _ hv)
    subst e
    exact ⟨.cons hb i1, .cons rfl i2⟩
section
variable {X : Cx}
theorem cr_sortDT (hcalm : X.calm = true) : CallR X (.builtin "sorted") rSortDT := by
  intro pins s σ H xs us Q I r q
  obtain ⟨a, kvs, ps, ex, hd, hks, q⟩ := q
  subst ex
  obtain ⟨u, eu, rx⟩ := vals1 r
  subst eu
  cases rx
  obtain ⟨z, hs, ks, pr, o, es, ep, ho, hx, hdt, he, hn⟩ := (show ObjOk X.prog X.w H s.heap a (.dT kvs) from hd.ok I.hok)
  have l1 : es.size = ks.length := size_of_entries he
  have l2 : kvs.length = ks.length := Paired.length pr
  refine Calls.call_function_entry PyProof.Rows.kind_sorted PyProof.Rows.plain_sorted PyProof.Rows.entry_sorted (PyProof.Rows.args_sorted1 _) ?_
  unfold Builtin.«sorted»
  refine wpAny_bind (m := checkCount "sorted" 1 1 _) (wpAny_pure ?_)
  refine wpAny_bind (PySem.W.kdu_collect (A := X.A.in1) (kdl_raw hs hx hdt) (I.ok.hd hcalm) ho (by omega) fun h' tk acc hk it => ?_)
  have ea : acc.toList = ks.map fun x => Value.ref x.2.1 := by
    have hl : acc.toList.length = ks.length := by rw [Array.length_toList, it.1]; exact l1
    apply List.ext_getElem?
    intro j
    rw [List.getElem?_map]
    cases hj : acc.toList[j]? with
    | none =>
      have h1 := List.getElem?_eq_none_iff.mp hj
      rw [List.getElem?_eq_none (by omega)]
      all_goals rfl
    | some v =>
      obtain ⟨en, hen, hv⟩ := it.2 j v (by rw [← Array.getElem?_toList]; exact hj)
      have qe := entry_at he j
      rw [hen] at qe
      cases hb : ks[j]? with
      | none =>
        rw [hb] at qe
        exact nomatch (show some en = none from qe)
      | some b =>
        rw [hb] at qe
        have e2 : en = entryOfKey (tupleKind (mixKind X.prog X.w)) b := Option.some.inj qe
        rw [hv, e2]
        all_goals rfl
  have hal : acc.toList.length = kvs.length := by rw [ea, List.length_map, l2]
  -- each key's tuple
  have at1 : ∀ u ∈ acc.toList, ∃ b, u = Value.ref b ∧ H b = some (.tup [V.int (pairAt H u).1, V.int (pairAt H u).2]) := by
    intro u hu
    rw [ea] at hu
    obtain ⟨x, hxm, rfl⟩ := List.mem_map.mp hu
    obtain ⟨j, hj⟩ := List.mem_iff_getElem?.mp hxm
    obtain ⟨p, hp, e1, e2, _⟩ : ∃ p, kvs[j]? = some p ∧ p.1 = x.1 ∧ H x.2.1 = some (.tup (p.1.map kV)) ∧ RelV p.2 x.2.2 := by
      have hlt : j < kvs.length := by rw [l2]; exact (List.getElem?_eq_some_iff.mp hj).1
      obtain ⟨b, hb, c1, c2, c3⟩ := paired_get pr (List.getElem?_eq_getElem hlt)
      rw [hj] at hb
      cases hb
      exact ⟨_, List.getElem?_eq_getElem hlt, c1, c2, c3⟩
    have e3 : (kvs.map (·.1))[j]? = some p.1 := by rw [List.getElem?_map, hp]; rfl
    rw [hks, List.getElem?_map] at e3
    cases e4 : ps[j]? with
    | none => rw [e4] at e3; cases e3
    | some pp =>
      rw [e4] at e3
      have e5 : keyP pp = p.1 := Option.some.inj e3
      rw [← e5] at e2
      refine ⟨_, rfl, ?_⟩
      rw [pairAt_is (p := pp) e2]
      exact e2
  have em : acc.toList.map (pairAt H) = ps := by
    apply List.ext_getElem?
    intro j
    rw [List.getElem?_map, ea, List.getElem?_map]
    have hlp : ps.length = kvs.length := by
      have e := congrArg List.length hks
      rw [List.length_map, List.length_map] at e
      exact e.symm
    cases hj : ks[j]? with
    | none =>
      have h1 := List.getElem?_eq_none_iff.mp hj
      rw [List.getElem?_eq_none (by omega)]
      rfl
    | some x =>
      have hlt : j < kvs.length := by rw [l2]; exact (List.getElem?_eq_some_iff.mp hj).1
      obtain ⟨b, hb, c1, c2, c3⟩ := paired_get pr (List.getElem?_eq_getElem hlt)
      rw [hj] at hb
      cases hb
      have e3 : (kvs.map (·.1))[j]? = some (kvs[j]).1 := by rw [List.getElem?_map, List.getElem?_eq_getElem hlt]; rfl
      rw [hks, List.getElem?_map] at e3
      cases e4 : ps[j]? with
      | none => rw [e4] at e3; cases e3
      | some pp =>
        rw [e4] at e3
        have e5 : keyP pp = (kvs[j]).1 := Option.some.inj e3
        rw [← e5] at c2
        show some (pairAt H (.ref x.2.1)) = some pp
        rw [pairAt_is (p := pp) c2]
  have I1 : Inv X pins σ H { s with heap := h', toks := tk } := I.kept hk
  have hz2 : acc.toList.length ≤ sizeLine := by rw [hal]; exact z
  refine wpAny_bind (wpAny_newList ?_ hz2)
  have hoL : (h'.push (seqObj "list" acc.toList.toArray 0)).get? h'.objs.size = some (seqObj "list" acc.toList.toArray 0) := Heap.get?_push_size _ rfl
  show wpAny _ _ _ _ _ { s with heap := h'.push (seqObj "list" acc.toList.toArray 0), toks := tk }
  have hp : ∀ v ∈ acc.toList, Srt.IsPair (h'.push (seqObj "list" acc.toList.toArray 0)) v (pairAt H v).1 (pairAt H v).2 := fun v hv => by
    obtain ⟨t, e, ht⟩ := at1 v hv
    obtain ⟨_, its2, r2, o2, ho2, hc2, n2, hd2⟩ := I1.hok _ _ ht
    obtain ⟨u1, u2, rfl, ri, rj⟩ := vals2 r2
    obtain ⟨t1, rfl⟩ := ri
    obtain ⟨t2, rfl⟩ := rj
    exact ⟨t, o2, t1, t2, n2, e, Heap.get?_push_of_some _ ho2, hc2, hd2⟩
  refine wpAny_bind (wpAny_holding (wpAny_call_entry PyProof.Rows.slot_list_sort ⟨_, hoL, rfl⟩ PyProof.Rows.entry_list_sort
    (SrtO.list_sort_ord (SrtO.swo_lex (pairAt H)) hoL hz2 (fun h2 => SrtO.pairs_sortableO (s := { s with heap := h'.push (seqObj "list" acc.toList.toArray 0), toks := tk }) (by omega) hp fun o e => by
      have e' : some o = some (seqObj "list" acc.toList.toArray 0) := e.symm.trans hoL
      cases e'
      intro c
      exact absurd (Value.type.inj c) (by decide)) fun out g1 g2 => ⟨_, rfl, ?_⟩) (PyProof.Rows.args_list_sort _)))
  obtain ⟨e', he'⟩ := PyProof.Rows.sortedHeap_at (vs := acc.toList) (out := out.toArray) hoL
  have outAt := fun u (hu : u ∈ out) => at1 u (g2.perm.mem_iff.mp hu)
  obtain ⟨k1, k2⟩ := isKP_of outAt
  have es' : out.map (pairAt H) = sortP ps := by
    refine sortP_is ?_ ?_
    · rw [← em]; exact g2.perm.map _
    · refine List.pairwise_map.mpr (g1.imp fun {x y} hxy => ?_)
      have a := SrtO.lexB_no.mp hxy
      exact leB_iff.mpr (by omega)
  rw [es'] at k1
  have hlen : ((out.map adrOf).map V.ref).length ≤ sizeLine := by
    rw [List.length_map, List.length_map, g2.perm.length_eq]
    exact hz2
  refine wpAny_pure ⟨_, rfl, .ref h'.objs.size, upd H h'.objs.size (.lst ((out.map adrOf).map V.ref)), I1.laid (t' := tk) (fun b u e => ?_) (Nat.le_refl _)
    (show ObjOk X.prog X.w _ _ _ (.lst ((out.map adrOf).map V.ref)) from ⟨hlen, out, e', k2, he'⟩), rfl, q _ _ k1 (I1.hok.fresh (Nat.le_refl _))⟩
  have hb : b < h'.objs.size := Heap.lt_size e
  rw [PyProof.Rows.sortedHeap_old (Nat.ne_of_lt hb) (by rw [size_push']; exact Nat.lt_succ_of_lt hb)]
  exact Heap.get?_push_of_some _ e
end
def bSortedT : FD := fun xs h => match xs with
  | [.ref n] => match h[n]? with
    | some (.dT kvs) => match pairsK kvs with
      | some ps => .ok (.ref h.length) (h ++ [.lst ((sortP ps).map fun p => .key (keyP p))])
      | none => .no
    | some (.lkT kvs) => match pairsK kvs with
      | some ps => .ok (.ref h.length) (h ++ [.lst ((sortP ps).map fun p => .key (keyP p))])
      | none => .no
    | _ => .no
  | _ => .no
theorem kp_rep {K : PySem.W.Frag} {φ : List Addr} {H : Hp} : ∀ {qs : List PP} {bs : List Addr}, IsKP H qs bs → RepL K φ H (qs.map fun p => .key (keyP p)) (bs.map V.ref)
  | _, _, .nil => rfl
  | _, _, .cons h t => ⟨_, _, rfl, ⟨_, rfl, h⟩, kp_rep t⟩
section
variable {X : Cx} {g : Nat → Addr} {W : WX}
theorem c_sortedT (hc : X.calm = true) : CallD X g (.builtin "sorted") bSortedT := by
  refine ⟨_, cr_sortDT hc, fun W σ φ H h xs vs Q S r p => ?_⟩
  unfold bSortedT at p
  split at p
  · obtain ⟨v, e1, h1⟩ := one_rep r
    obtain ⟨a, q1, ea⟩ := h1
    subst q1
    split at p
    · rename_i hx
      split at p
      · rename_i ps hps
        obtain ⟨u, h2, h3⟩ := S.obj _ a _ ea hx
        cases h3 with
        | @dT _ us r3 =>
          exact ⟨a, us, ps, e1, .inl h2, (keysT_rep r3).symm.trans (pairsK_is hps), fun bs q kp hq => p.newLst S (kp_rep kp) hq⟩
      · exact p.elim
    · rename_i hx
      split at p
      · rename_i ps hps
        obtain ⟨u, h2, h3⟩ := S.obj _ a _ ea hx
        cases h3 with
        | @lkT _ us o r3 =>
          exact ⟨a, us, ps, e1, .inr ⟨o, h2⟩, (keysT_rep r3).symm.trans (pairsK_is hps), fun bs q kp hq => p.newLst S (kp_rep kp) hq⟩
      · exact p.elim
    · exact p.elim
  · exact p.elim

/-! ### tuples of ints compared -/
def leT (ns ms : List Int) : Bool := Ob.lexAt (fun j => decide (ns.getD j 0 = ms.getD j 0)) (fun j => decide (ns.getD j 0 ≤ ms.getD j 0)) (decide (ns.length ≤ ms.length)) 0 (min ns.length ms.length)
def fLeT : F2 := fun x y h => match x, y with
  | .tup xs, .tup ys => match intsOf xs, intsOf ys with
    | some ns, some ms => .ok (.bl (leT ns ms)) h
    | _, _ => .no
  | _, _ => .no
theorem o_leT {n : Nat} (hr : Room n X.A) : OpD X g (compareOp .LtE) fLeT := by
  refine ⟨_, op_leT (by have := hu_of hr; omega), fun W σ φ H h x y v u Q S rx ry p => ?_⟩
  unfold fLeT at p
  split at p
  · split at p
    · rename_i ns ms e1 e2
      obtain ⟨a, vs, q1, q2, q3⟩ := rx
      obtain ⟨b, ws, w1, w2, w3⟩ := ry
      rw [intsOf_rep e1 q3] at q2
      rw [intsOf_rep e2 w3] at w2
      exact ⟨a, b, ns, ms, q1, w1, q2, w2, p.here S rfl⟩
    · exact p.elim
  · exact p.elim

/-! ### d.get(k, x) -/
def isDct (h : Hv) : D → Bool
  | .ref n => match h[n]? with
    | some (.dK _) => true
    | some (.dT _) => true
    | some (.lkK _) => true
    | some (.lkT _) => true
    | _ => false
  | _ => false
def dDGet2 (o e f : DE) : DE := fun ρ h => (o ρ h).bind fun x h1 => if isDct h1 x = true then ((e ρ h1).bind fun k h2 => (f ρ h2).bind fun z h3 => match dGetAt h3 x k with
  | some w => .ok (w.getD z) h3
  | none => .no) else .no
theorem isDct_rep {K : PySem.W.Frag} {φ : List Addr} {h : Hv} {H : Hp} (S : Sim K g φ h H) {x : D} (e : isDct h x = true) {v : V} (rx : Rep K φ H x v) : ∃ a, v = .ref a ∧ IsD H a := by
  unfold isDct at e
  split at e
  · rename_i n
    obtain ⟨a, e1, ea⟩ := rx
    split at e
    · rename_i hx
      obtain ⟨z, h2, h3⟩ := S.obj _ a _ ea hx
      cases h3 with
      | @dK _ us r3 => exact ⟨a, e1, .inl ⟨us, .inl h2⟩⟩
    · rename_i hx
      obtain ⟨z, h2, h3⟩ := S.obj _ a _ ea hx
      cases h3 with
      | @dT _ us r3 => exact ⟨a, e1, .inr ⟨us, .inl h2⟩⟩
    · rename_i hx
      obtain ⟨z, h2, h3⟩ := S.obj _ a _ ea hx
      cases h3 with
      | @lkK _ us o r3 => exact ⟨a, e1, .inl ⟨us, .inr ⟨o, h2⟩⟩⟩
    · rename_i hx
      obtain ⟨z, h2, h3⟩ := S.obj _ a _ ea hx
      cases h3 with
      | @lkT _ us o r3 => exact ⟨a, e1, .inr ⟨us, .inr ⟨o, h2⟩⟩⟩
    · cases e
  · cases e
theorem de_dget2 {n : Nat} {o e f : Expr} {d0 d1 d2 : DE} {apos cpos : Pos} (hr : Room n X.A) (ho : PE X o (tE X.K g W d0)) (he : PE X e (tE X.K g W d1)) (hf : PE X f (tE X.K g W d2)) (m : M2 X o "get" apos e f cpos := by exact ⟨rfl, rfl, rfl, rfl⟩) :
    PE X (.Call (.Attribute o "get" apos) [e, f] [] cpos) (tE X.K g W (dDGet2 d0 d1 d2)) := by
  refine pe_imp (pe_dget2 (hu_of hr) ho he hf m) fun σ H Q ⟨φ, ρ, h, S, E, q⟩ => ?_
  refine ⟨φ, ρ, h, S, E, Post.bind q fun φ1 H1 x h1 v le1 S1 r1 p1 => ?_⟩
  split at p1
  · rename_i hd
    obtain ⟨a, ea, id⟩ := isDct_rep S1 hd r1
    refine ⟨a, ea, id, φ1, ρ, h1, S1, E.mono le1, Post.bind p1 fun φ2 H2 k h2 u le2 S2 r2 p2 => ?_⟩
    refine ⟨φ2, ρ, h2, S2, (E.mono le1).mono le2, Post.bind p2 fun φ3 H3 z h3 w le3 S3 r3 p3 => ?_⟩
    split at p3
    · rename_i o ho
      obtain ⟨a', o', e1, _, q3, q4, q5⟩ := dGetAt_rep S3 ho (Rep.mono (le2.trans le3) _ _ r1) (Rep.mono le3 _ _ r2)
      rw [ea] at e1
      cases e1
      refine ⟨o', q3, p3.here S3 ?_⟩
      cases o with
      | none => rw [q5 rfl]; exact r3
      | some y =>
        obtain ⟨y', e2, r4⟩ := q4 y rfl
        rw [e2]
        exact r4
    · exact p3.elim
  · exact p1.elim
end
end DL

set_option Elab.async false
set_option linter.all false
set_option autoImplicit false
set_option maxRecDepth 100000
set_option maxHeartbeats 2000000
/-! Exceptions raised where another one is handled: the context is None, or one whose own is None. -/
namespace L2C
open PySem PySem.Spec PyProof.Rows L2 HotX
abbrev St := L2.St
def CtxT (t : Value) (o : Obj) : Prop := ∀ vs : Array Value, o.data = .fields vs → vs[2]? = some t
theorem steady_t {t : Value} : PXN.Steady1 (CtxT t) := fun o v h => by
  obtain ⟨c, d, dt, sl⟩ := o
  cases dt with
  | fields vs0 =>
    intro vs e
    have e2 : vs0.setIfInBounds 1 v = vs := Data.fields.inj e
    have e3 : (vs0.setIfInBounds 1 v)[2]? = vs0[2]? := by
      first
      | exact Array.getElem?_setIfInBounds_ne (by decide)
      | simp [Array.getElem?_setIfInBounds]
    rw [← e2, e3]
    exact h vs0 rfl
  | _ =>
    intro vs e
    first
    | exact Data.noConfusion e
    | cases e
def Zt (cls : Value) (d : Option Addr) (t : Value) : Obj → Prop := fun o => o.cls = cls ∧ o.dict = d ∧ CtxT t o
theorem Zt.steady {cls : Value} {d : Option Addr} {t : Value} : PXN.Steady1 (Zt cls d t) := fun o v h => ⟨PXN.steady_cls o v h.1, PXN.steady_dict o v h.2.1, steady_t o v h.2.2⟩
/-- the context: None, or an exception that stands out of reach, its own context None -/
def Behind (h : Heap) (H : Hp) (fs : List Addr) (t : Value) : Prop := t = .none ∨ ∃ (x : Addr) (o : Obj) (vs : Array Value), t = .ref x ∧ h.get? x = some o ∧ o.data = .fields vs ∧ vs[2]? = some .none ∧ H x = none ∧ x ∉ fs
def XE (X : Cx) (W : WX) (u : Value) (s' : Shared) : Prop :=
  ∃ (a : Addr) (B : Heap) (sI : Shared) (pins : List (Addr × Obj)) (σ : St) (H : Hp) (cls : Value) (d : Option Addr) (t : Value),
    u = .ref a ∧ Inv X pins σ H sI ∧ (∀ b o, sI.heap.get? b = some o → b ∉ frs X.stack → B.get? b = some o) ∧ sI.heap.UpToSlots s'.heap ∧
      Sky B X.stack a (Zt cls d t) X.env.locals s'.heap ∧ H a = none ∧ s'.os = sI.os ∧ AllBare s'.gens ∧ Behind sI.heap H (frs X.stack) t ∧ W cls d σ H
def Takes (X : Cx) (W : WX) : Prop := ∀ u s', XE X W u s' → X.xe u s'
theorem Takes.n {X : Cx} {W : WX} (t : Takes X W) : L2N.Takes X W := fun u s' ⟨a, B, sI, pins, σ, H, cls, d, e, I, nb, up, sky, na, os, ag, w⟩ =>
  t u s' ⟨a, B, sI, pins, σ, H, cls, d, .none, e, I, nb, up, sky, na, os, ag, .inl rfl, w⟩
def CX (P : Program) (w : World) (outer : List Env) (H : Hp) (s : Shared) (E : XK) (u : Value) (s' : Shared) : Prop :=
  ∃ (a : Addr) (B : Heap) (H' : Hp) (cls : Value) (d : Option Addr) (t : Value), u = .ref a ∧ HandSPX.FlyingZ B outer a (Zt cls d t) s'.heap ∧ HOk P w H' B ∧ UB (frs outer) H H' s.heap B s'.heap ∧ H' a = none ∧ s'.os = s.os ∧ AllBare s'.gens ∧ Behind B H' (frs outer) t ∧ E cls d H'
section
variable {X : Cx} {pins : List (Addr × Obj)} {σ : St} {H : Hp} {sI s s' : Shared} {B : Heap} {W : WX} {E : XK}
theorem XE.of_call (I : Inv X pins σ H s) (hW : ∀ cls d H', E cls d H' → W cls d σ H') {u : Value} (c : CX X.prog X.w X.stack H s E u s') : XE X W u s' := by
  obtain ⟨a, B, H', cls, d, t, rfl, fl, hok, ub, na, os, ag, bh, hE⟩ := c
  obtain ⟨G, g1, g2⟩ := restrict s'.heap fun b => (B.get? b).isSome || decide (b ∈ frs X.stack)
  have st : B.StaysIn s'.heap := fl.1
  have gB : ∀ b o, B.get? b = some o → G.get? b = some o := fun b o e => by
    rw [g1 b (by simp [e])]
    exact st b o e
  have gF : ∀ b, b ∈ frs X.stack → G.get? b = s'.heap.get? b := fun b hb => g1 b (by simp [hb])
  have og : ∀ b o, G.get? b = some o → s'.heap.get? b = some o ∧ ((B.get? b).isSome = true ∨ b ∈ frs X.stack) := fun b o e => by
    cases q : ((B.get? b).isSome || decide (b ∈ frs X.stack)) with
    | false => rw [g2 b q] at e; cases e
    | true =>
      rw [g1 b q] at e
      exact ⟨e, by simpa [Bool.or_eq_true] using q⟩
  refine ⟨a, B, { s with heap := G, gens := s'.gens, drawn := s'.drawn, toks := s'.toks }, pins, σ, H', cls, d, t, rfl, ?_, fun b o e hb => ?_, Heap.UpToSlots.of_keeps fun b o e => (og b o e).1, .inr (.inl fl), na, os, ag, ?_, hW _ _ _ hE⟩
  · refine I.call (ch := []) ⟨fun b o e n hb _ => gB b o (ub.keep b o e n hb), fun b o e n hb _ => ?_, fun b o e n _ => ub.free b o e n, fun b o e _ => ?_, ub.tups, ub.frzs, ub.tbls⟩ (hok.kept gB) ag (fun _ z => nomatch z)
    · obtain ⟨sl, q⟩ := ub.slot b o e hb
      exact ⟨sl, by rw [gF b hb]; exact q⟩
    · by_cases hb : b ∈ frs X.stack
      · obtain ⟨sl, q⟩ := ub.slot b o e hb
        exact ⟨_, by rw [gF b hb]; exact q⟩
      · obtain ⟨o', q⟩ := ub.there b o e hb
        exact ⟨o', gB b o' q⟩
  · obtain ⟨e', h⟩ := og b o e
    rcases h with h | h
    · obtain ⟨o', q⟩ := Option.isSome_iff_exists.mp h
      have z := st b o' q
      rw [e'] at z; cases z
      exact q
    · exact absurd h hb
  · rcases bh with z | ⟨x, o, vs, e1, e2, e3⟩
    · exact .inl z
    · exact .inr ⟨x, o, vs, e1, gB x o e2, e3⟩
theorem XE.new {a : Addr} {oe : Obj} {vs : Array Value} {cls : Value} {d : Option Addr} {t : Value} (I : Inv X pins σ H sI) (k : ∀ b o, sI.heap.get? b = some o → s'.heap.get? b = some o) (hne : sI.heap.get? a = none) (he : s'.heap.get? a = some oe)
    (hz : Zt cls d t oe) (hd : oe.data = .fields vs) (h1 : vs[1]? = some .none) (na : H a = none) (os : s'.os = sI.os) (ag : AllBare s'.gens) (bh : Behind sI.heap H (frs X.stack) t) (w : W cls d σ H) : XE X W (.ref a) s' := by
  refine ⟨a, PySem.W.hideAll sI.heap (frs X.stack), sI, pins, σ, H, cls, d, t, rfl, I, fun b o e hb => PySem.W.hideAll_get _ e hb, Heap.UpToSlots.of_keeps k,
    .inl ⟨fun b o e => k b o (PySem.W.of_hideAll _ e), ?_, ?_, oe, vs, he, hz, hd, h1⟩, na, os, ag, bh, w⟩
  · cases q : (PySem.W.hideAll sI.heap (frs X.stack)).get? a with
    | none => rfl
    | some o =>
      have z := PySem.W.of_hideAll _ q
      rw [hne] at z; cases z
  · exact Heap.FunFrames.of_keeps (fun b o e _ => ⟨o, k b o e, rfl⟩) (funFrames_none I.stack fun b hb => PySem.W.hideAll_none _ hb)
theorem XE.leave (hs : X.stack = X.env :: X.outer) (hf : X.env.frame = some X.env.locals) (hex : X.ex = []) {E₁ : Value → Shared → Prop} (hW : ∀ cls d σ H, W cls d σ H → E cls d H) {u : Value} (x : XE X W u s') :
    wpAny (model X.prog X.w) X.A (leaving X.env u) (fun _ s'' => CX X.prog X.w X.outer X.H_0 X.s_0 E u s'') E₁ s' := by
  obtain ⟨a, B, sI, pins, σ, H, cls, d, t, rfl, I, nb, up, sky, na, os, ag, bh, w⟩ := x
  have hfr : X.A.frames = some (X.env :: X.outer) := by rw [I.ok.frames, hs]
  have nst : ∀ b o, X.s_0.heap.get? b = some o → b ∉ X.fs → b ∉ frs X.stack := fun b o e hb hm => by
    rcases List.mem_cons.mp (I.stkSub b hm) with z | z
    · have h1 := Heap.lt_size e
      have h2 := I.ok.above
      rw [z] at h1
      exact absurd (Nat.lt_of_lt_of_le h1 h2) (Nat.lt_irrefl _)
    · exact hb z
  have hex' : ∀ b, b ∉ X.ex := fun b hb => by rw [hex] at hb; cases hb
  have hokB := I.inGround nb
  have bhB : Behind B H (frs X.outer) t := by
    rcases bh with z | ⟨x, o, vs, e1, e2, e3, e4, e5, e6⟩
    · exact .inl z
    · refine .inr ⟨x, o, vs, e1, nb x o e2 e6, e3, e4, e5, fun hm => e6 ?_⟩
      rw [hs]
      obtain ⟨e, he, q⟩ := List.mem_filterMap.mp hm
      exact List.mem_filterMap.mpr ⟨e, List.mem_cons_of_mem _ he, q⟩
  have fin : ∀ h', HandSPX.FlyingZ B X.outer a (Zt cls d t) h' → s'.heap.UpToSlots h' → CX X.prog X.w X.outer X.H_0 X.s_0 E (.ref a) { s' with heap := h' } := fun h' fl up' => by
    refine ⟨a, B, H, cls, d, t, rfl, fl, hokB, ⟨fun b o e n hb => nb b o (I.base.keep b o e n hb (hex' b)) (nst b o e hb), fun b o e hb => ?_, fun b o e n => I.base.free b o e n (hex' b), fun b o e hb => ?_, I.base.tups, I.base.frzs, I.base.tbls⟩,
      na, os.trans I.os, ag, bhB, hW _ _ _ _ w⟩
    · obtain ⟨_, o₀, e₀, hnf⟩ := I.ok.funs.mem hb
      rw [e] at e₀; cases e₀
      obtain ⟨sl, e1⟩ := I.base.slot b o e (I.ok.frf b hb) hb (hex' b)
      obtain ⟨sl2, e2⟩ := up b _ e1 hnf
      obtain ⟨sl3, e3⟩ := up' b _ e2 hnf
      exact ⟨sl3, e3⟩
    · obtain ⟨o', e1⟩ := I.base.there b o e (hex' b)
      exact ⟨o', nb b o' e1 (nst b o e hb)⟩
  rw [hs] at sky
  rcases sky with ⟨hB, hn, hl, oe, vs, he, hz, hd, h1⟩ | fl | hd
  · exact PXN.leaving_firstZ Zt.steady hfr hl hf he hB hn hd h1 hz fin
  · exact PXN.leaves_onZ Zt.steady hfr hf fl fin
  · exact HandSPX.leaves_heldZ hf hd fin
theorem takes_of (hs : X.stack = X.env :: X.outer) (hf : X.env.frame = some X.env.locals) (hex : X.ex = []) {E₁ : Value → Shared → Prop}
    (hx : X.xe = fun e s' => wpAny (model X.prog X.w) X.A (leaving X.env e) (fun _ s'' => CX X.prog X.w X.outer X.H_0 X.s_0 E e s'') E₁ s') : Takes X (fun cls d _ H => E cls d H) := fun u s' x => by
  rw [hx]
  exact XE.leave (W := fun cls d _ H => E cls d H) (E := E) hs hf hex (fun _ _ _ _ h => h) x
theorem passAt (tk : Takes X W) (σ : St) : PassesAt (L2C.CX X.prog X.w) X σ (WE W σ) := fun _ _ _ e s' I c => tk e s' (XE.of_call I (fun _ _ _ h => h) c)
/-! ### a raise where an exception is handled -/
theorem ps_raiseC {e : Expr} {t : St → Hp → XK → Prop} {pos : Pos} (hc : L2H.HotC X) (tk : Takes X W) (he : L2N.PMk X e t) : PS X (.Raise (some e) none pos) (fun _ σ H => t σ H fun cls d H' => W cls d σ H') := by
  refine ⟨fun pins s σ H D I h => ?_⟩
  obtain ⟨p, ⟨hh, v1, e1, c1⟩, hp⟩ := hc
  show wpAny _ _ (do standAt pos; raiseStmt X.env (some (do let v ← eval e X.env; standAt pos; pure v)) none) _ _ _
  refine wpAny_bind (wpAny_standAt (raise_made_hot (x1 := p.1) (wpAny_bind (wpAny_mono (he pins s σ H _ I h) (fun u s1 hu => wpAny_bind (wpAny_standAt (wpAny_pure ?_))) fun _ _ x => x))))
  obtain ⟨a, oe, vs, sI, H', cls, d, rfl, J, k, hne, ha, hz, hd, h1, na, os, ag, r, q⟩ := hu
  obtain ⟨r1, r2⟩ := r (model X.prog X.w) s1.heap (J.kIn.keeps k)
  have PP1 := J.pin p (List.mem_append_left _ hp)
  have P1 := PP1.1
  have nap : p.1 ≠ a := fun z => by
    rw [z, hne] at P1
    cases P1
  have hi : 2 < vs.size := (Array.getElem?_eq_some_iff.mp (hz.2.2 vs hd)).1
  have h1' : (vs.setIfInBounds 2 (Value.ref p.1))[1]? = some Value.none := by
    have e3 : (vs.setIfInBounds 2 (Value.ref p.1))[1]? = vs[1]? := by
      first
      | exact Array.getElem?_setIfInBounds_ne (by decide)
      | simp [Array.getElem?_setIfInBounds]
    rw [e3]
    exact h1
  have dat := Obj.data_mapFields hd (·.setIfInBounds 2 (Value.ref p.1))
  have zt : Zt cls d (.ref p.1) (Obj.mapFields (·.setIfInBounds 2 (Value.ref p.1)) oe) := ⟨(Obj.cls_mapFields ..).trans hz.1, (HandSPX.dict_mapFields ..).trans hz.2.1, fun vs' e => by
    rw [dat] at e
    have e2 : vs.setIfInBounds 2 (Value.ref p.1) = vs' := Data.fields.inj e
    rw [← e2]
    simp [Array.getElem?_setIfInBounds, hi]⟩
  have bh : Behind sI.heap H' (frs X.stack) (.ref p.1) := .inr ⟨p.1, p.2, v1, rfl, P1, e1, c1, PP1.2.1, fun hm => (List.mem_cons.mp (J.stkSub p.1 hm)).elim PP1.2.2.1 PP1.2.2.2.1⟩
  refine ⟨a, oe, vs, cls, rfl, ha, hz.1, hd, h1, hi, nap, ⟨hh, p.2, v1, k _ _ P1, e1, c1⟩, r1, r2, tk _ _ (XE.new J (fun b u z => ?_) hne (Heap.get?_update_self _ ha (Obj.isFreed_of_fields dat)) zt dat h1' na os ag bh q)⟩
  have nab : a ≠ b := fun y => by
    rw [← y, hne] at z
    cases z
  show (s1.heap.update a (Obj.mapFields (·.setIfInBounds 2 (.ref p.1)))).get? b = some u
  rw [Heap.get?_update_other _ _ nab]
  exact k b u z
end
/-! ### pins more and less -/
section
variable {X : Cx} {pins : List (Addr × Obj)} {σ : St} {H : Hp} {s : Shared}
theorem addPin (I : Inv X pins σ H s) {x : Addr} {o : Obj} (h1 : s.heap.get? x = some o) (h2 : H x = none) (h3 : x ≠ X.env.locals) (h4 : x ∉ X.fs) (h5 : ∀ v, o.data ≠ .cell v) : Inv X ((x, o) :: pins) σ H s :=
  ⟨I.ok, I.os, I.bare, I.base, I.loc, I.cell, I.free, I.freeC, fun p hp => by
    rcases List.mem_append.mp hp with z | z
    · exact I.pin p (List.mem_append_left _ z)
    · rcases List.mem_cons.mp z with z | z
      · rw [z]; exact ⟨h1, h2, h3, h4, h5⟩
      · exact I.pin p (List.mem_append_right _ z), I.hok, I.len⟩
theorem dropPin {p : Addr × Obj} (I : Inv X (p :: pins) σ H s) : Inv X pins σ H s :=
  ⟨I.ok, I.os, I.bare, I.base, I.loc, I.cell, I.free, I.freeC, fun q hq => I.pin q (by
    rcases List.mem_append.mp hq with z | z
    · exact List.mem_append_left _ z
    · exact List.mem_append_right _ (List.mem_cons_of_mem _ z)), I.hok, I.len⟩
end
end L2C

set_option Elab.async false
set_option linter.all false
set_option autoImplicit false
set_option maxRecDepth 100000
set_option maxHeartbeats 2000000
/-! try in such contexts; any() where the handled exception has a context. -/
namespace L2C
open PySem PySem.Spec PyProof.Rows L2 HotX
/-! ### a handled exception with an exception behind it -/
/-- the second one: an address and what stands there -/
structure Two (A : Around) (x1 x2 : Addr) (o2 : Obj) (h : Heap) : Prop where
  hd : A.handled = some (.ref x1)
  one : ∃ (o : Obj) (vs : Array Value), h.get? x1 = some o ∧ o.data = .fields vs ∧ vs[2]? = some (.ref x2)
  two : h.get? x2 = some o2
  fld : ∃ vs : Array Value, o2.data = .fields vs ∧ vs[2]? = some .none
  ne : x2 ≠ x1
section
variable {prog : Program} {w : World} {A : Around} {E : Value → Shared → Prop} {s : Shared}
theorem unchained2 {x1 x2 a : Addr} {o2 : Obj} {Q : Value → Shared → Prop} (t : Two A x1 x2 o2 s.heap) (n2 : x2 ≠ a) (q : Q .none s) :
    wpAny (model prog w) A (holding [Value.ref a] (runValue (.builtin "proto.unchain" ⟨[.ref a, .ref x1, .ref x1, .bool false], []⟩))) Q E s := by
  obtain ⟨o1, vs1, h1, d1, c1⟩ := t.one
  obtain ⟨vs2, d2, c2⟩ := t.fld
  refine wpAny_holding (wpAny_runValue (codeAny_builtin HotX.entry_unchain ?_))
  show wpAny _ _ (field (.ref x1) 2 >>= _) _ _ s
  refine wpAny_bind (wpAny_field h1 d1 c1 ?_)
  rw [if_neg (show ¬ ((Value.ref x2 == Value.none) = true) from fun z => Bool.false_ne_true z)]
  have e2 : (Value.ref x2 == Value.ref a) = false := by
    have := ref_bne (a := x2) (b := a) n2
    simpa [bne] using this
  have e3 : (Value.ref x2 == Value.ref x1) = false := by
    have := ref_bne (a := x2) (b := x1) t.ne
    simpa [bne] using this
  simp only [e2, e3, Bool.false_eq_true, if_false]
  first
  | refine wpAny_bind (wpAny_pure ?_)
  | skip
  refine wpAny_pure ⟨Code.quiet_builtin _ (by decide +kernel), codeAny_builtin HotX.entry_unchain ?_⟩
  show wpAny _ _ (field (.ref x2) 2 >>= _) _ _ s
  refine wpAny_bind (wpAny_field t.two d2 c2 ?_)
  rw [if_pos (show (Value.none == Value.none) = true from rfl)]
  first
  | exact wpAny_bind (wpAny_pure (wpAny_pure q))
  | exact wpAny_pure q
theorem raiseNew_two {α : Type} {a x1 x2 : Addr} {oe o2 : Obj} {vs : Array Value} {Q : α → Shared → Prop} (t : Two A x1 x2 o2 s.heap) (hne : x1 ≠ a) (n2 : x2 ≠ a) (ha : s.heap.get? a = some oe) (da : oe.data = .fields vs) (hi : 2 < vs.size)
    (hE : E (.ref a) { s with heap := s.heap.update a (Obj.mapFields (·.setIfInBounds 2 (.ref x1))) }) : wpAny (model prog w) A (raiseNew (.ref a) : Sem α) Q E s := by
  unfold raiseNew
  refine wpAny_bind (wpAny_handled ?_)
  rw [t.hd]
  have hb : (Value.ref x1 != Value.ref a) = true := ref_bne hne
  first
  | (show wpAny _ _ (if (Value.ref x1 != Value.ref a) = true then _ else _) _ _ _
     rw [if_pos hb]
     first
     | exact wpAny_bind (unchained2 t n2 (wpAny_bind (chained ha da hi (wpAny_throw hE))))
     | exact wpAny_bind (wpAny_bind (unchained2 t n2 (chained ha da hi (wpAny_throw hE)))))
  | (refine wpAny_bind ?_
     show wpAny _ _ (if (Value.ref x1 != Value.ref a) = true then _ else _) _ _ _
     rw [if_pos hb]
     exact wpAny_bind (unchained2 t n2 (chained ha da hi (wpAny_throw hE))))
end
theorem Two.keep {A : Around} {x1 x2 : Addr} {o1 o2 : Obj} {h h' : Heap} {vs : Array Value} (t : Two A x1 x2 o2 h) (e1 : h'.get? x1 = some o1) (d1 : o1.data = .fields vs) (c1 : vs[2]? = some (.ref x2)) (e2 : h'.get? x2 = some o2) : Two A x1 x2 o2 h' := ⟨t.hd, ⟨o1, vs, e1, d1, c1⟩, e2, t.fld, t.ne⟩
theorem pyNext_list_end_two {prog : Program} {w : World} {A : Around} {E : Value → Shared → Prop} {s : Shared} {it l x1 x2 : Addr} {o2 : Obj} {i : Nat} {items : Array Value} {Q : Option Value → Shared → Prop}
    (t : Two A x1 x2 o2 s.heap) (ne : x1 ≠ it) (ne2 : x2 ≠ it) (hit : s.heap.IsListIter it l i) (hl : s.heap.IsList l items) (hx : items[i]? = none)
    (hQ : ∀ h' : Heap, Heap.ExtBut it s.heap h' → Q none { heap := h', gens := s.gens, drawn := s.drawn, toks := s.toks, os := s.os }) :
    wpAny (model prog w) A (pyNext (.ref it)) Q E s := by
  obtain ⟨o1, vs1, h1, d1, c1⟩ := t.one
  have h2 := t.two
  have hit0 := hit
  obtain ⟨o, ho, hc, hd⟩ := hit
  obtain ⟨ol, hol, _, nl, hdl⟩ := hl
  unfold pyNext
  refine wpAny_bind (wpAny_attempt (wpAny_callSpecial?_slot (Heap.IsListIter.typeIs hit0) slot_listiter_next (wpAny_call_entry slot_listiter_next (Heap.IsListIter.typeIs hit0) entry_listiter_next ?_ (args_listiter_next (.ref it)))))
  refine wpAny_bind (wpAny_of_eq rfl ?_)
  refine wpAny_bind (wpAny_field ho hd rfl ?_)
  simp only []
  have e00 : (#[Value.ref l, Value.int (i : Int) 0] : Array Value)[0] = Value.ref l := rfl
  simp only [e00]
  rw [if_neg (show ¬ ((Value.ref l == Value.none) = true) from fun z => Bool.false_ne_true z)]
  refine wpAny_bind (wpAny_field ho hd rfl ?_)
  refine wpAny_bind (wpAny_seqItems hol hdl ?_)
  have hx' : items[((i : Int)).toNat]? = none := by simpa using hx
  simp only [hx']
  refine wpAny_bind (wpAny_rule (wpAny_bind (wpAny_setField ho hd (by simp) ?_)))
  have e1 : (s.heap.update it (Obj.mapFields fun x => x.setIfInBounds 0 Value.none)).get? x1 = some o1 := by rw [Heap.get?_update_other _ _ (fun z => ne z.symm)]; exact h1
  have e2 : (s.heap.update it (Obj.mapFields fun x => x.setIfInBounds 0 Value.none)).get? x2 = some o2 := by rw [Heap.get?_update_other _ _ (fun z => ne2 z.symm)]; exact h2
  have x0 : Heap.ExtBut it s.heap (s.heap.update it (Obj.mapFields fun x => x.setIfInBounds 0 Value.none)) := Heap.SameBut.extBut (Heap.SameBut.update s.heap it (Obj.mapFields fun x => x.setIfInBounds 0 Value.none))
  generalize s.heap.update it (Obj.mapFields fun x => x.setIfInBounds 0 Value.none) = g at *
  unfold Builtin.SmallTypes.stopIteration
  refine wpAny_bind ?_
  refine wpAny_bind (wpAny_newObj_type (wpAny_bind (wpAny_of_eq rfl (wpAny_newObj_type (raiseNew_two (x1 := x1) (x2 := x2) (o2 := o2) ⟨t.hd, ⟨o1, vs1, Heap.get?_push_of_some _ (Heap.get?_push_of_some _ e1), d1, c1⟩, Heap.get?_push_of_some _ (Heap.get?_push_of_some _ e2), t.fld, t.ne⟩ (Nat.ne_of_lt (Heap.lt_size (Heap.get?_push_of_some _ e1))) (Nat.ne_of_lt (Heap.lt_size (Heap.get?_push_of_some _ e2))) (Heap.get?_push_size _ rfl) rfl (by simp; omega) ?_) ?_))) ?_)
  · refine wpAny_bind (wpAny_isInstance ⟨_, Heap.get?_update_self _ (Heap.get?_push_size _ rfl) rfl, rfl⟩ isSubtype_stop (wpAny_pure (hQ _ ?_)))
    intro b o' hb e
    have eb := x0 b o' hb e
    rw [Heap.get?_update_other _ _ (Nat.ne_of_gt (Heap.lt_size (Heap.get?_push_of_some _ eb)))]
    exact Heap.get?_push_of_some _ (Heap.get?_push_of_some _ eb)
  · exact sizeOk_excFields _ _ _ _ _ _ _ _
  · show (0 : Nat) ≤ sizeLine
    exact Nat.zero_le _
theorem walks_list_two {prog : Program} {w : World} {A : Around} {x1 x2 : Addr} {o1 o2 : Obj} {vs1 : Array Value} (hh : A.handled = some (.ref x1)) (d1 : o1.data = .fields vs1) (c1 : vs1[2]? = some (.ref x2)) (f2 : ∃ vs : Array Value, o2.data = .fields vs ∧ vs[2]? = some .none) (n12 : x2 ≠ x1) (I ax : Addr) (hne : ax ≠ I) (n1 : x1 ≠ I) (n2 : x2 ≠ I) (items : Array Value) :
    Walks prog w A I [I, ax, x1, x2] [I] items.size (fun i v => items[i]? = some v) fun i h => (h.IsListIter I ax i ∧ h.IsList ax items) ∧ h.get? x1 = some o1 ∧ h.get? x2 = some o2 := by
  refine ⟨fun b hb => by simp at hb; simp [hb], fun i h h' st hk => ⟨⟨Heap.IsListIter.at st.1.1 fun o e => hk I (by simp) o e, Heap.IsList.at st.1.2 fun o e => hk ax (by simp) o e⟩, hk x1 (by simp) o1 st.2.1, hk x2 (by simp) o2 st.2.2⟩, fun i s Q E hi st hQ => ?_, fun s Q E st hQ => ?_, fun i s Q E st hQ => wpAny_pyIter_listiter st.1.1 hQ⟩
  · refine wpAny_pyNext_list_item st.1.1 st.1.2 (getElem?_pos items i hi) fun h' hit' hs' => hQ items[i] h' s.toks (getElem?_pos items i hi) ⟨⟨hit', Heap.IsList.extBut st.1.2 (Heap.SameBut.extBut hs') hne⟩, Heap.SameBut.extBut hs' x1 o1 n1 st.2.1, Heap.SameBut.extBut hs' x2 o2 n2 st.2.2⟩ fun b o hb e => Heap.SameBut.extBut hs' b o (fun z => hb (by simp [z])) e
  · refine pyNext_list_end_two (x1 := x1) ⟨hh, ⟨o1, vs1, st.2.1, d1, c1⟩, st.2.2, f2, n12⟩ n1 n2 st.1.1 st.1.2 (by simp) fun h' he' => hQ h' s.toks fun b o hb e => he' b o (fun z => hb (by simp [z])) e
/-- the context bears the handled exception and the one behind it -/
def HotC2 (X : Cx) : Prop := ∃ p q : Addr × Obj, X.A.handled = some (.ref p.1) ∧ p ∈ X.pn ∧ q ∈ X.pn ∧ q.1 ≠ p.1 ∧ (∃ vs : Array Value, p.2.data = .fields vs ∧ vs[2]? = some (.ref q.1)) ∧ ∃ vs : Array Value, q.2.data = .fields vs ∧ vs[2]? = some .none
theorem cr_any2 {X : Cx} (hc : HotC2 X) : CallR X (.builtin "any") (rAny X.K) := by
  intro pins s σ H vs us Q I r h
  obtain ⟨a, bs, rfl, hs, q⟩ := h
  obtain ⟨its, rv, hl, _⟩ := I.list hs
  rw [Vals.ref1 r]
  have hb := Vals.bls rv
  obtain ⟨p, p2, hh, pm, pm2, n12, ⟨vs1, d1, c1⟩, f2⟩ := hc
  have g1 := (I.pin p (List.mem_append_left _ pm)).1
  have g2 := (I.pin p2 (List.mem_append_left _ pm2)).1
  refine call_any_walk (iter_any (PlainL.isList hl) fun s₂ e2 st hne => ?_)
  subst e2
  have n1 : p.1 ≠ s.heap.objs.size := Nat.ne_of_lt (Heap.lt_size g1)
  have n2 : p2.1 ≠ s.heap.objs.size := Nat.ne_of_lt (Heap.lt_size g2)
  refine ⟨s.heap.objs.size, _, _, its.toArray.size, _, _, fun i => bs.getD i false, rfl, walks_list_two (A := X.A.in1) hh d1 c1 f2 n12 s.heap.objs.size a hne n1 n2 its.toArray, ⟨st, Heap.get?_push_of_some _ g1, Heap.get?_push_of_some _ g2⟩, truth_bools hb, fun h' tk hk => ?_⟩
  refine ⟨.bl (bs.any id), H, I.kept fun b o eo => hk b o (fun hm => by
    have : b = s.heap.objs.size := by simpa using hm
    exact absurd (this ▸ Heap.lt_size eo) (Nat.lt_irrefl _)) (Heap.get?_push_of_some _ eo), ?_, q⟩
  show Value.bool _ = Value.bool _
  congr 1
  rw [← any_range bs, hb]
  simp
end L2C

set_option Elab.async false
set_option linter.all false
set_option autoImplicit false
set_option maxRecDepth 100000
set_option maxHeartbeats 2000000
/-! An exception with a row: its __init__, its raise. -/
namespace L2C
open PySem PySem.Spec PyProof.Rows L2 HotX
section
variable {X : Cx} {x : Str} {e : Expr} {es : List Expr} {ta : TA} {p1 p2 pos : Pos}
/-- C.__init__(self, ..), C an own class whose __init__ is ValueError's -/
theorem pe_neinit {C : Addr} {mc : Value} {pl : Sem Bool} (hg : Gl X x) (hm : X.mg x = some (.ref C)) (r : ClX.CRead X.K C mc) (at_ : PySem.W.findCls X.K (.ref C) mc "__init__" = some (.val (.builtin "ValueError.__init__"))) (ha : PA X (e :: es) ta)
    (hdb : (x == ("__debug__" : Str)) = false := by decide)
    (hc : eval (.Call (.Attribute (.Name x p1) "__init__" p2) (e :: es) [] pos) X.env = (do
      let ov ← eval (.Name x p1) X.env
      standAt p2.atName
      let (f, first) ← holding [ov] (getMethod ov "__init__" pl)
      callWith pos f first (backTo pos (starEach (e :: es) X.env)) (backToKw pos (keywordEach [] X.env))) := by rfl)
    (he : starEach (e :: es) X.env = (false, eval e X.env) :: starEach es X.env := by rfl) (hpl : (backTo pos (starEach es X.env)).any (·.1) = false := by rfl) :
    PE X (.Call (.Attribute (.Name x p1) "__init__" p2) (e :: es) [] pos) (tVeI X.K ta) := by
  refine ⟨fun pins s σ H Q I h => ?_⟩
  refine PySem.W.methodCall_KW (ld_glob I hg hm ?_ hdb) hc
  refine PySem.W.method_cls I.kIn r.ga (PySem.W.cls_value I.kIn r.rd at_ (by rfl) ?_)
  show wpAny _ _ (callWith pos (Value.builtin "ValueError.__init__") [] (backTo pos (starEach (e :: es) X.env)) []) _ _ _
  refine PyProof.Rows.callWith_method1 (thn (ha.run pos pins _ σ H _ (I.tok _) h) fun us s1 ⟨vs, H1, I1, r1, a, C, ws, ev, hl, T, ea, q⟩ => ?_) he hpl
  subst ev
  cases r1 with
  | @cons _ u0 _ ur ra rw' =>
    obtain rfl : u0 = Value.ref a := ra
    have hlen : ur.length ≤ sizeLine := by
      rw [← Paired.length rw', sizeLine_eq]
      omega
    exact oinit_ok T I1 ea hlen fun s' J => ⟨.non, H1, J, rfl, q⟩
/-- C(e, ..) where nothing is handled: an exception whose context is None -/
theorem pmk_oexN {CX : CXT} {C fI : Addr} {k : Nat} {fd : FuncData} {ps : List Str} {sp : Sp} (T : OexC X.K C) (iC : PySem.W.findIn X.K (.ref C) "__init__" = some (some (.ref fI))) (tI : PySem.W.typeIn X.K (.ref fI) = some (.type "function"))
    (F1 : FnOk X.prog X.w X.K X.mg X.base CX k fI fd ps sp) (hr : Room (k + 1) X.A) (hb : Binds X.K fd ps []) (hx : Passes CX X (fun _ _ _ => False)) (hg : Gl X x) (hm : X.mg x = some (.ref C)) (ha : PA X (e :: es) ta)
    (hdb : (x == ("__debug__" : Str)) = false := by decide) (he : starEach (e :: es) X.env = (false, eval e X.env) :: starEach es X.env := by rfl) (hpl : (backTo pos (starEach es X.env)).any (·.1) = false := by rfl) :
    L2N.PMk X (.Call (.Name x p1) (e :: es) [] pos) (tMkO C sp [] ta) := by
  intro pins s σ H Q I h
  obtain ⟨nm, q, N, bs, bm, sn, sub, ab, col, dd, k0, k1, k2, k3, k5, hC, hbm⟩ := T.cls
  refine wpAny_Call_Name_kw (ld_glob I hg hm ?_ hdb)
  refine PySem.W.callWith_K (h₀ := X.base) I.ok.mod.kin T.kC (thn (ha.run pos pins s σ H _ I h) fun us s1 ⟨vs, H1, I1, r1, hz, q1⟩ => ⟨I1.kIn, ?_⟩) he hpl
  show wpAny _ _ (call (.ref C) us) _ _ _
  obtain ⟨hp, g, dr, tk, os⟩ := s1
  have hsz : hp.objs.size ≤ hp.objs.size + 1 := Nat.le_succ _
  have hn : H1 (hp.objs.size + 1) = none := I1.hok.fresh hsz
  have hq := q1 (hp.objs.size + 1) hn
  rw [List.append_nil] at hq
  have kk : ∀ b o, hp.get? b = some o → ((hp.push (PySem.W.kdv_tup us)).push (PySem.HandSPX.excO C hp.objs.size)).get? b = some o := fun b o e => Heap.get?_push_of_some _ (Heap.get?_push_of_some _ e)
  have hget : ((hp.push (PySem.W.kdv_tup us)).push (PySem.HandSPX.excO C hp.objs.size)).get? (hp.objs.size + 1) = some (PySem.HandSPX.excO C hp.objs.size) := by heap_get
  have I2 : Inv X pins σ (upd H1 (hp.objs.size + 1) (exo (hp.objs.size + 1) C none)) ⟨(hp.push (PySem.W.kdv_tup us)).push (PySem.HandSPX.excO C hp.objs.size), g, dr, tk, os⟩ :=
    I1.laid (t' := tk) (a := hp.objs.size + 1) (o := exo (hp.objs.size + 1) C none) (h' := (hp.push (PySem.W.kdv_tup us)).push (PySem.HandSPX.excO C hp.objs.size)) kk hsz (exo_ok hget)
  have r2 : Vals (V.ref (hp.objs.size + 1) :: vs) (Value.ref (hp.objs.size + 1) :: us) := .cons rfl r1
  have hl : (Value.ref (hp.objs.size + 1) :: us ++ []).length = ps.length := by
    have e := r2.length
    rw [F1.len _ _ _ _ hq] at e
    rw [List.append_nil]
    exact e.symm
  have hus : us.length ≤ sizeLine := by
    rw [← Paired.length r1, sizeLine_eq]
    omega
  have b2 := hb _ (Value.ref (hp.objs.size + 1) :: us) I2.kIn hl
  rw [List.append_nil] at b2
  refine wpAny_call (PySem.HandSPX.call_own F.excBase_ValueError (fun Y => PySem.HandSPX.refsVE_contains Y bm hbm) (I1.kIn _ _ hC) (PySem.W.looks_findIn I1.kIn iC) (fun self => PySem.W.bind_fn I1.kIn self tI) hus
    (codeAny_mono (F1.run _ X.stack _ _ ⟨Value.ref (hp.objs.size + 1) :: us, []⟩ (Value.ref (hp.objs.size + 1) :: us) _ _ (fun _ _ _ => False) (hr.make C us []) (I2.env0.make C us []) b2 r2 hq) fun r s' hq' => ?_))
  cases r with
  | error er => exact hx pins σ _ _ er s' I2 hq'
  | ok fl =>
    cases fl with
    | ret u =>
      obtain ⟨v, H2, os2, bare2, un2, hok2, rv, ev, d, fs, ea, ed, hd1, q2⟩ := hq'
      subst ev
      obtain ⟨h2, g2, d2, t2, os'⟩ := s'
      obtain ⟨t0, G, J, kG, ge, hoe, na⟩ := mk_end0 (d2 := d2) (t2 := t2) I1 hsz kk un2 hok2 os2 bare2 ea ed hd1
      refine ⟨rv, hp.objs.size + 1, _, _, ⟨G, g2, d2, t2, os'⟩, _, .ref C, some d, rfl, J, kG, ge, hoe, ⟨rfl, rfl, fun vs hv => ?_⟩, rfl, rfl, na, rfl, bare2, raises_own T.exC T.tyC, q2⟩
      cases hv
      rfl
    | next => exact False.elim hq'
    | brk => exact False.elim hq'
    | cont => exact False.elim hq'
end
/-- what the text says of the class with a row, at C, its parent, at CN, its __init__, at fI -/
structure RowT (K : PySem.W.Frag) (mg : Str → Option Value) (C CN fI : Addr) (mc : Value) : Prop where
  ox : OexC K C
  iC : PySem.W.findIn K (.ref C) "__init__" = some (some (.ref fI))
  tI : PySem.W.typeIn K (.ref fI) = some (.type "function")
  noR : PySem.W.findIn K (.ref C) "row" = some none
  gC : mg "BadRow" = some (.ref C)
  gN : mg "NetError" = some (.ref CN)
  cr : ClX.CRead K CN mc
  at_ : PySem.W.findCls K (.ref CN) mc "__init__" = some (.val (.builtin "ValueError.__init__"))
/-- what __init__ keeps -/
def spRow (C : Addr) : Sp := fun vs H Q _ => ∃ (a : Addr) (y : V), vs = [.ref a, y] ∧ H a = some (exo a C none) ∧ ∀ dx, H dx = none → dx ≠ a → Q .non (upd (upd H dx (exd dx [("row", y)])) a (exo a C (some dx)))
def tRowB (K : PySem.W.Frag) (m : Str) : TS := tSeq (tDrop (tVeI K (tCons (tVar 0) (tCons (tC (.str m)) tNil)))) (tOst K "row" (tVar 0) (tVar 1))
theorem row_reads {K : PySem.W.Frag} {C : Addr} {vs : List V} {H : Hp} {Q : VK} {E : XK} {m : Str} (T : OexC K C) (hno : PySem.W.findIn K (.ref C) "row" = some none) (h : spRow C vs H Q E) :
    tRowB K m { nx := fun _ H' => Q .non H', rt := Q } (L2.start ["self", "row"] vs) H := by
  obtain ⟨a, y, rfl, e, q⟩ := h
  exact ⟨.ref a, rfl, a, C, [.str m], rfl, by simp, T, e, y, rfl, .ref a, rfl, a, C, rfl, T, hno, .inl ⟨e, fun dx h1 h2 => q dx h1 h2⟩⟩
section
variable {P : Program} {w : World} {K : PySem.W.Frag} {mg : Str → Option Value} {base : Heap} {x qual m : Str} {st : Stmt} {fI C : Addr} {fd : FuncData}
theorem row_ok (Fu : Fun K x qual st fI fd) (S : FnScope ["self", "row"] ["self", "row"] (defScope st)) (T : OexC K C) (hno : PySem.W.findIn K (.ref C) "row" = some none)
    (hb : ∀ (cd : Value) (A : Around) (ou : List PySem.Env) (s : Shared) (H : Hp) (E : XK), PSs (cxOf CX0 P w K mg base ["self", "row"] qual (defScope st) fI cd A ou s H E) (defBody st) (tRowB K m)) :
    FnOk P w K mg base CX0 1 fI fd ["self", "row"] (spRow C) := by
  obtain ⟨oc, od, kV, doc, pm, an, cd, ct, osl, rfl, lk, hcd⟩ := Fu.ex
  exact fn_of lk hcd S (fun vs H Q E h => by obtain ⟨a, y, rfl, _⟩ := h; rfl) fun A ou s H vs Q E hr h => ⟨_, hb cd A ou s H E, row_reads T hno h⟩
theorem row_okH (Fu : Fun K x qual st fI fd) (S : FnScope ["self", "row"] ["self", "row"] (defScope st)) (T : OexC K C) (hno : PySem.W.findIn K (.ref C) "row" = some none)
    (hb : ∀ (cd : Value) (A : Around) (ou : List PySem.Env) (s : Shared) (H : Hp) (E : XK) (p : Addr × Obj), PSs (L2H.cxH CX0 P w K mg base ["self", "row"] qual (defScope st) fI cd A ou s H E p) (defBody st) (tRowB K m)) :
    L2H.FnH P w K mg base CX0 1 fI fd ["self", "row"] (spRow C) := by
  obtain ⟨oc, od, kV, doc, pm, an, cd, ct, osl, rfl, lk, hcd⟩ := Fu.ex
  exact L2H.fn_ofH lk hcd S (fun vs H Q E h => by obtain ⟨a, y, rfl, _⟩ := h; rfl) fun A ou s H vs Q E p _ hr h => ⟨_, hb cd A ou s H E p, row_reads T hno h⟩
end
end L2C
namespace DL
open PySem PySem.Spec PyProof.Rows L2
/-- raise C(e) -/
def dRow (c : Nat) (e : DE) : DS := fun ρ h => SR.of ρ (e ρ h) fun x h1 => match x with
  | .int k => .ex (.row c k) ρ h1
  | _ => .no
section
variable {X : Cx} {g : Nat → Addr} {W : WX} {de : DE} {c : Nat} {x : Str} {e : Expr} {p pos pos' : Pos} {fI : Addr} {fd : FuncData}
theorem row_of (B : Ends) (σ : L2.St) (H : Hp) (z : tS X.K g W (dRow c de) B σ H) : tMkO (g c) (L2C.spRow (g c)) [] (tCons (tE X.K g W de) tNil) σ H (fun cls d H' => W cls d σ H') := by
  obtain ⟨φ, ρ, h, S, E, q⟩ := z
  refine ⟨φ, ρ, h, S, E, PostS.of E q fun φ1 H1 y h1 v le1 S1 E1 r1 p1 => ?_⟩
  split at p1
  · rename_i k
    cases (show v = .int k from r1)
    refine ⟨by simp, fun a ha => ⟨a, .int k, rfl, upd_same, fun dx hdx ne => ?_⟩⟩
    have h1n : H1 dx = none := by rw [upd_ne ne] at hdx; exact hdx
    refine ⟨rfl, dx, [("row", .int k)], upd_same, by rw [upd_ne ne, upd_same], h1n, ?_⟩
    have e : upd (del (upd (upd (upd H1 a (exo a (g c) none)) dx (exd dx [("row", V.int k)])) a (exo a (g c) (some dx))) a) dx (.xd [("row", V.int k)]) = upd H1 dx (.xd [("row", V.int k)]) := by
      funext b
      by_cases hb : b = dx
      · rw [hb, upd_same, upd_same]
      · rw [upd_ne hb, upd_ne hb]
        by_cases ha' : b = a
        · rw [ha', del_same, ha]
        · rw [del_ne ha', upd_ne ha', upd_ne hb, upd_ne ha']
    rw [e]
    exact p1 φ1 _ σ _ _ (Le.newT h1n) (S1.newT h1n) (E1.mono (Le.newT h1n)) ⟨rfl, dx, rfl, upd_same, S1.new h1n⟩
  · exact p1.elim
theorem ds_row (CN : Addr) (mc : Value) (T : L2C.RowT X.K X.mg (g c) CN fI mc) (F1 : FnOk X.prog X.w X.K X.mg X.base CX0 1 fI fd ["self", "row"] (L2C.spRow (g c))) (hr : Room 2 X.A) (hb : Binds X.K fd ["self", "row"] []) (hc : X.calm = true) (tk : L2N.Takes X W)
    (he : PE X e (tE X.K g W de)) (hg : Gl X "BadRow" := by rfl) (hs : starEach [e] X.env = (false, eval e X.env) :: starEach [] X.env := by rfl) (hpl : (backTo pos (starEach [] X.env)).any (·.1) = false := by rfl) :
    PS X (.Raise (some (.Call (.Name "BadRow" p) [e] [] pos)) none pos') (tS X.K g W (dRow c de)) :=
  ps_imp (L2N.ps_raise hc tk (L2C.pmk_oexN T.ox T.iC T.tI F1 hr hb pass0 hg T.gC (pa_cons he pa_nil hs) (by decide) hs hpl)) row_of
theorem ds_rowH (CN : Addr) (mc : Value) (T : L2C.RowT X.K X.mg (g c) CN fI mc) (F1 : L2H.FnH X.prog X.w X.K X.mg X.base CX0 1 fI fd ["self", "row"] (L2C.spRow (g c))) (hr : L2H.RoomH 2 X.A) (hb : Binds X.K fd ["self", "row"] []) (hc : L2H.HotC X) (tk : L2C.Takes X W)
    (he : PE X e (tE X.K g W de)) (hg : Gl X "BadRow" := by rfl) (hs : starEach [e] X.env = (false, eval e X.env) :: starEach [] X.env := by rfl) (hpl : (backTo pos (starEach [] X.env)).any (·.1) = false := by rfl) :
    PS X (.Raise (some (.Call (.Name "BadRow" p) [e] [] pos)) none pos') (tS X.K g W (dRow c de)) :=
  ps_imp (L2C.ps_raiseC hc tk (L2H.pmk5_oexH T.ox T.iC T.tI F1 hr hc hb pass0 hg T.gC (pa_cons he pa_nil hs) (by decide) hs hpl).pmk) row_of
end
end DL

set_option Elab.async false
set_option linter.all false
set_option autoImplicit false
set_option maxRecDepth 100000
set_option maxHeartbeats 2000000
/-! try .. except X: suite that raises .. else; try .. except X as n, an exception with a row caught. -/
namespace L2C
open PySem PySem.Spec PyProof.Rows L2 HotX L2H
/-- what the clause wishes: it takes the exception -/
def wYes (K : PySem.W.Frag) (c : Value) (ts : Addr → Value → Option Addr → TS) (D : Ends) : WX := fun cls d σ H => PySem.W.exmOne K cls c = some true ∧ ∀ a, H a = none → ts a cls d D σ H
section
variable {X : Cx} {x n : Str} {c : Value} {i : Nat} {body suite orelse : List Stmt} {b₀ : Stmt} {np pos pos' : Pos} {tb : WX → TS} {ts : Addr → Value → Option Addr → TS} {Wout : WX} {u : TS}
theorem notFr {B h : Heap} {a : Addr} {o : Obj} {vs : Array Value} {l : List Env} (ff : h.FunFrames B l) (e : h.get? a = some o) (dd : o.data = .fields vs) : a ∉ frs l := fun hm => by
  obtain ⟨_, o', e', hnf⟩ := ff.mem hm
  rw [e] at e'; cases e'
  exact hnf _ dd
theorem ps_try_onlyR (ho : PSs X orelse u) (hs : X.stack = X.env :: X.outer) (hf : X.env.frame = some X.env.locals) (hc : Names X x c) (hpa : ∀ hd : Option Value, PassesOwnAt (model X.prog X.w) (X.A.mark hd) X.A X.env X.xe) (tk : L2C.Takes X Wout)
    (hb : ∀ (W : WX) (pn : List (Addr × Obj)) (xe : Value → Shared → Prop), L2N.Takes (X.tr pn xe) W → PassesOwn (model X.prog X.w) X.A X.env xe → PSs (X.tr pn xe) body (tb W))
    (hsu : ∀ (a : Addr) (oe : Obj) (cls : Value) (d : Option Addr) (pn : List (Addr × Obj)), L2N.Zn cls d oe → (∃ vs, oe.data = .fields vs) → L2C.Takes (suiteX X a ((a, oe) :: pn)) Wout → HotC (suiteX X a ((a, oe) :: pn)) →
      PSs (suiteX X a ((a, oe) :: pn)) (b₀ :: suite) (ts a cls d)) :
    PS X (.Try body [.ExceptHandler (some (.Name x np)) none (b₀ :: suite) pos'] orelse [] pos) (fun D σ H => tb (wYes X.K c ts D) { D with nx := u D } σ H) := by
  refine ⟨fun pins s σ H D I h => ?_⟩
  have ok := I.ok
  have hfr : X.A.frames = some (X.env :: X.outer) := by rw [ok.frames, hs]
  refine wpAny_Try_except ?_
  refine wpAny_mono ((hb (wYes X.K c ts D) (X.pn ++ pins) (fun e s₁ => wpAny (model X.prog X.w) X.A (noteFrame e X.env) (fun _ s₂ => wpAny (model X.prog X.w) X.A (setFlight e none) (fun _ s₃ =>
    wpAny (model X.prog X.w) X.A (handleBy e X.env [.ExceptHandler (some (.Name x np)) none (b₀ :: suite) pos']) (SP X pins D) X.xe s₃) X.xe s₂) X.xe s₁) (fun u' s' xx => ?_) PassesOwn.looking).run [] s σ H { D with nx := u D } (I.toTry _) h) (fun f s1 hsp => ?_) (fun e s1 he => he)
  · obtain ⟨a, B, sI, pins', σ', H', cls, d, rfl, J', nb, up, sky, na, os, ag, hb1, hyes⟩ := xx
    have J : Inv X pins σ' H' sI := J'.ofTry ok
    have sky' : Sky B (X.env :: X.outer) a (L2N.Zn cls d) X.env.locals s'.heap := by rw [← hs]; exact sky
    show wpAny (model X.prog X.w) X.A (noteFrame (.ref a) X.env) _ _ _
    refine L2N.Sky.land L2N.Zn.steady hfr hf sky' fun h3 fl3 up3 => ?_
    have J3 : Inv X pins σ' H' { s' with heap := h3 } := J.landed nb fl3.1 (up.trans up3) os ag
    obtain ⟨oe3, vs3, he3, hz3, hd3⟩ := fl3.there
    have nfr : a ∉ frs (X.env :: X.outer) := notFr fl3.2.2.1 he3 hd3
    have nL : a ≠ X.env.locals := fun z => nfr (List.mem_filterMap.mpr ⟨X.env, List.mem_cons_self, by rw [hf, z]⟩)
    have nF : a ∉ X.fs := fun hm => by
      obtain ⟨e, he, q⟩ := List.mem_filterMap.mp hm
      exact nfr (List.mem_filterMap.mpr ⟨e, List.mem_cons_of_mem _ he, q⟩)
    have S3 := J3.suite he3 hd3 na nL nF
    refine wpAny_handleBy_cons (codeAny_handlers_test ?_) (by intro q; cases q)
    have LT : PySem.W.Looks (model X.prog X.w) h3 (typeOf (.ref a)) cls := fun A Q E s k q => wpAny_typeOf_ref (k _ _ he3) (by rw [hz3.1]; exact q)
    have LM := PySem.W.exm_one (M := model X.prog X.w) (J3.kIn) LT hb1
    have test : ∀ {Q : Value → Shared → Prop} {E : Value → Shared → Prop}, Q c { s' with heap := h3 } → wpAny (model X.prog X.w) (X.A.mark (some (.ref a))) (eval (.Name x np) X.env) Q E { s' with heap := h3 } := fun {Q E} q => by
      obtain ⟨hg, hdbg, hm | ⟨hm, hv, hnn⟩⟩ := hc
      · exact ld_glob (X := X.suite a ((a, oe3) :: (X.pn ++ pins))) S3 hg hm q hdbg
      · exact ld_blt (X := X.suite a ((a, oe3) :: (X.pn ++ pins))) S3 hg hm hv q hnn hdbg
    refine test (LM.here ?_)
    refine codeAny_handlers_suite ?_
    refine HandSPX.lands_againZ fl3 fun h4 fl4 up4 => ?_
    have J4 : Inv X pins σ' H' { s' with heap := h4 } := J.landed nb fl4.1 ((up.trans up3).trans up4) os ag
    obtain ⟨oe4, vs4, he4, hz4, hd4⟩ := fl4.there
    have S4 := J4.suite he4 hd4 na nL nF
    have tkS : L2C.Takes (suiteX X a ((a, oe4) :: (X.pn ++ pins))) Wout := fun u2 s2 x2 => by
      obtain ⟨a2, B2, sI2, pn2, σ2, H2, cls2, d2, t2, e2, I2, nb2, up2, sky2, na2, os2, ag2, bh2, w2⟩ := x2
      exact tk u2 s2 ⟨a2, B2, sI2, pins, σ2, H2, cls2, d2, t2, e2, unsuiteX I2 ok, nb2, up2, sky2, na2, os2, ag2, bh2, w2⟩
    have hot : HotC (suiteX X a ((a, oe4) :: (X.pn ++ pins))) := ⟨(a, oe4), ⟨rfl, vs4, hd4, hz4.2.2 vs4 hd4⟩, List.mem_cons_self⟩
    refine wpAny_mono ((hsu a oe4 cls d (X.pn ++ pins) hz4 ⟨_, hd4⟩ tkS hot).run [] _ _ H' _ (suiteX_of S4) (hyes a na)) (fun f s6 hsp => ?_) (fun e6 s6 z => hpa (some (.ref a)) e6 s6 z)
    cases f with
    | next =>
      obtain ⟨σ6, H6, S6, q6⟩ := hsp
      exact ⟨_, _, unsuiteX S6 ok, q6⟩
    | brk =>
      obtain ⟨σ6, H6, S6, q6⟩ := hsp
      exact ⟨_, _, unsuiteX S6 ok, q6⟩
    | cont =>
      obtain ⟨σ6, H6, S6, q6⟩ := hsp
      exact ⟨_, _, unsuiteX S6 ok, q6⟩
    | ret u =>
      obtain ⟨v6, σ6, H6, S6, r6, q6⟩ := hsp
      exact ⟨_, _, _, unsuiteX S6 ok, r6, q6⟩
  · cases f with
    | next =>
      obtain ⟨σ', H', J', q⟩ := hsp
      exact ho.run pins s1 σ' H' D (J'.ofTry ok) q
    | brk =>
      obtain ⟨σ', H', J', q⟩ := hsp
      exact ⟨σ', H', J'.ofTry ok, q⟩
    | cont =>
      obtain ⟨σ', H', J', q⟩ := hsp
      exact ⟨σ', H', J'.ofTry ok, q⟩
    | ret u =>
      obtain ⟨v, σ', H', J', r, q⟩ := hsp
      exact ⟨v, σ', H', J'.ofTry ok, r, q⟩
end
/-! ### an exception's dict no longer followed, but pinned -/
section
variable {X : Cx} {pins : List (Addr × Obj)} {σ : St} {H : Hp} {s : Shared} {dd : Addr} {fs : List (Str × V)}
theorem untrack (I : Inv X pins σ H s) (h : H dd = some (.xd fs)) (nF : dd ∉ X.fs) :
    ∃ od, s.heap.get? dd = some od ∧ (∀ f v, fs.lookup f = some v → ∃ u, PySem.W.lookIn f od = some (some u) ∧ RelV v u) ∧ Inv X ((dd, od) :: pins) σ (del H dd) s := by
  have hx : ObjOk X.prog X.w H s.heap dd (.xd fs) := I.hok dd _ h
  obtain ⟨mA, hns, hr⟩ := hx
  obtain ⟨od, ho, hl⟩ := lookIn_ns hns
  have nc : ∀ v, od.data ≠ .cell v := fun v z => by
    obtain ⟨o, es, ep, h1, h2, h3, _⟩ := hns
    rw [ho] at h1
    cases h1
    rw [h2] at z
    cases z
  have neq : ∀ b o, H b = some o → o ≠ .xd fs → b ≠ dd := fun b o e d z => by
    rw [z, h] at e
    exact d (Option.some.inj e).symm
  refine ⟨od, ho, fun f v e => ?_, ⟨I.ok, I.os, I.bare, ⟨I.base.keep, I.base.slot, fun b o e n hx => ?_, I.base.there, fun b xs e => ?_, fun b o x e => ?_, fun b ps e => ?_⟩, I.loc, I.cell, ?_, fun x c e => ?_, fun p hp => ?_, fun b o e => ?_, I.len⟩⟩
  · obtain ⟨u, hu, ru⟩ := RelO.some_of (v := v) (o := mA f) (by rw [← e]; exact hr f)
    exact ⟨u, by rw [hl, hu], ru⟩
  · by_cases hb : b = dd
    · rw [hb, del_same]
    · rw [del_ne hb]; exact I.base.free b o e n hx
  · have q := I.base.tups b xs e
    rw [del_ne (neq b _ q (fun z => nomatch z))]; exact q
  · have q := I.base.frzs b o x e
    rw [del_ne (neq b _ q (fun z => nomatch z))]; exact q
  · obtain ⟨m, q⟩ := I.base.tbls b ps e
    exact ⟨m, by rw [del_ne (neq b _ q (fun z => nomatch z))]; exact q⟩
  · by_cases hb : X.env.locals = dd
    · rw [hb, del_same]
    · rw [del_ne hb]; exact I.free
  · by_cases hb : c = dd
    · rw [hb, del_same]
    · rw [del_ne hb]; exact I.freeC x c e
  · rcases List.mem_append.mp hp with z | z
    · obtain ⟨e, n, r⟩ := I.pin p (List.mem_append_left _ z)
      refine ⟨e, ?_, r⟩
      by_cases hb : p.1 = dd
      · rw [hb, del_same]
      · rw [del_ne hb]; exact n
    · rcases List.mem_cons.mp z with z | z
      · rw [z]
        refine ⟨ho, del_same, fun w => ?_, nF, nc⟩
        have w' : dd = X.env.locals := w
        have := I.free
        rw [← w', h] at this
        cases this
      · obtain ⟨e, n, r⟩ := I.pin p (List.mem_append_right _ z)
        refine ⟨e, ?_, r⟩
        by_cases hb : p.1 = dd
        · rw [hb, del_same]
        · rw [del_ne hb]; exact n
  · have hb : b ≠ dd := fun z => by rw [z, del_same] at e; cases e
    rw [del_ne hb] at e
    exact (I.hok b o e).stay (fun c v _ q => q) (fun c q => by rw [del_ne (neq c _ q (fun z => nomatch z))]; exact q) fun c xs q => by rw [del_ne (neq c _ q (fun z => nomatch z))]; exact q
end
/-- what a suite knows of the exception that it holds: its class C, its dict at dd, the row y, how any() may go -/
structure Held (X : Cx) (C a dd : Addr) (oe od : Obj) (y : V) : Prop where
  pe : (a, oe) ∈ X.pn
  pd : (dd, od) ∈ X.pn
  cls : oe.cls = .ref C
  dct : oe.dict = some dd
  fld : ∃ vs, oe.data = .fields vs
  row : ∃ u, PySem.W.lookIn "row" od = some (some u) ∧ RelV y u
  hot : HotC X ∨ HotC2 X
/-- what the clause wishes of an exception with a row -/
def wRow (K : PySem.W.Frag) (c : Value) (i : Nat) (ts : Addr → Addr → V → TS) (D : Ends) : WX := fun cls d σ H =>
  ∃ (C dd : Addr) (y : V), cls = .ref C ∧ d = some dd ∧ H dd = some (.xd [("row", y)]) ∧ PySem.W.exmOne K cls c = some true ∧
    ∀ a, H a = none → ts a C y { nx := fun σ' H' => D.nx (σ'.set i none) H', rt := D.rt, bk := fun σ' H' => D.bk (σ'.set i none) H', ct := fun σ' H' => D.ct (σ'.set i none) H' } (σ.set i (some (.ref a))) (del H dd)
section
variable {X : Cx} {x n : Str} {c : Value} {i : Nat} {body suite : List Stmt} {b₀ : Stmt} {np pos pos' : Pos} {tb : WX → TS} {ts : Addr → Addr → V → TS} {Wout : WX}
theorem ps_try_row (hs : X.stack = X.env :: X.outer) (hf : X.env.frame = some X.env.locals) (hN : X.N.Nodup) (hi : X.N[i]? = some n) (hln : X.env.kindOf n = some .local) (hc : Names X x c)
    (hb : ∀ (W : WX) (pn : List (Addr × Obj)) (xe : Value → Shared → Prop), L2C.Takes (X.tr pn xe) W → PassesOwn (model X.prog X.w) X.A X.env xe → PSs (X.tr pn xe) body (tb W))
    (hsu : ∀ (a C dd : Addr) (oe od : Obj) (y : V) (pn : List (Addr × Obj)), Held (X.suite a ((a, oe) :: pn)) C a dd oe od y → PSs (X.suite a ((a, oe) :: pn)) (b₀ :: suite) (ts a C y)) :
    PS X (.Try body [.ExceptHandler (some (.Name x np)) (some n) (b₀ :: suite) pos'] [] [] pos) (fun D σ H => tb (wRow X.K c i ts D) D σ H) := by
  refine ⟨fun pins s σ H D I h => ?_⟩
  have ok := I.ok
  have hfr : X.A.frames = some (X.env :: X.outer) := by rw [ok.frames, hs]
  have hloc : Loc X.env.scope n := .inl hln
  refine wpAny_Try_except ?_
  refine wpAny_mono ((hb (wRow X.K c i ts D) (X.pn ++ pins) (fun e s₁ => wpAny (model X.prog X.w) X.A (noteFrame e X.env) (fun _ s₂ => wpAny (model X.prog X.w) X.A (setFlight e none) (fun _ s₃ =>
    wpAny (model X.prog X.w) X.A (handleBy e X.env [.ExceptHandler (some (.Name x np)) (some n) (b₀ :: suite) pos']) (SP X pins D) X.xe s₃) X.xe s₂) X.xe s₁) (fun u s' xx => ?_) PassesOwn.looking).run [] s σ H D (I.toTry _) h) (fun f s1 hsp => ?_) (fun e s1 he => he)
  · obtain ⟨a, B, sI, pins', σ', H', cls, d, t, rfl, J', nb, up, sky, na, os, ag, bh, C, dd, y, ec, ed, hdd, hb1, hyes⟩ := xx
    subst ec ed
    have J : Inv X pins σ' H' sI := J'.ofTry ok
    have sky' : Sky B (X.env :: X.outer) a (Zt (.ref C) (some dd) t) X.env.locals s'.heap := by rw [← hs]; exact sky
    show wpAny (model X.prog X.w) X.A (noteFrame (.ref a) X.env) _ _ _
    refine L2N.Sky.land Zt.steady hfr hf sky' fun h3 fl3 up3 => ?_
    have J3 : Inv X pins σ' H' { s' with heap := h3 } := J.landed nb fl3.1 (up.trans up3) os ag
    obtain ⟨oe3, vs3, he3, hz3, hd3⟩ := fl3.there
    have nfr : a ∉ frs (X.env :: X.outer) := notFr fl3.2.2.1 he3 hd3
    have nL : a ≠ X.env.locals := fun z => nfr (List.mem_filterMap.mpr ⟨X.env, List.mem_cons_self, by rw [hf, z]⟩)
    have nF : a ∉ X.fs := fun hm => by
      obtain ⟨e, he, q⟩ := List.mem_filterMap.mp hm
      exact nfr (List.mem_filterMap.mpr ⟨e, List.mem_cons_of_mem _ he, q⟩)
    have S3 := J3.suite he3 hd3 na nL nF
    refine wpAny_handleBy_cons (codeAny_handlers_test ?_) (by intro q; cases q)
    have LT : PySem.W.Looks (model X.prog X.w) h3 (typeOf (.ref a)) (.ref C) := fun A Q E s k q => wpAny_typeOf_ref (k _ _ he3) (by rw [hz3.1]; exact q)
    have LM := PySem.W.exm_one (M := model X.prog X.w) (J3.kIn) LT hb1
    have test : ∀ {Q : Value → Shared → Prop} {E : Value → Shared → Prop}, Q c { s' with heap := h3 } → wpAny (model X.prog X.w) (X.A.mark (some (.ref a))) (eval (.Name x np) X.env) Q E { s' with heap := h3 } := fun {Q E} q => by
      obtain ⟨hg, hdbg, hm | ⟨hm, hv, hnn⟩⟩ := hc
      · exact ld_glob (X := X.suite a ((a, oe3) :: (X.pn ++ pins))) S3 hg hm q hdbg
      · exact ld_blt (X := X.suite a ((a, oe3) :: (X.pn ++ pins))) S3 hg hm hv q hnn hdbg
    refine test (LM.here ?_)
    refine codeAny_handlers_suite_as ?_
    refine HandSPX.lands_againZ fl3 fun h4 fl4 up4 => ?_
    have J4 : Inv X pins σ' H' { s' with heap := h4 } := J.landed nb fl4.1 ((up.trans up3).trans up4) os ag
    obtain ⟨oe4, vs4, he4, hz4, hd4⟩ := fl4.there
    have ddF : dd ∉ X.fs := fun hm => by
      have := J4.stkFree dd (by
        rw [hs]
        obtain ⟨e, he, q⟩ := List.mem_filterMap.mp hm
        exact List.mem_filterMap.mpr ⟨e, List.mem_cons_of_mem _ he, q⟩)
      rw [hdd] at this
      cases this
    obtain ⟨od, hod, hrow, J5⟩ := untrack J4 hdd ddF
    have nad : a ≠ dd := fun z => by rw [z, hdd] at na; cases na
    have na5 : del H' dd a = none := by rw [del_ne nad]; exact na
    have row := hrow "row" y (by simp [List.lookup])
    -- the pins: the dict, what is behind
    have ex : ∃ pins2 : List (Addr × Obj), Inv X pins2 σ' (del H' dd) { s' with heap := h4 } ∧ (∀ (σ6 : St) (H6 : Hp) (s6 : Shared), Inv X pins2 σ6 H6 s6 → Inv X pins σ6 H6 s6) ∧ Held (X.suite a ((a, oe4) :: (X.pn ++ pins2))) C a dd oe4 od y := by
      rcases bh with et | ⟨x2, o2, vs2, et, ex, ev, ec, eH, ef⟩
      · subst et
        exact ⟨(dd, od) :: pins, J5, fun _ _ _ K => dropPin K, ⟨List.mem_cons_self, List.mem_cons_of_mem _ (List.mem_append_right _ List.mem_cons_self), hz4.1, hz4.2.1, ⟨_, hd4⟩, row, .inl ⟨(a, oe4), ⟨rfl, vs4, hd4, hz4.2.2 vs4 hd4⟩, List.mem_cons_self⟩⟩⟩
      · subst et
        have hB2 := nb x2 o2 ex ef
        have hx4 : h4.get? x2 = some o2 := fl4.1 x2 o2 hB2
        have n2 : x2 ≠ a := fun z => by
          rw [z, fl4.2.1] at hB2
          cases hB2
        have eH2 : del H' dd x2 = none := by
          by_cases hb : x2 = dd
          · rw [hb, del_same]
          · rw [del_ne hb]; exact eH
        have ef' : x2 ∉ frs (X.env :: X.outer) := by rw [← hs]; exact ef
        have K5 := addPin J5 hx4 eH2 (fun z => ef' (List.mem_filterMap.mpr ⟨X.env, List.mem_cons_self, by rw [hf, z]⟩)) (fun hm => by
          obtain ⟨e, he, q⟩ := List.mem_filterMap.mp hm
          exact ef' (List.mem_filterMap.mpr ⟨e, List.mem_cons_of_mem _ he, q⟩)) (fun v z => by rw [ev] at z; cases z)
        exact ⟨(x2, o2) :: (dd, od) :: pins, K5, fun _ _ _ K => dropPin (dropPin K), ⟨List.mem_cons_self, List.mem_cons_of_mem _ (List.mem_append_right _ (List.mem_cons_of_mem _ List.mem_cons_self)), hz4.1, hz4.2.1, ⟨_, hd4⟩, row,
          .inr ⟨(a, oe4), (x2, o2), rfl, List.mem_cons_self, List.mem_cons_of_mem _ (List.mem_append_right _ List.mem_cons_self), n2, ⟨vs4, hd4, hz4.2.2 vs4 hd4⟩, vs2, ev, ec⟩⟩⟩
    obtain ⟨pins2, K5, drop, hel⟩ := ex
    have S4 := K5.suite he4 hd4 na5 nL nF
    refine store_ok (X := X.suite a ((a, oe4) :: (X.pn ++ pins2))) (v := .ref a) S4 hN hi hloc rfl (fun s5 S5 => ?_) (.inr hln)
    refine wpAny_mono ((hsu a C dd oe4 od y (X.pn ++ pins2) hel).run [] s5 _ (del H' dd) _ S5 (hyes a na)) (fun f s6 hsp => ?_) (fun _ _ z => False.elim z)
    have end_ : ∀ {σ6 : St} {H6 : Hp} {Q : Shared → Prop}, Inv (X.suite a ((a, oe4) :: (X.pn ++ pins2))) [] σ6 H6 s6 → (∀ s7, Inv X pins (σ6.set i none) H6 s7 → Q s7) →
        wpAny (model X.prog X.w) X.A (do bindName X.env n .none; unbindBehindTheSuite X.env n pos') (fun _ s7 => Q s7) X.xe s6 := fun {σ6 H6 Q} S6 hq => gone_ok (S6.unsuite ok) hN hi hln fun s7 J7 => hq s7 (drop _ _ _ J7)
    cases f with
    | next =>
      obtain ⟨σ6, H6, S6, q6⟩ := hsp
      exact end_ S6 fun s7 J7 => ⟨_, _, J7, q6⟩
    | brk =>
      obtain ⟨σ6, H6, S6, q6⟩ := hsp
      exact end_ S6 fun s7 J7 => ⟨_, _, J7, q6⟩
    | cont =>
      obtain ⟨σ6, H6, S6, q6⟩ := hsp
      exact end_ S6 fun s7 J7 => ⟨_, _, J7, q6⟩
    | ret u =>
      obtain ⟨v6, σ6, H6, S6, r6, q6⟩ := hsp
      exact end_ S6 fun s7 J7 => ⟨_, _, _, J7, r6, q6⟩
  · cases f with
    | next =>
      obtain ⟨σ', H', J', q⟩ := hsp
      exact wpAny_execs_nil ⟨σ', H', J'.ofTry ok, q⟩
    | brk =>
      obtain ⟨σ', H', J', q⟩ := hsp
      exact ⟨σ', H', J'.ofTry ok, q⟩
    | cont =>
      obtain ⟨σ', H', J', q⟩ := hsp
      exact ⟨σ', H', J'.ofTry ok, q⟩
    | ret u =>
      obtain ⟨v, σ', H', J', r, q⟩ := hsp
      exact ⟨v, σ', H', J'.ofTry ok, r, q⟩
end
end L2C

set_option Elab.async false
set_option linter.all false
set_option autoImplicit false
set_option maxRecDepth 100000
set_option maxHeartbeats 2000000
/-! try .. except X: suite that raises; try .. except X as n with a row; defs that raise so. -/
namespace DL
open PySem PySem.Spec PyProof.Rows L2
def dTryR (c0 : Nat) (db dh du : DS) : DS := fun ρ h => match db ρ h with
  | .nx ρ' h' => du ρ' h'
  | .ex (.own c none) ρ' h' => if c = c0 then dh ρ' h' else .no
  | .ex _ _ _ => .no
  | r => r
def dTryC (c0 : Nat) (db : DS) (hnd : Int → Hv → SR) : DS := fun ρ h => match db ρ h with
  | .ex (.row c k) _ h' => if c = c0 then hnd k h' else .no
  | .ex _ _ _ => .no
  | r => r
def dRowF (a : Addr) (k : Int) (e : DE) : DE := fun ρ h => (e ρ h).bind fun x h1 => match x with
  | .adr a' => if a' = a then .ok (.int k) h1 else .no
  | _ => .no
/-- the exception's dict is followed no more -/
theorem Le.del {K : PySem.W.Frag} {φ : List Addr} {H : Hp} {dd : Addr} {fs : List (Str × V)} (h : H dd = some (.xd fs)) : Le K φ φ H (L2.del H dd) := by
  have ne : ∀ p o, H p = some o → o ≠ .xd fs → p ≠ dd := fun p o e d z => by rw [z, h] at e; exact d (Option.some.inj e).symm
  refine ⟨List.prefix_refl _, fun p vs q => ?_, fun p vs q => ?_, fun p o u q => ?_⟩
  · rcases q with (q | ⟨w, q⟩) | q
    · exact .inl (.inl (by rw [del_ne (ne p _ q (fun z => nomatch z))]; exact q))
    · exact .inl (.inr ⟨w, by rw [del_ne (ne p _ q (fun z => nomatch z))]; exact q⟩)
    · exact .inr q
  · rw [del_ne (ne p _ q (fun z => nomatch z))]; exact q
  · rw [del_ne (ne p _ q (fun z => nomatch z))]; exact q
theorem Sim.del {K : PySem.W.Frag} {g : Nat → Addr} {φ : List Addr} {h : Hv} {H : Hp} (S : Sim K g φ h H) {dd : Addr} {fs : List (Str × V)} (e : H dd = some (.xd fs)) (n : dd ∉ φ) : Sim K g φ h (L2.del H dd) :=
  ⟨S.len, S.nd, fun m a ob e1 e2 => by
    obtain ⟨u, h1, h2⟩ := S.obj m a ob e1 e2
    exact ⟨u, by rw [del_ne (fun z => n (by rw [← z]; exact List.mem_of_getElem? e1))]; exact h1, h2.mono (Le.del e)⟩⟩
section
variable {X : Cx} {g : Nat → Addr} {W : WX} {x : Str} {p pos tp : Pos} {e : Expr} {d : DE} {a C dd : Addr} {oe od : Obj} {y : V}
theorem call_isR (hl : L2C.Held X C a dd oe od y) (E : ExcC X.K C) : CallR X (.builtin "isinstance") (rIsE X.K C a) := by
  intro pins s σ H xs us Q I r h
  obtain ⟨c, cv, b, rfl, hcv, e, q⟩ := h
  cases r with
  | cons rx rr =>
    cases rr with
    | cons rt rr =>
      cases rr
      cases rx
      have ec := hcv _ rt
      subst ec
      obtain ⟨hget, _⟩ := I.pin (a, oe) (List.mem_append_left _ hl.pe)
      obtain ⟨hgd, _⟩ := I.pin (dd, od) (List.mem_append_left _ hl.pd)
      obtain ⟨vs, hv⟩ := hl.fld
      have J : PySem.W.InstAt s.heap a oe C (some od) := ⟨hget, hl.cls, by unfold PySem.W.notCls; rw [hv] <;> rfl, by rw [hl.dct]; exact hgd⟩
      obtain ⟨cd, hcl, _⟩ := PySem.W.any_some E.hd
      exact PySem.W.kia_one (PySem.W.kitx_exc (by rw [hcl]; rfl) E.hg E.hk E.hs E.ha E.hn E.ht E.hm) I.kIn J e (fun z => nomatch z) fun tk => ⟨.bl b, H, I.kept (t' := tk) fun _ _ z => z, rfl, q⟩
theorem c_anyR (hl : L2C.Held X C a dd oe od y) : CallD X g (.builtin "any") bAny := by
  rcases hl.hot with hc | hc
  · exact c_anyH hc
  · refine ⟨_, L2C.cr_any2 hc, fun W σ φ H h xs vs Q S r p => ?_⟩
    unfold bAny at p
    split at p
    · obtain ⟨v, e1, h1⟩ := one_rep r
      split at p
      · rename_i ys hy
        split at p
        · rename_i bs hb
          obtain ⟨a, us, q1, q2, q3⟩ := lstOf_rep S hy h1
          subst q1
          rw [boolsOf_rep hb q3] at q2
          exact ⟨a, bs, e1, q2, p.here S rfl⟩
        · exact p.elim
      · exact p.elim
    · exact p.elim
theorem de_isR {T : Addr} {b : Bool} (hl : L2C.Held X C a dd oe od y) (E : ExcC X.K C) (hk : PySem.W.kitOne X.K (.ref C) (.ref T) = some b) (hm : X.mg "isinstance" = none) (hmt : X.mg x = some (.ref T))
    (he : PE X e (tE X.K g W d)) (hg : Gl X "isinstance" := by rfl) (hgt : Gl X x := by rfl) (hdb : (x == ("__debug__" : Str)) = false := by decide)
    (hs : starEach [e, .Name x tp] X.env = (false, eval e X.env) :: starEach [.Name x tp] X.env := by rfl) (hs2 : starEach [.Name x tp] X.env = (false, eval (.Name x tp) X.env) :: starEach [] X.env := by rfl) (hpl : (backTo pos (starEach [.Name x tp] X.env)).any (·.1) = false := by rfl) :
    PE X (.Call (.Name "isinstance" p) [e, .Name x tp] [] pos) (tE X.K g W (dIsE a b d)) := by
  refine pe_imp (pe_callB (call_isR hl E) hg hm PyProof.Rows.boot_isinstance (pa_cons he (pa_cons (pe_glob (v := .ref T) hgt hmt rfl hdb) pa_nil hs2) hs) (by decide) (by decide) hs hpl) fun σ H Q ⟨φ, ρ, h, S, E, q⟩ => ?_
  refine ⟨φ, ρ, h, S, E, Post.bind q fun φ1 H1 x h1 v le1 S1 r1 p1 => ?_⟩
  split at p1
  · split at p1
    · rename_i hc
      subst hc
      cases (show v = .ref _ from r1)
      exact ⟨_, .ref T, b, rfl, fun u r => r, hk, p1.here S1 rfl⟩
    · exact p1.elim
  · exact p1.elim
theorem de_isRB {b : Bool} {t : String} (hl : L2C.Held X C a dd oe od y) (E : ExcC X.K C) (hk : PySem.W.kitOne X.K (.ref C) (.type t) = some b) (hm : X.mg "isinstance" = none) (hmt : X.mg x = none) (hv : bootBuiltins x = some (.type t))
    (he : PE X e (tE X.K g W d)) (hg : Gl X "isinstance" := by rfl) (hgt : Gl X x := by rfl) (hn : x ≠ "__name__" := by decide) (hdb : (x == ("__debug__" : Str)) = false := by decide)
    (hs : starEach [e, .Name x tp] X.env = (false, eval e X.env) :: starEach [.Name x tp] X.env := by rfl) (hs2 : starEach [.Name x tp] X.env = (false, eval (.Name x tp) X.env) :: starEach [] X.env := by rfl) (hpl : (backTo pos (starEach [.Name x tp] X.env)).any (·.1) = false := by rfl) :
    PE X (.Call (.Name "isinstance" p) [e, .Name x tp] [] pos) (tE X.K g W (dIsE a b d)) := by
  refine pe_imp (pe_callB (call_isR hl E) hg hm PyProof.Rows.boot_isinstance (pa_cons he (pa_cons (pe_bltn (v := .ty t) hgt hmt hv rfl hn hdb) pa_nil hs2) hs) (by decide) (by decide) hs hpl) fun σ H Q ⟨φ, ρ, h, S, E, q⟩ => ?_
  refine ⟨φ, ρ, h, S, E, Post.bind q fun φ1 H1 x h1 v le1 S1 r1 p1 => ?_⟩
  split at p1
  · split at p1
    · rename_i hc
      subst hc
      cases (show v = .ref _ from r1)
      exact ⟨_, .type t, b, rfl, fun u r => r, hk, p1.here S1 rfl⟩
    · exact p1.elim
  · exact p1.elim
theorem de_rowF {k : Int} (hl : L2C.Held X C a dd oe od (.int k)) (E : ExcC X.K C) (hno : PySem.W.findIn X.K (.ref C) "row" = some none) (he : PE X e (tE X.K g W d)) (hb : attributeBase e "row" X.env (eval e X.env) = eval e X.env := by rfl) :
    PE X (.Attribute e "row" pos) (tE X.K g W (dRowF a k d)) := by
  refine ⟨fun pins s σ H Q I h => ?_⟩
  obtain ⟨φ, ρ, h, S, E0, q⟩ := h
  refine attr_of hb (thn (he.run pins s σ H (fun x H1 => x = .ref a ∧ Q (.int k) H1) I ⟨φ, ρ, h, S, E0, Post.bind q fun φ1 H1 x h1 v le1 S1 r1 p1 => ?_⟩) fun u s1 hh => ?_)
  · split at p1
    · split at p1
      · rename_i hc
        subst hc
        exact ⟨r1, p1.here S1 rfl⟩
      · exact p1.elim
    · exact p1.elim
  · obtain ⟨x, H1, I1, rx, ex, q⟩ := hh
    subst ex
    obtain rfl : u = Value.ref a := rx
    obtain ⟨hget, _⟩ := I1.pin (a, oe) (List.mem_append_left _ hl.pe)
    obtain ⟨hgd, _⟩ := I1.pin (dd, od) (List.mem_append_left _ hl.pd)
    obtain ⟨vs, hv⟩ := hl.fld
    have J : PySem.W.InstAt s1.heap a oe C (some od) := ⟨hget, hl.cls, by unfold PySem.W.notCls; rw [hv] <;> rfl, by rw [hl.dct]; exact hgd⟩
    obtain ⟨u, hu, ru⟩ := hl.row
    exact HandSPX.exc_get I1.kIn J E.hg E.hk E.hs (PySem.W.findObj_own E.hd hno rfl hu) (handed_of ru) ⟨_, H1, I1.tok _, ru, q⟩
end
section
variable {X : Cx} {g : Nat → Addr} {W : WX}
theorem ds_tryR (c0 : Nat) {y : Str} {body suite orelse : List Stmt} {b₀ : Stmt} {np pos pos' : Pos} {db dh du : DS} {Cy : Addr}
    (hc : Names X y (.ref Cy)) (hk : PySem.W.exmOne X.K (.ref (g c0)) (.ref Cy) = some true) (hpa : ∀ hd : Option Value, PassesOwnAt (model X.prog X.w) (X.A.mark hd) X.A X.env X.xe) (tk : L2C.Takes X W)
    (hb : ∀ (W' : WX) (pn : List (Addr × Obj)) (xe : Value → Shared → Prop), L2N.Takes (X.tr pn xe) W' → PassesOwn (model X.prog X.w) X.A X.env xe → PSs (X.tr pn xe) body (tS X.K g W' db))
    (hsu : ∀ (a : Addr) (oe : Obj) (pn : List (Addr × Obj)), L2C.Takes (L2H.suiteX X a ((a, oe) :: pn)) W → L2H.HotC (L2H.suiteX X a ((a, oe) :: pn)) → PSs (L2H.suiteX X a ((a, oe) :: pn)) (b₀ :: suite) (tS X.K g W dh))
    (ho : PSs X orelse (tS X.K g W du))
    (hs : X.stack = X.env :: X.outer := by rfl) (hf : X.env.frame = some X.env.locals := by rfl) :
    PS X (.Try body [.ExceptHandler (some (.Name y np)) none (b₀ :: suite) pos'] orelse [] pos) (tS X.K g W (dTryR c0 db dh du)) := by
  refine ps_imp (L2C.ps_try_onlyR (tb := fun W' => tS X.K g W' db) (ts := fun a cls d => tS X.K g W dh) ho hs hf hc hpa tk hb (fun a oe cls d pn _ _ t2 hot => hsu a oe pn t2 hot)) fun B σ H ⟨φ, ρ, h, S, E, q⟩ => ?_
  refine ⟨φ, ρ, h, S, E, ?_⟩
  unfold dTryR at q
  cases z : db ρ h with
  | nx ρ' h' =>
    rw [z] at q
    exact fun φ2 H2 σ2 l S E => ⟨φ2, ρ', h', S, E, PostS.mono l q⟩
  | rt x h' => rw [z] at q; exact q
  | bk ρ' h' => rw [z] at q; exact q
  | ct ρ' h' => rw [z] at q; exact q
  | no => rw [z] at q; exact q
  | ex ee ρ' h' =>
    rw [z] at q
    cases ee with
    | row c k => exact q.elim
    | own c o =>
      cases o with
      | some n => exact q.elim
      | none =>
        simp only [] at q
        by_cases kc : c = c0
        · rw [if_pos kc] at q
          subst kc
          intro φ2 H2 σ2 cls d l S2 E2 rx
          obtain ⟨r1, r2⟩ := rx
          subst r1 r2
          exact ⟨hk, fun a ha => ⟨φ2, ρ', h', S2, E2, PostS.mono l q⟩⟩
        · rw [if_neg kc] at q; exact q.elim
theorem ds_tryC (i : Nat) (c0 : Nat) {y n : Str} {body suite : List Stmt} {b₀ : Stmt} {np pos pos' : Pos} {db : DS} {sts : Addr → Int → DS} (hnd : Int → Hv → SR) {Cy : Addr}
    (hN : X.N.Nodup) (hc : Names X y (.ref Cy)) (hk : PySem.W.exmOne X.K (.ref (g c0)) (.ref Cy) = some true)
    (hb : ∀ (W' : WX) (pn : List (Addr × Obj)) (xe : Value → Shared → Prop), L2C.Takes (X.tr pn xe) W' → PassesOwn (model X.prog X.w) X.A X.env xe → PSs (X.tr pn xe) body (tS X.K g W' db))
    (hsu : ∀ (a dd : Addr) (oe od : Obj) (k : Int) (pn : List (Addr × Obj)), L2C.Held (X.suite a ((a, oe) :: pn)) (g c0) a dd oe od (.int k) → PSs (X.suite a ((a, oe) :: pn)) (b₀ :: suite) (tS X.K g W (sts a k)))
    (hu : ∀ (a : Addr) (k : Int) (ρ : Sl) (h : Hv), ρ.length = X.N.length → sts a k (ρ.set i (some (.adr a))) h = hnd k h)
    (hr : ∀ (k : Int) (h : Hv), (∃ x h', hnd k h = .rt x h') ∨ hnd k h = .no)
    (hs : X.stack = X.env :: X.outer := by rfl) (hf : X.env.frame = some X.env.locals := by rfl) (hi : X.N[i]? = some n := by rfl) (hln : X.env.kindOf n = some .local := by rfl) :
    PS X (.Try body [.ExceptHandler (some (.Name y np)) (some n) (b₀ :: suite) pos'] [] [] pos) (tS X.K g W (dTryC c0 db hnd)) := by
  refine ps_imp (L2C.ps_try_row (i := i) (tb := fun W' => tS X.K g W' db)
    (ts := fun a C y D σ H => ∃ (k : Int) (ρ : Sl) (φ : List Addr) (h : Hv), C = g c0 ∧ y = .int k ∧ Sim X.K g φ h H ∧ EnvR X.K φ H (ρ.set i (some (.adr a))) σ ∧ PostS X.K g W D φ H (hnd k h)) hs hf hN hi hln hc hb (fun a C dd oe od y pn hel => ?_)) fun B σ H ⟨φ, ρ, h, S, E, q⟩ => ?_
  · constructor
    intro pins s σ H D I ⟨k, ρ, φ, h, e1, e2, S, E, p⟩
    subst e1 e2
    refine (hsu a dd oe od k pn hel).run pins s σ H D I ⟨φ, ρ.set i (some (.adr a)), h, S, E, ?_⟩
    rw [hu a k ρ h (by have := E.1; rw [List.length_set] at this; rw [this]; exact I.len)]
    exact p
  · refine ⟨φ, ρ, h, S, E, ?_⟩
    unfold dTryC at q
    cases z : db ρ h with
    | nx ρ' h' => rw [z] at q; exact q
    | rt x h' => rw [z] at q; exact q
    | bk ρ' h' => rw [z] at q; exact q
    | ct ρ' h' => rw [z] at q; exact q
    | no => rw [z] at q; exact q
    | ex ee ρ' h' =>
      rw [z] at q
      cases ee with
      | own c o => exact q.elim
      | row c k =>
        simp only [] at q
        by_cases kc : c = c0
        · rw [if_pos kc] at q
          subst kc
          intro φ2 H2 σ2 cls d l S2 E2 rx
          obtain ⟨r1, dd, r2, r3, r4⟩ := rx
          refine ⟨_, dd, .int k, r1, r2, r3, by rw [← r1] at hk; exact hk, fun a ha => ⟨k, ρ', φ2, h', rfl, rfl, S2.del r3 r4, (E2.mono (Le.del r3)).set i (show Rep X.K φ2 _ (.adr a) (.ref a) from rfl), ?_⟩⟩
          rcases hr k h' with ⟨x, h'', e⟩ | e
          · rw [e] at q ⊢
            exact PostS.retOnly (W := W) (B := B) rfl (PostS.mono (l.trans (Le.del r3)) q)
          · rw [e] at q; exact q.elim
        · rw [if_neg kc] at q; exact q.elim
end
/-! ### defs that may raise where another exception is handled -/
structure Dc (P : Program) (w : World) (K : PySem.W.Frag) (mg : Str → Option Value) (base : Heap) (g : Nat → Addr) (x : Str) (k n : Nat) (ps : List Str) (F : FD) : Prop where
  ex : ∃ f fd, mg x = some (.ref f) ∧ PySem.W.keepIn K (.ref f) = true ∧ Binds K fd ps [] ∧ FnG P w K mg base (L2C.CX P w) k f fd ps (spD K g n F)
  ar : Ar n F
/-- BadRow -/
def RowD (P : Program) (w : World) (K : PySem.W.Frag) (mg : Str → Option Value) (base : Heap) (C : Addr) : Prop := ∃ (CN : Addr) (fI : Addr) (mc : Value) (fd : FuncData), L2C.RowT K mg C CN fI mc ∧ Binds K fd ["self", "row"] [] ∧
  FnOk P w K mg base CX0 1 fI fd ["self", "row"] (L2C.spRow C) ∧ L2H.FnH P w K mg base CX0 1 fI fd ["self", "row"] (L2C.spRow C)
section
variable {X : Cx} {g : Nat → Addr} {W : WX} {k n : Nat} {ps : List Str} {F : FD} {x : Str} {p pos pos' : Pos} {e : Expr} {es : List Expr} {da : DA} {de : DE} {c : Nat}
theorem Dc.pe (h : Dc X.prog X.w X.K X.mg X.base g x k n ps F) (hr : Room k X.A) (hgd : X.A.guards = some []) (tk : L2C.Takes X W) (ha : PA X (e :: es) (tA X.K g W da)) (hg : Gl X x := by rfl) (hdb : (x == ("__debug__" : Str)) = false := by decide)
    (he : starEach (e :: es) X.env = (false, eval e X.env) :: starEach es X.env := by rfl) (hpl : (backTo pos (starEach es X.env)).any (·.1) = false := by rfl) : PE X (.Call (.Name x p) (e :: es) [] pos) (tE X.K g W (dCall F da)) := by
  obtain ⟨f, fd, h1, h2, h3, h4⟩ := h.ex
  refine pe_imp (pe_callG h4 hr hgd h1 h2 h3 (fun σ => L2C.passAt tk σ) ha hg hdb he hpl) fun σ H Q ⟨φ, ρ, h', S, E, q⟩ => ?_
  refine ⟨φ, ρ, h', S, E, Post.bind q fun φ1 H1 xs h1 vs le1 S1 r1 p1 => ?_⟩
  exact spD_of S1 r1 (h.ar.len r1 p1) p1
theorem ds_rowD (h : RowD X.prog X.w X.K X.mg X.base (g c)) (hr : Room 2 X.A) (hc : X.calm = true) (tk : L2N.Takes X W)
    (he : PE X e (tE X.K g W de)) (hg : Gl X "BadRow" := by rfl) (hs : starEach [e] X.env = (false, eval e X.env) :: starEach [] X.env := by rfl) (hpl : (backTo pos (starEach [] X.env)).any (·.1) = false := by rfl) :
    PS X (.Raise (some (.Call (.Name "BadRow" p) [e] [] pos)) none pos') (tS X.K g W (dRow c de)) := by
  obtain ⟨CN, fI, mc, fd, T, b, F1, F2⟩ := h
  exact ds_row CN mc T F1 hr b hc tk he hg hs hpl
theorem ds_rowDH (h : RowD X.prog X.w X.K X.mg X.base (g c)) (hr : L2H.RoomH 2 X.A) (hc : L2H.HotC X) (tk : L2C.Takes X W)
    (he : PE X e (tE X.K g W de)) (hg : Gl X "BadRow" := by rfl) (hs : starEach [e] X.env = (false, eval e X.env) :: starEach [] X.env := by rfl) (hpl : (backTo pos (starEach [] X.env)).any (·.1) = false := by rfl) :
    PS X (.Raise (some (.Call (.Name "BadRow" p) [e] [] pos)) none pos') (tS X.K g W (dRow c de)) := by
  obtain ⟨CN, fI, mc, fd, T, b, F1, F2⟩ := h
  exact ds_rowH CN mc T F2 hr b hc tk he hg hs hpl
theorem roomH_suite {k : Nat} {a : Addr} {pn : List (Addr × Obj)} (r : Room k X.A) : L2H.RoomH k (L2H.suiteX X a pn).A := ⟨r.dp, r.un⟩
end
section
variable {P : Program} {w : World} {K : PySem.W.Frag} {mg : Str → Option Value} {base : Heap} {g : Nat → Addr} {x qual : Str} {st : Stmt} {f : Addr} {fd : FuncData} {k n c : Nat} {ps N : List Str} {d : DS}
theorem fnDC (F : Fun K x qual st f fd) (S : FnScope N ps (defScope st)) (hn : ps.length = n)
    (hb : ∀ (cd : Value) (A : Around) (ou : List PySem.Env) (s : Shared) (H : Hp) (E : XK), Room k (A.deeper (envOfC qual (defScope st) s.heap.objs.size f cd)) → (A.deeper (envOfC qual (defScope st) s.heap.objs.size f cd)).guards = some [] →
      PSs (cxOf (L2C.CX P w) P w K mg base N qual (defScope st) f cd A ou s H E) (defBody st) (tS K g (fun c d _ H' => E c d H') d)) :
    FnG P w K mg base (L2C.CX P w) (k + 1) f fd ps (spD K g n (runD N n d)) := by
  refine fn_g F S (fun vs H Q E h => h.1.trans hn.symm) fun cd A ou s H vs Q E hr hg h => ?_
  refine ⟨_, hb cd A ou s H E hr (by rw [deeper_g]; exact hg), ?_⟩
  obtain ⟨hl, φ, xs, hv, Si, r, p⟩ := h
  refine ⟨φ, startD N xs, hv, Si, start_env r, post_fin ?_⟩
  unfold runD at p
  rw [if_pos (by rw [← RepL.length r]; exact hl)] at p
  exact p
theorem Dc.mk' (hm : mg x = some (.ref f)) (F : Fun K x qual st f fd) (b : Binds K fd ps []) (G : FnG P w K mg base (L2C.CX P w) k f fd ps (spD K g n (runD N n d))) : Dc P w K mg base g x k n ps (runD N n d) :=
  ⟨⟨f, fd, hm, F.kp, b, G⟩, ar_run⟩
end
end DL

set_option Elab.async false
set_option linter.all false
set_option autoImplicit false
set_option maxRecDepth 100000
set_option maxHeartbeats 2000000
/-! a text so many times; what a suite says of an exception with a row; BadRow's __init__. -/
namespace DL
open PySem PySem.Spec PyProof.Rows L2
def fMulS : F2
  | .str a, .int k, h => if 0 ≤ k ∧ k ≤ 5000 ∧ a.length * k.toNat ≤ cap then .ok (.str (Txt.mul a k)) h else .no
  | _, _, _ => .no
theorem mul_fine {a : Str} {k : Int} (h : 0 ≤ k ∧ k ≤ 5000 ∧ a.length * k.toNat ≤ cap) : MulOk a k := by
  obtain ⟨h1, h2, h3⟩ := h
  refine ⟨by simp only [Bool.or_eq_false_iff, decide_eq_false_iff_not]; exact ⟨by omega, by omega⟩, fun p q z => ?_, fun p q => ?_⟩
  · have c : cap ≤ 2 ^ 40 := by decide
    have k1 : 1 ≤ k := by omega
    have e : (a.length : Int) * k ≤ 2 ^ 63 - 1 := by
      have e1 : ((a.length * k.toNat : Nat) : Int) = (a.length : Int) * k := by
        rw [Int.natCast_mul, Int.toNat_of_nonneg h1]
      rw [← e1]
      have : a.length * k.toNat ≤ 2 ^ 40 := Nat.le_trans h3 c
      omega
    have := Int.le_ediv_of_mul_le (show 0 < k by omega) e
    omega
  · unfold Builtin.Str.tooLong
    exact decide_eq_false (Nat.not_lt.mpr (cap_le h3))
theorem op_mulS {X : Cx} : OpR X (binaryOp .Mult) (fun x y H Q => ∃ i k, x = .str i ∧ y = .int k ∧ MulOk i k ∧ Q (.str (Txt.mul i k)) H) := by
  intro pins s σ H x y v u Q I rx ry h
  obtain ⟨i, k, rfl, rfl, hz, q⟩ := h
  obtain ⟨t, rfl⟩ := rx
  obtain ⟨t', rfl⟩ := ry
  exact SB.mul hz (fun t' tk => ⟨.str (Txt.mul i k), H, I.tok _, ⟨_, rfl⟩, q⟩)
theorem o_mulS {X : Cx} {g : Nat → Addr} : OpD X g (binaryOp .Mult) fMulS := by
  refine ⟨_, op_mulS, fun W σ φ H h x y v u Q S rx ry p => ?_⟩
  unfold fMulS at p
  split at p
  · split at p
    · rename_i hc
      exact ⟨_, _, rx, ry, mul_fine hc, p.here S rfl⟩
    · exact p.elim
  · exact p.elim
theorem refS2_is {a : Addr} {k : Int} {i o : Nat} {ρ : Sl} {h : Hv} (ne : i ≠ o) (hi : i < ρ.length) (ho : o < ρ.length) :
    (dSeq (dSet o (dLst (aCons (dIsE a false (dVar i)) (aCons (dIsE a false (dVar i)) (aCons (dIsE a false (dVar i)) aNil)))))
    (dSeq (dSet o (dOp fAdd (dVar o) (dLst (aCons (dIsE a false (dVar i)) (aCons (dIsE a false (dVar i)) aNil)))))
    (dSeq (dIf (dOr (dB (dCall bAny (aCons (dVar o) aNil))) (dOr (dNot (dB (dIsE a true (dVar i)))) (dNot (dB (dIsE a true (dVar i)))))) (dRet (dNeg (dC (.int 1)))) dNx)
    (dRet (dRowF a k (dVar i)))))) (ρ.set i (some (.adr a))) h =
      .rt (.int k) (h ++ [.lst [.bl false, .bl false, .bl false], .lst [.bl false, .bl false], .lst [.bl false, .bl false, .bl false, .bl false, .bl false]]) := by
  have r1 : (ρ.set i (some (D.adr a)))[i]? = some (some (.adr a)) := by rw [List.getElem?_set_self hi]
  have r2 : ∀ x, ((ρ.set i (some (D.adr a))).set o x)[i]? = some (some (.adr a)) := fun x => by rw [List.getElem?_set_ne ne.symm]; exact r1
  have r3 : ∀ x, ((ρ.set i (some (D.adr a))).set o x)[o]? = some x := fun x => by rw [List.getElem?_set_self (by simpa using ho)]
  have r4 : ∀ x y, (((ρ.set i (some (D.adr a))).set o x).set o y)[i]? = some (some (.adr a)) := fun x y => by rw [List.getElem?_set_ne ne.symm]; exact r2 x
  have r5 : ∀ x y, (((ρ.set i (some (D.adr a))).set o x).set o y)[o]? = some y := fun x y => by rw [List.getElem?_set_self (by simpa using ho)]
  generalize hA : h ++ [O.lst [D.bl false, .bl false, .bl false]] = A
  have lA : lstAt A h.length = some [D.bl false, .bl false, .bl false] := by rw [← hA]; exact lst_new
  generalize hB : A ++ [O.lst [D.bl false, .bl false]] = B
  have pB : A <+: B := by rw [← hB]; exact pre_app
  have lB : lstAt B A.length = some [D.bl false, .bl false] := by rw [← hB]; exact lst_new
  have ad : fAdd (.ref h.length) (.ref A.length) B = .ok (.ref B.length) (B ++ [.lst [.bl false, .bl false, .bl false, .bl false, .bl false]]) := by
    simp only [fAdd, lst_get.mp (lst_pre pB lA), lst_get.mp lB]
    rw [if_pos (show [D.bl false, .bl false, .bl false].length + [D.bl false, .bl false].length ≤ cap from (by decide : 3 + 2 ≤ cap))]; rfl
  generalize hC : B ++ [O.lst [D.bl false, .bl false, .bl false, .bl false, .bl false]] = C at ad
  have lC : lstAt C B.length = some [D.bl false, .bl false, .bl false, .bl false, .bl false] := by rw [← hC]; exact lst_new
  have an : bAny [.ref B.length] C = .ok (.bl false) C := by
    have : bAll.lstOf C (.ref B.length) = some [D.bl false, .bl false, .bl false, .bl false, .bl false] := lC
    simp only [bAny, this, boolsOf]
    rfl
  have fin : h ++ [O.lst [D.bl false, .bl false, .bl false], O.lst [D.bl false, .bl false], O.lst [D.bl false, .bl false, .bl false, .bl false, .bl false]] = C := by
    rw [← hC, ← hB, ← hA, List.append_assoc, List.append_assoc]; rfl
  rw [fin]
  have rf : ∀ ρ' : Sl, ρ'[i]? = some (some (.adr a)) → dRowF a k (dVar i) ρ' C = .ok (.int k) C := fun ρ' e => by
    unfold dRowF
    rw [var_ap, e, getV_some, R.bind_ok]
    exact if_pos rfl
  simp only [seq_ap, set_ap, lst_ap, cons_ap, isE_ap, var_ap, r1, getV_some, R.bind_ok, isEK_ap, coK1_ap, nil_ap, coK2_ap, lsK3, hA, SR.of_ok, seK_ap, SR.seq_nx, op_ap, r2, r3, opK_ap, lsK2, hB, ad, ret_ap, r4, r5, boolV_bl, call_ap, an, if_ap, or_ap, orK_ap, not_ap, notK_ap, b_ap, ifK_ap, nx_ap, Bool.not_true, if_false, Bool.false_eq_true, rf _ (r4 _ _)]
end DL

set_option Elab.async false
set_option linter.all false
set_option autoImplicit false
set_option maxRecDepth 100000
set_option pp.maxSteps 80
set_option maxHeartbeats 4000000
namespace K11
open PySem PySem.Spec PyProof.Rows L2 DL
def top (i : Nat) : Stmt := PySem.Challenge.pw_splitstream_k11_texts_misread.main.body.getD i (.Pass ⟨0, 0, 0, 0⟩)
abbrev c_MOST_PLACES : D := (.int 8)
abbrev c_MOST_PIPES : D := (.int 28)
abbrev c_GREATEST : D := (.int 1000000000)
abbrev c_FIGURES : D := (.str "0123456789")
abbrev s_BadRow_init : Stmt := inClass (top 8) 0
abbrev s_is_whole : Stmt := top 10
abbrev N_is_whole : List Str := ["number"]
abbrev P_is_whole : List Str := ["number"]
def d_is_whole : DS :=
    (dRet (dAndV (dIsi .int (dVar 0)) (dNotV (dIsi .bool (dVar 0)))))
def F_is_whole : FD := runD N_is_whole 1 d_is_whole
abbrev s_within : Stmt := top 11
abbrev N_within : List Str := ["number", "low", "high"]
abbrev P_within : List Str := ["number", "low", "high"]
def d_within : DS :=
    (dRet (dAndV (dCall F_is_whole (aCons (dVar 0) aNil)) (dChain fLe fLe (dVar 1) (dVar 0) (dVar 2))))
def F_within : FD := runD N_within 3 d_within
abbrev s_common : Stmt := top 12
abbrev N_common : List Str := ["one", "other"]
abbrev P_common : List Str := ["one", "other"]
def d_common : DS :=
    (dSeq (dSet 0 (dCall bAbs (aCons (dVar 0) aNil)))
    (dSeq (dSet 1 (dCall bAbs (aCons (dVar 1) aNil)))
    (dSeq (dWhile (fuelI 1) (dB (dOp fNe (dVar 1) (dC (.int 0)))) (dPar 0 1 (aCons (dVar 1) (aCons (dOp fMod (dVar 0) (dVar 1)) aNil))))
    (dRet (dVar 0)))))
def F_common : FD := runD N_common 2 d_common
abbrev s_is_fraction : Stmt := top 13
abbrev N_is_fraction : List Str := ["thing"]
abbrev P_is_fraction : List Str := ["thing"]
def d_is_fraction : DS :=
    (dSeq (dIf (dOr (dNot (dB (dIsi .tuple (dVar 0)))) (dOr (dB (dOp fNe (dCall bLen (aCons (dVar 0) aNil)) (dC (.int 2)))) (dOr (dNot (dB (dCall F_is_whole (aCons (dIx (dVar 0) (dC (.int 0))) aNil)))) (dNot (dB (dCall F_is_whole (aCons (dIx (dVar 0) (dC (.int 1))) aNil))))))) (dRet (dC (.bl false))) dNx)
    (dRet (dAndV (dOp fGt (dIx (dVar 0) (dC (.int 1))) (dC (.int 0))) (dOp fEq (dCall F_common (aCons (dIx (dVar 0) (dC (.int 0))) (aCons (dIx (dVar 0) (dC (.int 1))) aNil))) (dC (.int 1))))))
def F_is_fraction : FD := runD N_is_fraction 1 d_is_fraction
abbrev s_is_pipe : Stmt := top 18
abbrev N_is_pipe : List Str := ["thing", "places"]
abbrev P_is_pipe : List Str := ["thing", "places"]
def d_is_pipe : DS :=
    (dSeq (dIf (dOr (dNot (dB (dIsi .tuple (dVar 0)))) (dB (dOp fNe (dCall bLen (aCons (dVar 0) aNil)) (dC (.int 3))))) (dRet (dC (.bl false))) dNx)
    (dSeq (dIf (dOr (dNot (dB (dCall F_within (aCons (dIx (dVar 0) (dC (.int 0))) (aCons (dC (.int 0)) (aCons (dOp fSub (dVar 1) (dC (.int 1))) aNil)))))) (dOr (dNot (dB (dCall F_within (aCons (dIx (dVar 0) (dC (.int 1))) (aCons (dC (.int 0)) (aCons (dOp fSub (dVar 1) (dC (.int 1))) aNil)))))) (dB (dOp fEq (dIx (dVar 0) (dC (.int 0))) (dIx (dVar 0) (dC (.int 1))))))) (dRet (dC (.bl false))) dNx)
    (dRet (dAndV (dCall F_is_fraction (aCons (dIx (dVar 0) (dC (.int 2))) aNil)) (dAndV (dChain fLe fLe (dC (.int 1)) (dIx (dIx (dVar 0) (dC (.int 2))) (dC (.int 0))) (dC c_GREATEST)) (dOp fLe (dIx (dIx (dVar 0) (dC (.int 2))) (dC (.int 1))) (dC c_GREATEST)))))))
def F_is_pipe : FD := runD N_is_pipe 2 d_is_pipe
abbrev s_Net_init : Stmt := inClass (top 19) 0
abbrev N_Net_init : List Str := ["self", "places", "pipes", "pipe"]
abbrev P_Net_init : List Str := ["self", "places", "pipes"]
def d_Net_init : DS :=
    (dSeq (dIf (dOr (dNot (dB (dCall F_within (aCons (dVar 1) (aCons (dC (.int 1)) (aCons (dC c_MOST_PLACES) aNil)))))) (dOr (dNot (dB (dIsi .list (dVar 2)))) (dB (dOp fGt (dCall bLen (aCons (dVar 2) aNil)) (dC c_MOST_PIPES))))) (dRaise 12) dNx)
    (dSeq (dFor (diOf (dVar 2)) (gN 3) (dIf (dNot (dB (dCall F_is_pipe (aCons (dVar 3) (aCons (dVar 1) aNil))))) (dRaise 12) dNx))
    (dSeq (dPut 0 "size" (dVar 0) (dVar 1))
    (dPut 0 "rows" (dVar 0) (dCall bList (aCons (dVar 2) aNil))))))
def F_Net_init : FD := runD N_Net_init 3 d_Net_init
abbrev s_number_in : Stmt := top 22
abbrev N_number_in : List Str := ["text"]
abbrev P_number_in : List Str := ["text"]
def d_number_in : DS :=
    (dSeq (dIf (dOr (dNot (dB (dChain fLe fLe (dC (.int 1)) (dCall bLen (aCons (dVar 0) aNil)) (dC (.int 10))))) (dOr (dB (dOp fNe (dT1 tStrip (dVar 0) (dC c_FIGURES)) (dC (.str "")))) (dAnd (dB (dT1 tStarts (dVar 0) (dC (.str "0")))) (dB (dOp fNe (dVar 0) (dC (.str "0"))))))) (dRet (dNeg (dC (.int 1)))) dNx)
    (dRet (dCall bIntS (aCons (dVar 0) aNil))))
def F_number_in : FD := runD N_number_in 1 d_number_in
abbrev s_fraction_in : Stmt := top 23
abbrev N_fraction_in : List Str := ["text", "first", "stroke", "second", "found"]
abbrev P_fraction_in : List Str := ["text"]
def d_fraction_in : DS :=
    (dSeq (dAsg (dT1 tPart (dVar 0) (dC (.str "/"))) (gT 3 (gsCons (gN 1) (gsCons (gN 2) (gsCons (gN 3) gsNil)))))
    (dSeq (dSet 4 (dTup (aCons (dCall F_number_in (aCons (dVar 1) aNil)) (aCons (dC (.int 1)) aNil))))
    (dSeq (dIf (dB (dOp fNe (dVar 2) (dC (.str "")))) (dSeq (dSet 4 (dTup (aCons (dCall F_number_in (aCons (dVar 1) aNil)) (aCons (dCall F_number_in (aCons (dVar 3) aNil)) aNil))))
    (dIf (dB (dOp fLt (dIx (dVar 4) (dC (.int 1))) (dC (.int 2)))) (dRet (dC .non)) dNx)) dNx)
    (dSeq (dIf (dOr (dB (dOp fLt (dIx (dVar 4) (dC (.int 0))) (dC (.int 0)))) (dNot (dB (dCall F_is_fraction (aCons (dVar 4) aNil))))) (dRet (dC .non)) dNx)
    (dRet (dVar 4))))))
def F_fraction_in : FD := runD N_fraction_in 1 d_fraction_in
abbrev s_pipe_in : Stmt := top 24
abbrev N_pipe_in : List Str := ["text", "words", "one", "dash", "other", "hardness"]
abbrev P_pipe_in : List Str := ["text"]
def d_pipe_in : DS :=
    (dSeq (dSet 1 (dT1 tSplit (dVar 0) (dC (.str " "))))
    (dSeq (dIf (dB (dOp fNe (dCall bLen (aCons (dVar 1) aNil)) (dC (.int 2)))) (dRet (dC .non)) dNx)
    (dSeq (dAsg (dT1 tPart (dIx (dVar 1) (dC (.int 0))) (dC (.str "-"))) (gT 3 (gsCons (gN 2) (gsCons (gN 3) (gsCons (gN 4) gsNil)))))
    (dSeq (dSet 5 (dCall F_fraction_in (aCons (dIx (dVar 1) (dC (.int 1))) aNil)))
    (dSeq (dIf (dOr (dB (dOp fEq (dVar 3) (dC (.str "")))) (dOr (dB (dOp fIs (dVar 5) (dC .non))) (dOr (dB (dOp fLt (dCall F_number_in (aCons (dVar 2) aNil)) (dC (.int 0)))) (dB (dOp fLt (dCall F_number_in (aCons (dVar 4) aNil)) (dC (.int 0))))))) (dRet (dC .non)) dNx)
    (dRet (dTup (aCons (dCall F_number_in (aCons (dVar 2) aNil)) (aCons (dCall F_number_in (aCons (dVar 4) aNil)) (aCons (dVar 5) aNil))))))))))
def F_pipe_in : FD := runD N_pipe_in 1 d_pipe_in
abbrev s_net_of : Stmt := top 25
abbrev N_net_of : List Str := ["places", "pipes", "row", "net"]
abbrev P_net_of : List Str := ["places", "pipes", "row"]
def d_net_of : DS :=
    (dTryR 12 (dSet 3 (dMake 0 F_Net_init (aCons (dVar 0) (aCons (dVar 1) aNil)))) (dRow 16 (dVar 2)) (dRet (dVar 3)))
def F_net_of : FD := runD N_net_of 3 d_net_of
abbrev s_read : Stmt := top 26
abbrev N_read : List Str := ["text", "rows", "word", "blank", "number", "pipes", "net", "k", "pipe"]
abbrev P_read : List Str := ["text"]
def d_read : DS :=
    (dSeq (dSet 1 (dT1 tSplit (dVar 0) (dC (.str "\n"))))
    (dSeq (dAsg (dT1 tPart (dIx (dVar 1) (dC (.int 0))) (dC (.str " "))) (gT 3 (gsCons (gN 2) (gsCons (gN 3) (gsCons (gN 4) gsNil)))))
    (dSeq (dIf (dOr (dB (dOp fNe (dVar 2) (dC (.str "places")))) (dB (dOp fEq (dVar 3) (dC (.str ""))))) (dRow 16 (dC (.int 1))) dNx)
    (dSeq (dSet 5 (dLst aNil))
    (dSeq (dSet 6 (dCall F_net_of (aCons (dCall F_number_in (aCons (dVar 4) aNil)) (aCons (dVar 5) (aCons (dC (.int 1)) aNil)))))
    (dSeq (dFor (diRng2 (dC (.int 1)) (dCall bLen (aCons (dVar 1) aNil))) (gN 7) (dSeq (dSet 8 (dCall F_pipe_in (aCons (dIx (dVar 1) (dVar 7)) aNil)))
    (dSeq (dIf (dB (dOp fIs (dVar 8) (dC .non))) (dRow 16 (dOp fAdd (dVar 7) (dC (.int 1)))) dNx)
    (dSeq (dDrop (dMl mAppend (dVar 5) (aCons (dVar 8) aNil)))
    (dSet 6 (dCall F_net_of (aCons (dFld 0 "size" (dVar 6)) (aCons (dVar 5) (aCons (dOp fAdd (dVar 7) (dC (.int 1))) aNil)))))))))
    (dRet (dVar 6))))))))
def F_read : FD := runD N_read 1 d_read
abbrev s_law_cell_at : Stmt := top 28
abbrev N_law_cell_at : List Str := ["_law_script", "_law_k"]
abbrev P_law_cell_at : List Str := ["_law_script", "_law_k"]
def d_law_cell_at : DS :=
    (dSeq (dIf (dB (dOp fLt (dVar 1) (dCall bLen (aCons (dVar 0) aNil)))) (dRet (dIx (dVar 0) (dVar 1))) dNx)
    (dRet (dC (.int 0))))
def F_law_cell_at : FD := runD N_law_cell_at 2 d_law_cell_at
abbrev s_law_draw : Stmt := top 29
abbrev N_law_draw : List Str := ["_law_cell", "_law_k", "_law_many", "_law_primes", "_law_blend"]
abbrev P_law_draw : List Str := ["_law_cell", "_law_k", "_law_many"]
def d_law_draw : DS :=
    (dSeq (dSet 3 (dTup (aCons (dC (.int 1000003)) (aCons (dC (.int 1000033)) (aCons (dC (.int 1000037)) (aCons (dC (.int 1000039)) (aCons (dC (.int 1000081)) (aCons (dC (.int 1000099)) (aCons (dC (.int 1000117)) (aCons (dC (.int 1000121)) aNil))))))))))
    (dSeq (dSet 4 (dOp fAdd (dOp fAdd (dOp fMul (dVar 0) (dC (.int 48271))) (dOp fMul (dVar 1) (dC (.int 69621)))) (dOp fMul (dOp fMod (dOp fDiv (dVar 0) (dC (.int 1000003))) (dC (.int 1000003))) (dC (.int 40692)))))
    (dRet (dOp fMod (dOp fMod (dVar 4) (dIx (dVar 3) (dOp fMod (dVar 1) (dC (.int 8))))) (dVar 2)))))
def F_law_draw : FD := runD N_law_draw 3 d_law_draw
abbrev s_law_refused : Stmt := top 30
abbrev N_law_refused : List Str := ["_law_text", "error", "_law_others"]
abbrev P_law_refused : List Str := ["_law_text"]
def hs_law_refused (a : Addr) (k : Int) : DS :=
    (dSeq (dSet 2 (dLst (aCons (dIsE a false (dVar 1)) (aCons (dIsE a false (dVar 1)) (aCons (dIsE a false (dVar 1)) aNil)))))
    (dSeq (dSet 2 (dOp fAdd (dVar 2) (dLst (aCons (dIsE a false (dVar 1)) (aCons (dIsE a false (dVar 1)) aNil)))))
    (dSeq (dIf (dOr (dB (dCall bAny (aCons (dVar 2) aNil))) (dOr (dNot (dB (dIsE a true (dVar 1)))) (dNot (dB (dIsE a true (dVar 1)))))) (dRet (dNeg (dC (.int 1)))) dNx)
    (dRet (dRowF a k (dVar 1))))))
def hn_law_refused (k : Int) (h : Hv) : SR := hs_law_refused 0 k ((List.replicate 3 none).set 1 (some (.adr 0))) h
def d_law_refused : DS :=
    (dSeq (dTryC 16 (dDrop (dCall F_read (aCons (dVar 0) aNil))) hn_law_refused)
    (dRet (dC (.int 0))))
def F_law_refused : FD := runD N_law_refused 1 d_law_refused
abbrev s_law_more : Stmt := top 32
abbrev N_law_more : List Str := []
abbrev P_law_more : List Str := []
def d_law_more : DS :=
    (dRet (dLst (aCons (dC (.str "0-1 1/02")) (aCons (dC (.str "0-01 1")) (aCons (dC (.str "0-1 1_0")) (aCons (dOp fAdd (dC (.str "0-1 ")) (dOp fMulS (dC (.str "9")) (dC (.int 4000)))) aNil))))))
def F_law_more : FD := runD N_law_more 0 d_law_more
abbrev s_law_bad_pipe : Stmt := top 31
abbrev N_law_bad_pipe : List Str := ["_law_way", "_law_rows"]
abbrev P_law_bad_pipe : List Str := ["_law_way"]
def d_law_bad_pipe : DS :=
    (dSeq (dSet 1 (dLst (aCons (dC (.str "")) (aCons (dC (.str "0-1")) (aCons (dC (.str "0-1 ")) (aCons (dC (.str " 0-1 1")) (aCons (dC (.str "0-1  1")) (aCons (dC (.str "0-1 1 ")) (aCons (dC (.str "0 1 1")) (aCons (dC (.str "0-0 1")) (aCons (dC (.str "0-2 1")) (aCons (dC (.str "2-0 1")) (aCons (dC (.str "-1 1")) aNil)))))))))))))
    (dSeq (dSet 1 (dOp fAdd (dVar 1) (dLst (aCons (dC (.str "0- 1")) (aCons (dC (.str "01-1 1")) aNil)))))
    (dSeq (dSet 1 (dOp fAdd (dVar 1) (dLst (aCons (dC (.str "0-1 0")) (aCons (dC (.str "0-1 01")) (aCons (dC (.str "0-1 1000000001")) (aCons (dC (.str "0-1 2/4")) (aCons (dC (.str "0-1 3/1")) (aCons (dC (.str "0-1 1/1000000001")) aNil)))))))))
    (dSeq (dSet 1 (dOp fAdd (dVar 1) (dLst (aCons (dC (.str "0-1 1/0")) (aCons (dC (.str "0-1 -1")) (aCons (dC (.str "0-1 +1")) aNil))))))
    (dSeq (dSet 1 (dOp fAdd (dVar 1) (dLst (aCons (dC (.str "0-1\t1")) (aCons (dC (.str "0-1 1\t")) (aCons (dC (.str "x-1 1")) (aCons (dC (.str "0-1 1.5")) aNil)))))))
    (dRet (dIx (dOp fAdd (dOp fAdd (dVar 1) (dLst (aCons (dC (.str "0-1-1 1")) (aCons (dC (.str "0-1 1/2/3")) (aCons (dC (.str "0-1 /2")) (aCons (dC (.str "0-1 1/")) aNil)))))) (dCall F_law_more aNil)) (dVar 0))))))))
def F_law_bad_pipe : FD := runD N_law_bad_pipe 1 d_law_bad_pipe
abbrev s_law_bad_head : Stmt := top 33
abbrev N_law_bad_head : List Str := ["_law_way", "_law_rows"]
abbrev P_law_bad_head : List Str := ["_law_way"]
def d_law_bad_head : DS :=
    (dSeq (dSet 1 (dLst (aCons (dC (.str "places")) (aCons (dC (.str "places ")) (aCons (dC (.str "places 0")) (aCons (dC (.str "places 9")) (aCons (dC (.str "places 02")) (aCons (dC (.str "places x")) (aCons (dC (.str "Places 2")) (aCons (dC (.str " places 2")) (aCons (dC (.str "places  2")) aNil)))))))))))
    (dRet (dIx (dOp fAdd (dVar 1) (dLst (aCons (dC (.str "places 2 ")) (aCons (dC (.str "places\t2")) (aCons (dC (.str "2")) (aCons (dC (.str "places 2_")) aNil)))))) (dVar 0))))
def F_law_bad_head : FD := runD N_law_bad_head 1 d_law_bad_head
abbrev s_law : Stmt := top 34
abbrev N_law : List Str := ["_law_script", "_law_pipes", "_law_k", "_law_good", "_law_cell", "_law_place", "_law_odd", "_law_bad", "_law_many"]
abbrev P_law : List Str := ["_law_script"]
def d_law : DS :=
    (dSeq (dSet 1 (dLst aNil))
    (dSeq (dFor (diRng1 (dOp fMod (dCall F_law_cell_at (aCons (dVar 0) (aCons (dC (.int 0)) aNil))) (dC (.int 5)))) (gN 2) (dDrop (dMl mAppend (dVar 1) (aCons (dOp fAdd (dIx (dLst (aCons (dC (.str "0-1 ")) (aCons (dC (.str "1-0 ")) aNil))) (dOp fMod (dVar 2) (dC (.int 2)))) (dCall bStr (aCons (dOp fAdd (dC (.int 1)) (dCall F_law_draw (aCons (dCall F_law_cell_at (aCons (dVar 0) (aCons (dC (.int 0)) aNil))) (aCons (dVar 2) (aCons (dC (.int 1000)) aNil))))) aNil))) aNil))))
    (dSeq (dSet 3 (dOp fAdd (dLst (aCons (dC (.str "places 2")) aNil)) (dVar 1)))
    (dSeq (dIf (dB (dOp fNe (dCall F_law_refused (aCons (dJoin (dC (.str "\n")) (dVar 3)) aNil)) (dC (.int 0)))) (dRet (dC (.bl false))) dNx)
    (dSeq (dFor (diRng1 (dC (.int 4))) (gN 2) (dSeq (dSet 4 (dOp fAdd (dCall F_law_cell_at (aCons (dVar 0) (aCons (dC (.int 1)) aNil))) (dOp fMul (dC (.int 7)) (dVar 2))))
    (dSeq (dSet 5 (dOp fAdd (dC (.int 1)) (dCall F_law_draw (aCons (dCall F_law_cell_at (aCons (dVar 0) (aCons (dC (.int 2)) aNil))) (aCons (dVar 2) (aCons (dCall bLen (aCons (dVar 3) aNil)) aNil))))))
    (dSeq (dSet 6 (dCall F_law_bad_pipe (aCons (dOp fMod (dVar 4) (dC (.int 34))) aNil)))
    (dSeq (dSet 7 (dOp fAdd (dOp fAdd (dSl (dVar 3) oNone (oSome (dVar 5))) (dLst (aCons (dVar 6) aNil))) (dSl (dVar 3) (oSome (dVar 5)) oNone)))
    (dSeq (dSet 7 (dOp fAdd (dVar 7) (dOp fMul (dLst (aCons (dC (.str "what")) aNil)) (dOp fMod (dOp fDiv (dVar 4) (dC (.int 34))) (dC (.int 2))))))
    (dSeq (dIf (dB (dOp fNe (dCall F_law_refused (aCons (dJoin (dC (.str "\n")) (dVar 7)) aNil)) (dOp fAdd (dVar 5) (dC (.int 1))))) (dRet (dC (.bl false))) dNx)
    (dSeq (dSet 6 (dCall F_law_bad_head (aCons (dOp fMod (dVar 4) (dC (.int 13))) aNil)))
    (dIf (dB (dOp fNe (dCall F_law_refused (aCons (dJoin (dC (.str "\n")) (dOp fAdd (dLst (aCons (dVar 6) aNil)) (dVar 1))) aNil)) (dC (.int 1)))) (dRet (dC (.bl false))) dNx)))))))))
    (dSeq (dSet 8 (dOp fAdd (dLst (aCons (dC (.str "places 2")) aNil)) (dOp fMul (dLst (aCons (dC (.str "0-1 1")) aNil)) (dC (.int 29)))))
    (dSeq (dIf (dOr (dB (dOp fNe (dCall F_law_refused (aCons (dJoin (dC (.str "\n")) (dVar 8)) aNil)) (dC (.int 30)))) (dB (dOp fNe (dCall F_law_refused (aCons (dJoin (dC (.str "\n")) (dSl (dVar 8) oNone (oSome (dC (.int 29))))) aNil)) (dC (.int 0))))) (dRet (dC (.bl false))) dNx)
    (dRet (dAndV (dOp fEq (dCall F_law_refused (aCons (dC (.str "")) aNil)) (dC (.int 1))) (dOp fEq (dCall F_law_refused (aCons (dOp fAdd (dJoin (dC (.str "\n")) (dVar 3)) (dC (.str "\n"))) aNil)) (dOp fAdd (dCall bLen (aCons (dVar 3) aNil)) (dC (.int 1)))))))))))))
def F_law : FD := runD N_law 1 d_law
end K11

set_option Elab.async false
set_option linter.all false
set_option autoImplicit false
set_option maxRecDepth 100000
set_option pp.maxSteps 80
set_option maxHeartbeats 4000000
namespace K11
open PySem PySem.Spec PyProof.Rows L2 DL
section
variable {P : Program} {w : World} {K : PySem.W.Frag} {mg : Str → Option Value} {base : Heap} {g : Nat → Addr}
theorem sc_BadRow_init : FnScope ["self", "row"] ["self", "row"] (defScope s_BadRow_init) := ⟨rfl, rfl, rfl, by decide +kernel, rfl, by decide +kernel, by decide +kernel⟩
theorem rd_mk {C CN fI : Addr} {mc : Value} {fd : FuncData} (T : L2C.RowT K mg C CN fI mc) (F : Fun K "__init__" "BadRow.__init__" s_BadRow_init fI fd) (b : Binds K fd ["self", "row"] []) : RowD P w K mg base C := by
  refine ⟨CN, fI, mc, fd, T, b, L2C.row_ok (m := "no such row") F sc_BadRow_init T.ox T.noR fun cd A ou s H E => ?_, L2C.row_okH (m := "no such row") F sc_BadRow_init T.ox T.noR fun cd A ou s H E p => ?_⟩
  · exact pss_cons (ps_expr (L2C.pe_neinit rfl T.gN T.cr T.at_ (pa_cons (pe_var (i := 0) rfl (.inl rfl)) (pa_cons pe_str pa_nil)))) (pss_one (ps_ost (pe_var (i := 0) rfl (.inl rfl)) (pe_var (i := 1) rfl (.inl rfl))))
  · exact pss_cons (ps_expr (L2C.pe_neinit rfl T.gN T.cr T.at_ (pa_cons (pe_var (i := 0) rfl (.inl rfl)) (pa_cons pe_str pa_nil)))) (pss_one (ps_ost (pe_var (i := 0) rfl (.inl rfl)) (pe_var (i := 1) rfl (.inl rfl))))
theorem sc_is_whole : FnScope N_is_whole P_is_whole (defScope s_is_whole) := ⟨rfl, rfl, rfl, by decide +kernel, rfl, by decide +kernel, by decide +kernel⟩
theorem ok_is_whole {f : Addr} {fd : FuncData} (B : Bl mg)  (F : Fun K "is_whole" "is_whole" s_is_whole f fd) : FnG P w K mg base (L2N.CX P w) 1 f fd P_is_whole (spD K g 1 F_is_whole) := by
  have nd := sc_is_whole.nd
  refine fnD F sc_is_whole rfl fun cd A ou s H E hr hgd => ?_
  exact (dss_one (ds_ret (de_and (de_isi .int B.isinstance B.int PyProof.Rows.boot_int (de_var 0)) (de_one (de_not (de_isi .bool B.isinstance B.bool PyProof.Rows.boot_bool (de_var 0)))))))
theorem sc_within : FnScope N_within P_within (defScope s_within) := ⟨rfl, rfl, rfl, by decide +kernel, rfl, by decide +kernel, by decide +kernel⟩
theorem ok_within {f : Addr} {fd : FuncData} (B : Bl mg) (h_is_whole : Df P w K mg base g "is_whole" 1 1 P_is_whole F_is_whole) (F : Fun K "within" "within" s_within f fd) : FnG P w K mg base (L2N.CX P w) 2 f fd P_within (spD K g 3 F_within) := by
  have nd := sc_within.nd
  refine fnD F sc_within rfl fun cd A ou s H E hr hgd => ?_
  exact (dss_one (ds_ret (de_and (h_is_whole.pe (hr.mono (by decide)) hgd (L2N.takes_of rfl rfl rfl rfl) (da_cons (de_var 0) da_nil)) (de_one (de_chain o_le o_le (de_var 1) (de_var 0) (de_var 2))))))
theorem sc_common : FnScope N_common P_common (defScope s_common) := ⟨rfl, rfl, rfl, by decide +kernel, rfl, by decide +kernel, by decide +kernel⟩
theorem ok_common {f : Addr} {fd : FuncData} (B : Bl mg)  (F : Fun K "common" "common" s_common f fd) : FnG P w K mg base (L2N.CX P w) 1 f fd P_common (spD K g 2 F_common) := by
  have nd := sc_common.nd
  refine fnD F sc_common rfl fun cd A ou s H E hr hgd => ?_
  exact (dss_cons (ds_set 0 (de_callB (c_abs) B.abs (by decide +kernel) (da_cons (de_var 0) da_nil)) nd)
    (dss_cons (ds_set 1 (de_callB (c_abs) B.abs (by decide +kernel) (da_cons (de_var 1) da_nil)) nd)
    (dss_cons (ds_while (fuelI 1) (passes_of rfl) (dt_cmp (o_ne hr) (de_var 1) de_int) (dss_one (ds_par (i := 0) (j := 1) rfl nd (da_cons (de_var 1) (da_cons (de_op o_mod (de_var 0) (de_var 1)) da_nil)))))
    (dss_one (ds_ret (de_var 0))))))
theorem sc_is_fraction : FnScope N_is_fraction P_is_fraction (defScope s_is_fraction) := ⟨rfl, rfl, rfl, by decide +kernel, rfl, by decide +kernel, by decide +kernel⟩
theorem ok_is_fraction {f : Addr} {fd : FuncData} (B : Bl mg) (h_common : Df P w K mg base g "common" 1 2 P_common F_common) (h_is_whole : Df P w K mg base g "is_whole" 1 1 P_is_whole F_is_whole) (F : Fun K "is_fraction" "is_fraction" s_is_fraction f fd) : FnG P w K mg base (L2N.CX P w) 2 f fd P_is_fraction (spD K g 1 F_is_fraction) := by
  have nd := sc_is_fraction.nd
  refine fnD F sc_is_fraction rfl fun cd A ou s H E hr hgd => ?_
  exact (dss_cons (ds_if (dt_w (dw_or (dt_not (dt_val (de_isi .tuple B.isinstance B.tuple PyProof.Rows.boot_tuple (de_var 0)))) (dw_or (dt_cmp (o_ne hr) (de_callB (c_len) B.len PySem.boot_len (da_cons (de_var 0) da_nil)) de_int) (dw_or (dt_not (dt_val (h_is_whole.pe (hr.mono (by decide)) hgd (L2N.takes_of rfl rfl rfl rfl) (da_cons (de_ix (de_var 0) de_int) da_nil)))) (dw_one (dt_not (dt_val (h_is_whole.pe (hr.mono (by decide)) hgd (L2N.takes_of rfl rfl rfl rfl) (da_cons (de_ix (de_var 0) de_int) da_nil))))))))) (dss_one (ds_ret de_bl)) dss_nil)
    (dss_one (ds_ret (de_and (de_cmp o_gt (de_ix (de_var 0) de_int) de_int) (de_one (de_cmp (o_eq hr) (h_common.pe (hr.mono (by decide)) hgd (L2N.takes_of rfl rfl rfl rfl) (da_cons (de_ix (de_var 0) de_int) (da_cons (de_ix (de_var 0) de_int) da_nil))) de_int))))))
theorem sc_is_pipe : FnScope N_is_pipe P_is_pipe (defScope s_is_pipe) := ⟨rfl, rfl, rfl, by decide +kernel, rfl, by decide +kernel, by decide +kernel⟩
theorem ok_is_pipe {f : Addr} {fd : FuncData} (B : Bl mg) (g_GREATEST : Gc K mg "GREATEST" c_GREATEST) (h_is_fraction : Df P w K mg base g "is_fraction" 2 1 P_is_fraction F_is_fraction) (h_within : Df P w K mg base g "within" 2 3 P_within F_within) (F : Fun K "is_pipe" "is_pipe" s_is_pipe f fd) : FnG P w K mg base (L2N.CX P w) 3 f fd P_is_pipe (spD K g 2 F_is_pipe) := by
  have nd := sc_is_pipe.nd
  refine fnD F sc_is_pipe rfl fun cd A ou s H E hr hgd => ?_
  exact (dss_cons (ds_if (dt_w (dw_or (dt_not (dt_val (de_isi .tuple B.isinstance B.tuple PyProof.Rows.boot_tuple (de_var 0)))) (dw_one (dt_cmp (o_ne hr) (de_callB (c_len) B.len PySem.boot_len (da_cons (de_var 0) da_nil)) de_int)))) (dss_one (ds_ret de_bl)) dss_nil)
    (dss_cons (ds_if (dt_w (dw_or (dt_not (dt_val (h_within.pe (hr.mono (by decide)) hgd (L2N.takes_of rfl rfl rfl rfl) (da_cons (de_ix (de_var 0) de_int) (da_cons de_int (da_cons (de_op o_sub (de_var 1) de_int) da_nil)))))) (dw_or (dt_not (dt_val (h_within.pe (hr.mono (by decide)) hgd (L2N.takes_of rfl rfl rfl rfl) (da_cons (de_ix (de_var 0) de_int) (da_cons de_int (da_cons (de_op o_sub (de_var 1) de_int) da_nil)))))) (dw_one (dt_cmp (o_eq hr) (de_ix (de_var 0) de_int) (de_ix (de_var 0) de_int)))))) (dss_one (ds_ret de_bl)) dss_nil)
    (dss_one (ds_ret (de_and (h_is_fraction.pe (hr.mono (by decide)) hgd (L2N.takes_of rfl rfl rfl rfl) (da_cons (de_ix (de_var 0) de_int) da_nil)) (de_and (de_chain o_le o_le de_int (de_ix (de_ix (de_var 0) de_int) de_int) (de_gc g_GREATEST)) (de_one (de_cmp o_le (de_ix (de_ix (de_var 0) de_int) de_int) (de_gc g_GREATEST)))))))))
theorem sc_Net_init : FnScope N_Net_init P_Net_init (defScope s_Net_init) := ⟨rfl, rfl, rfl, by decide +kernel, rfl, by decide +kernel, by decide +kernel⟩
theorem ok_Net_init {f : Addr} {fd : FuncData} (B : Bl mg) (a_rows : Cls K (g 0) ∧ NoAttr K (g 0) "rows") (a_size : Cls K (g 0) ∧ NoAttr K (g 0) "size") (g_MOST_PIPES : Gc K mg "MOST_PIPES" c_MOST_PIPES) (g_MOST_PLACES : Gc K mg "MOST_PLACES" c_MOST_PLACES) (h_is_pipe : Df P w K mg base g "is_pipe" 3 2 P_is_pipe F_is_pipe) (h_within : Df P w K mg base g "within" 2 3 P_within F_within) (x_BadNet : ExcT K (g 12) ∧ mg "BadNet" = some (.ref (g 12))) (F : Fun K "__init__" "Net.__init__" s_Net_init f fd) : FnG P w K mg base (L2N.CX P w) 4 f fd P_Net_init (spD K g 3 F_Net_init) := by
  have nd := sc_Net_init.nd
  refine fnD F sc_Net_init rfl fun cd A ou s H E hr hgd => ?_
  exact (dss_cons (ds_if (dt_w (dw_or (dt_not (dt_val (h_within.pe (hr.mono (by decide)) hgd (L2N.takes_of rfl rfl rfl rfl) (da_cons (de_var 1) (da_cons de_int (da_cons (de_gc g_MOST_PLACES) da_nil)))))) (dw_or (dt_not (dt_val (de_isi .list B.isinstance B.list PyProof.Rows.boot_list (de_var 2)))) (dw_one (dt_cmp o_gt (de_callB (c_len) B.len PySem.boot_len (da_cons (de_var 2) da_nil)) (de_gc g_MOST_PIPES)))))) (dss_one (ds_raise 12 x_BadNet.1 rfl (L2N.takes_of rfl rfl rfl rfl) x_BadNet.2)) dss_nil)
    (dss_cons (ds_for (passes_of rfl) rfl (di_of (de_var 2)) (dg_name 3 nd) (dss_one (ds_if (dt_not (dt_val (h_is_pipe.pe (hr.mono (by decide)) hgd (L2N.takes_of rfl rfl rfl rfl) (da_cons (de_var 3) (da_cons (de_var 1) da_nil))))) (dss_one (ds_raise 12 x_BadNet.1 rfl (L2N.takes_of rfl rfl rfl rfl) x_BadNet.2)) dss_nil)))
    (dss_cons (ds_put a_size.1 a_size.2 (de_var 0) (de_var 1))
    (dss_one (ds_put a_rows.1 a_rows.2 (de_var 0) (de_callTy (c_list) B.list PyProof.Rows.boot_list (da_cons (de_var 2) da_nil)))))))
theorem sc_number_in : FnScope N_number_in P_number_in (defScope s_number_in) := ⟨rfl, rfl, rfl, by decide +kernel, rfl, by decide +kernel, by decide +kernel⟩
theorem ok_number_in {f : Addr} {fd : FuncData} (B : Bl mg) (g_FIGURES : Gc K mg "FIGURES" c_FIGURES) (F : Fun K "number_in" "number_in" s_number_in f fd) : FnG P w K mg base (L2N.CX P w) 1 f fd P_number_in (spD K g 1 F_number_in) := by
  have nd := sc_number_in.nd
  refine fnD F sc_number_in rfl fun cd A ou s H E hr hgd => ?_
  exact (dss_cons (ds_if (dt_w (dw_or (dt_not (dt_chain o_le o_le de_int (de_callB (c_len) B.len PySem.boot_len (da_cons (de_var 0) da_nil)) de_int)) (dw_or (dt_cmp (o_ne hr) (de_t1 PySem.F.slot_str_strip PySem.F.type_str_strip tx_strip (de_var 0) (de_gc g_FIGURES)) de_str) (dw_one (dt_w (dw_and (dt_val (de_t1 PySem.F.slot_str_startswith PySem.F.type_str_startswith tx_starts (de_var 0) de_str)) (dw_one (dt_cmp (o_ne hr) (de_var 0) de_str)))))))) (dss_one (ds_ret (de_neg de_int))) dss_nil)
    (dss_one (ds_ret (de_callTy (c_intS) B.int PyProof.Rows.boot_int (da_cons (de_var 0) da_nil)))))
theorem sc_fraction_in : FnScope N_fraction_in P_fraction_in (defScope s_fraction_in) := ⟨rfl, rfl, rfl, by decide +kernel, rfl, by decide +kernel, by decide +kernel⟩
theorem ok_fraction_in {f : Addr} {fd : FuncData} (B : Bl mg) (h_is_fraction : Df P w K mg base g "is_fraction" 2 1 P_is_fraction F_is_fraction) (h_number_in : Df P w K mg base g "number_in" 1 1 P_number_in F_number_in) (F : Fun K "fraction_in" "fraction_in" s_fraction_in f fd) : FnG P w K mg base (L2N.CX P w) 3 f fd P_fraction_in (spD K g 1 F_fraction_in) := by
  have nd := sc_fraction_in.nd
  refine fnD F sc_fraction_in rfl fun cd A ou s H E hr hgd => ?_
  exact (dss_cons (ds_asg (de_t1 PySem.F.slot_str_partition PySem.F.type_str_partition tx_part (de_var 0) de_str) (dg_tup rfl (dgs_cons (dg_name 1 nd) (dgs_cons (dg_name 2 nd) (dgs_cons (dg_name 3 nd) dgs_nil)))))
    (dss_cons (ds_set 4 (de_tup (da_cons (h_number_in.pe (hr.mono (by decide)) hgd (L2N.takes_of rfl rfl rfl rfl) (da_cons (de_var 1) da_nil)) (da_cons de_int da_nil))) nd)
    (dss_cons (ds_if (dt_cmp (o_ne hr) (de_var 2) de_str) (dss_cons (ds_set 4 (de_tup (da_cons (h_number_in.pe (hr.mono (by decide)) hgd (L2N.takes_of rfl rfl rfl rfl) (da_cons (de_var 1) da_nil)) (da_cons (h_number_in.pe (hr.mono (by decide)) hgd (L2N.takes_of rfl rfl rfl rfl) (da_cons (de_var 3) da_nil)) da_nil))) nd)
    (dss_one (ds_if (dt_cmp o_lt (de_ix (de_var 4) de_int) de_int) (dss_one (ds_ret de_non)) dss_nil))) dss_nil)
    (dss_cons (ds_if (dt_w (dw_or (dt_cmp o_lt (de_ix (de_var 4) de_int) de_int) (dw_one (dt_not (dt_val (h_is_fraction.pe (hr.mono (by decide)) hgd (L2N.takes_of rfl rfl rfl rfl) (da_cons (de_var 4) da_nil))))))) (dss_one (ds_ret de_non)) dss_nil)
    (dss_one (ds_ret (de_var 4)))))))
theorem sc_pipe_in : FnScope N_pipe_in P_pipe_in (defScope s_pipe_in) := ⟨rfl, rfl, rfl, by decide +kernel, rfl, by decide +kernel, by decide +kernel⟩
theorem ok_pipe_in {f : Addr} {fd : FuncData} (B : Bl mg) (h_fraction_in : Df P w K mg base g "fraction_in" 3 1 P_fraction_in F_fraction_in) (h_number_in : Df P w K mg base g "number_in" 1 1 P_number_in F_number_in) (F : Fun K "pipe_in" "pipe_in" s_pipe_in f fd) : FnG P w K mg base (L2N.CX P w) 4 f fd P_pipe_in (spD K g 1 F_pipe_in) := by
  have nd := sc_pipe_in.nd
  refine fnD F sc_pipe_in rfl fun cd A ou s H E hr hgd => ?_
  exact (dss_cons (ds_set 1 (de_t1 PySem.F.slot_str_split PySem.F.type_str_split tx_split (de_var 0) de_str) nd)
    (dss_cons (ds_if (dt_cmp (o_ne hr) (de_callB (c_len) B.len PySem.boot_len (da_cons (de_var 1) da_nil)) de_int) (dss_one (ds_ret de_non)) dss_nil)
    (dss_cons (ds_asg (de_t1 PySem.F.slot_str_partition PySem.F.type_str_partition tx_part (de_ix (de_var 1) de_int) de_str) (dg_tup rfl (dgs_cons (dg_name 2 nd) (dgs_cons (dg_name 3 nd) (dgs_cons (dg_name 4 nd) dgs_nil)))))
    (dss_cons (ds_set 5 (h_fraction_in.pe (hr.mono (by decide)) hgd (L2N.takes_of rfl rfl rfl rfl) (da_cons (de_ix (de_var 1) de_int) da_nil)) nd)
    (dss_cons (ds_if (dt_w (dw_or (dt_cmp (o_eq hr) (de_var 3) de_str) (dw_or (dt_cmp o_is (de_var 5) de_non) (dw_or (dt_cmp o_lt (h_number_in.pe (hr.mono (by decide)) hgd (L2N.takes_of rfl rfl rfl rfl) (da_cons (de_var 2) da_nil)) de_int) (dw_one (dt_cmp o_lt (h_number_in.pe (hr.mono (by decide)) hgd (L2N.takes_of rfl rfl rfl rfl) (da_cons (de_var 4) da_nil)) de_int)))))) (dss_one (ds_ret de_non)) dss_nil)
    (dss_one (ds_ret (de_tup (da_cons (h_number_in.pe (hr.mono (by decide)) hgd (L2N.takes_of rfl rfl rfl rfl) (da_cons (de_var 2) da_nil)) (da_cons (h_number_in.pe (hr.mono (by decide)) hgd (L2N.takes_of rfl rfl rfl rfl) (da_cons (de_var 4) da_nil)) (da_cons (de_var 5) da_nil)))))))))))
theorem sc_net_of : FnScope N_net_of P_net_of (defScope s_net_of) := ⟨rfl, rfl, rfl, by decide +kernel, rfl, by decide +kernel, by decide +kernel⟩
theorem ok_net_of {f : Addr} {fd : FuncData} (B : Bl mg) (bn : PySem.W.exmOne K (.ref (g 12)) (.ref (g 12)) = some true ∧ mg "BadNet" = some (.ref (g 12))) (h_Net_init : Dk P w K mg base g "Net" 0 4 3 P_Net_init F_Net_init) (rw : RowD P w K mg base (g 16)) (F : Fun K "net_of" "net_of" s_net_of f fd) : FnG P w K mg base (L2C.CX P w) 6 f fd P_net_of (spD K g 3 F_net_of) := by
  have nd := sc_net_of.nd
  refine fnDC F sc_net_of rfl fun cd A ou s H E hr hgd => ?_
  exact (dss_one (ds_tryR 12 ⟨rfl, by decide, .inl bn.2⟩ bn.1 (L2H.passesAt_of rfl) (L2C.takes_of rfl rfl rfl rfl) (fun _ _ _ tk _ => (dss_one (ds_set 3 (h_Net_init.pe (hr.mono (by decide)) hgd tk (da_cons (de_var 0) (da_cons (de_var 1) da_nil))) nd))) (fun a oe pn tkc hot => (dss_one (ds_rowDH rw (roomH_suite (hr.mono (by decide))) hot tkc (de_var 2)))) (dss_one (ds_ret (de_var 3)))))
theorem sc_read : FnScope N_read P_read (defScope s_read) := ⟨rfl, rfl, rfl, by decide +kernel, rfl, by decide +kernel, by decide +kernel⟩
theorem ok_read {f : Addr} {fd : FuncData} (B : Bl mg) (a_size : Cls K (g 0) ∧ NoAttr K (g 0) "size") (h_net_of : Dc P w K mg base g "net_of" 6 3 P_net_of F_net_of) (h_number_in : Df P w K mg base g "number_in" 1 1 P_number_in F_number_in) (h_pipe_in : Df P w K mg base g "pipe_in" 4 1 P_pipe_in F_pipe_in) (rw : RowD P w K mg base (g 16)) (F : Fun K "read" "read" s_read f fd) : FnG P w K mg base (L2C.CX P w) 7 f fd P_read (spD K g 1 F_read) := by
  have nd := sc_read.nd
  refine fnDC F sc_read rfl fun cd A ou s H E hr hgd => ?_
  exact (dss_cons (ds_set 1 (de_t1 PySem.F.slot_str_split PySem.F.type_str_split tx_split (de_var 0) de_str) nd)
    (dss_cons (ds_asg (de_t1 PySem.F.slot_str_partition PySem.F.type_str_partition tx_part (de_ix (de_var 1) de_int) de_str) (dg_tup rfl (dgs_cons (dg_name 2 nd) (dgs_cons (dg_name 3 nd) (dgs_cons (dg_name 4 nd) dgs_nil)))))
    (dss_cons (ds_if (dt_w (dw_or (dt_cmp (o_ne hr) (de_var 2) de_str) (dw_one (dt_cmp (o_eq hr) (de_var 3) de_str)))) (dss_one (ds_rowD rw (hr.mono (by decide)) rfl (L2C.Takes.n (L2C.takes_of rfl rfl rfl rfl)) de_int)) dss_nil)
    (dss_cons (ds_set 5 (de_lst da_nil) nd)
    (dss_cons (ds_set 6 (h_net_of.pe (hr.mono (by decide)) hgd (L2C.takes_of rfl rfl rfl rfl) (da_cons (h_number_in.pe (hr.mono (by decide)) hgd (L2C.Takes.n (L2C.takes_of rfl rfl rfl rfl)) (da_cons (de_var 4) da_nil)) (da_cons (de_var 5) (da_cons de_int da_nil)))) nd)
    (dss_cons (ds_for (passes_of rfl) rfl (di_rng2 de_int (de_callB (c_len) B.len PySem.boot_len (da_cons (de_var 1) da_nil)) B.range) (dg_name 7 nd) (dss_cons (ds_set 8 (h_pipe_in.pe (hr.mono (by decide)) hgd (L2C.Takes.n (L2C.takes_of rfl rfl rfl rfl)) (da_cons (de_ix (de_var 1) (de_var 7)) da_nil)) nd)
    (dss_cons (ds_if (dt_cmp o_is (de_var 8) de_non) (dss_one (ds_rowD rw (hr.mono (by decide)) rfl (L2C.Takes.n (L2C.takes_of rfl rfl rfl rfl)) (de_op o_add (de_var 7) de_int))) dss_nil)
    (dss_cons (ds_drop (de_ml PySem.F.slot_list_append PySem.F.type_list_append m_append (de_var 5) (da_cons (de_var 8) da_nil)))
    (dss_one (ds_set 6 (h_net_of.pe (hr.mono (by decide)) hgd (L2C.takes_of rfl rfl rfl rfl) (da_cons (de_fld a_size.1 a_size.2 (de_var 6)) (da_cons (de_var 5) (da_cons (de_op o_add (de_var 7) de_int) da_nil)))) nd))))))
    (dss_one (ds_ret (de_var 6)))))))))
theorem sc_law_cell_at : FnScope N_law_cell_at P_law_cell_at (defScope s_law_cell_at) := ⟨rfl, rfl, rfl, by decide +kernel, rfl, by decide +kernel, by decide +kernel⟩
theorem ok_law_cell_at {f : Addr} {fd : FuncData} (B : Bl mg)  (F : Fun K "_law_cell_at" "_law_cell_at" s_law_cell_at f fd) : FnG P w K mg base (L2N.CX P w) 1 f fd P_law_cell_at (spD K g 2 F_law_cell_at) := by
  have nd := sc_law_cell_at.nd
  refine fnD F sc_law_cell_at rfl fun cd A ou s H E hr hgd => ?_
  exact (dss_cons (ds_if (dt_cmp o_lt (de_var 1) (de_callB (c_len) B.len PySem.boot_len (da_cons (de_var 0) da_nil))) (dss_one (ds_ret (de_ix (de_var 0) (de_var 1)))) dss_nil)
    (dss_one (ds_ret de_int)))
theorem sc_law_draw : FnScope N_law_draw P_law_draw (defScope s_law_draw) := ⟨rfl, rfl, rfl, by decide +kernel, rfl, by decide +kernel, by decide +kernel⟩
theorem ok_law_draw {f : Addr} {fd : FuncData} (B : Bl mg)  (F : Fun K "_law_draw" "_law_draw" s_law_draw f fd) : FnG P w K mg base (L2N.CX P w) 1 f fd P_law_draw (spD K g 3 F_law_draw) := by
  have nd := sc_law_draw.nd
  refine fnD F sc_law_draw rfl fun cd A ou s H E hr hgd => ?_
  exact (dss_cons (ds_set 3 (de_tup (da_cons de_int (da_cons de_int (da_cons de_int (da_cons de_int (da_cons de_int (da_cons de_int (da_cons de_int (da_cons de_int da_nil))))))))) nd)
    (dss_cons (ds_set 4 (de_op o_add (de_op o_add (de_op o_mul (de_var 0) de_int) (de_op o_mul (de_var 1) de_int)) (de_op o_mul (de_op o_mod (de_op o_div (de_var 0) de_int) de_int) de_int)) nd)
    (dss_one (ds_ret (de_op o_mod (de_op o_mod (de_var 4) (de_ix (de_var 3) (de_op o_mod (de_var 1) de_int))) (de_var 2))))))
theorem hu_law_refused (a : Addr) (k : Int) (ρ : Sl) (h : Hv) (l : ρ.length = 3) : hs_law_refused a k (ρ.set 1 (some (.adr a))) h = hn_law_refused k h := by
  unfold hn_law_refused hs_law_refused
  rw [refS2_is (by decide) (by rw [l]; decide) (by rw [l]; decide), refS2_is (by decide) (by decide) (by decide)]
theorem hr_law_refused (k : Int) (h : Hv) : (∃ x h', hn_law_refused k h = .rt x h') ∨ hn_law_refused k h = .no := by
  unfold hn_law_refused hs_law_refused
  exact .inl ⟨_, _, refS2_is (by decide) (by decide) (by decide)⟩
theorem sc_law_refused : FnScope N_law_refused P_law_refused (defScope s_law_refused) := ⟨rfl, rfl, rfl, by decide +kernel, rfl, by decide +kernel, by decide +kernel⟩
theorem ok_law_refused {f : Addr} {fd : FuncData} (B : Bl mg) (h_read : Dc P w K mg base g "read" 7 1 P_read F_read) (exr : PySem.W.exmOne K (.ref (g 16)) (.ref (g 10)) = some true ∧ ExcC K (g 16) ∧ PySem.W.kitOne K (.ref (g 16)) (.type "ValueError") = some true ∧ mg "NetError" = some (.ref (g 10)) ∧ mg "ValueError" = none ∧ PySem.W.findIn K (.ref (g 16)) "row" = some none) (ier_BadFlows : PySem.W.kitOne K (.ref (g 16)) (.ref (g 15)) = some false ∧ mg "BadFlows" = some (.ref (g 15))) (ier_BadFraction : PySem.W.kitOne K (.ref (g 16)) (.ref (g 11)) = some false ∧ mg "BadFraction" = some (.ref (g 11))) (ier_BadNet : PySem.W.kitOne K (.ref (g 16)) (.ref (g 12)) = some false ∧ mg "BadNet" = some (.ref (g 12))) (ier_BadRow : PySem.W.kitOne K (.ref (g 16)) (.ref (g 16)) = some true ∧ mg "BadRow" = some (.ref (g 16))) (ier_NoPipe : PySem.W.kitOne K (.ref (g 16)) (.ref (g 14)) = some false ∧ mg "NoPipe" = some (.ref (g 14))) (ier_NoPlace : PySem.W.kitOne K (.ref (g 16)) (.ref (g 13)) = some false ∧ mg "NoPlace" = some (.ref (g 13))) (F : Fun K "_law_refused" "_law_refused" s_law_refused f fd) : FnG P w K mg base (L2N.CX P w) 8 f fd P_law_refused (spD K g 1 F_law_refused) := by
  have nd := sc_law_refused.nd
  refine fnD F sc_law_refused rfl fun cd A ou s H E hr hgd => ?_
  exact (dss_cons (ds_tryC 1 16 hn_law_refused nd ⟨rfl, by decide, .inl exr.2.2.2.1⟩ exr.1 (fun _ _ _ tkc _ => (dss_one (ds_drop (h_read.pe (hr.mono (by decide)) hgd tkc (da_cons (de_var 0) da_nil))))) (fun a dd oe od k pn hl => (dss_cons (ds_set 2 (de_lst (da_cons (de_isR hl exr.2.1 ier_BadNet.1 B.isinstance ier_BadNet.2 (de_var 1)) (da_cons (de_isR hl exr.2.1 ier_BadFraction.1 B.isinstance ier_BadFraction.2 (de_var 1)) (da_cons (de_isR hl exr.2.1 ier_NoPlace.1 B.isinstance ier_NoPlace.2 (de_var 1)) da_nil)))) nd)
    (dss_cons (ds_set 2 (de_op o_add (de_var 2) (de_lst (da_cons (de_isR hl exr.2.1 ier_BadFlows.1 B.isinstance ier_BadFlows.2 (de_var 1)) (da_cons (de_isR hl exr.2.1 ier_NoPipe.1 B.isinstance ier_NoPipe.2 (de_var 1)) da_nil)))) nd)
    (dss_cons (ds_if (dt_w (dw_or (dt_val (de_callB (c_anyR hl) B.any PyProof.Rows.boot_any (da_cons (de_var 2) da_nil))) (dw_or (dt_not (dt_val (de_isR hl exr.2.1 ier_BadRow.1 B.isinstance ier_BadRow.2 (de_var 1)))) (dw_one (dt_not (dt_val (de_isRB hl exr.2.1 exr.2.2.1 B.isinstance exr.2.2.2.2.1 (by decide +kernel) (de_var 1)))))))) (dss_one (ds_ret (de_neg de_int))) dss_nil)
    (dss_one (ds_ret (de_rowF hl exr.2.1 exr.2.2.2.2.2 (de_var 1)))))))) hu_law_refused hr_law_refused)
    (dss_one (ds_ret de_int)))
theorem sc_law_more : FnScope N_law_more P_law_more (defScope s_law_more) := ⟨rfl, rfl, rfl, by decide +kernel, rfl, by decide +kernel, by decide +kernel⟩
theorem ok_law_more {f : Addr} {fd : FuncData} (B : Bl mg)  (F : Fun K "_law_more" "_law_more" s_law_more f fd) : FnG P w K mg base (L2N.CX P w) 1 f fd P_law_more (spD K g 0 F_law_more) := by
  have nd := sc_law_more.nd
  refine fnD F sc_law_more rfl fun cd A ou s H E hr hgd => ?_
  exact (dss_one (ds_ret (de_lst (da_cons de_str (da_cons de_str (da_cons de_str (da_cons (de_op o_add de_str (de_op o_mulS de_str de_int)) da_nil)))))))
theorem sc_law_bad_pipe : FnScope N_law_bad_pipe P_law_bad_pipe (defScope s_law_bad_pipe) := ⟨rfl, rfl, rfl, by decide +kernel, rfl, by decide +kernel, by decide +kernel⟩
theorem ok_law_bad_pipe {f : Addr} {fd : FuncData} (B : Bl mg) (h_law_more : Df P w K mg base g "_law_more" 1 0 P_law_more F_law_more) (F : Fun K "_law_bad_pipe" "_law_bad_pipe" s_law_bad_pipe f fd) : FnG P w K mg base (L2N.CX P w) 2 f fd P_law_bad_pipe (spD K g 1 F_law_bad_pipe) := by
  have nd := sc_law_bad_pipe.nd
  refine fnD F sc_law_bad_pipe rfl fun cd A ou s H E hr hgd => ?_
  exact (dss_cons (ds_set 1 (de_lst (da_cons de_str (da_cons de_str (da_cons de_str (da_cons de_str (da_cons de_str (da_cons de_str (da_cons de_str (da_cons de_str (da_cons de_str (da_cons de_str (da_cons de_str da_nil)))))))))))) nd)
    (dss_cons (ds_set 1 (de_op o_add (de_var 1) (de_lst (da_cons de_str (da_cons de_str da_nil)))) nd)
    (dss_cons (ds_set 1 (de_op o_add (de_var 1) (de_lst (da_cons de_str (da_cons de_str (da_cons de_str (da_cons de_str (da_cons de_str (da_cons de_str da_nil)))))))) nd)
    (dss_cons (ds_set 1 (de_op o_add (de_var 1) (de_lst (da_cons de_str (da_cons de_str (da_cons de_str da_nil))))) nd)
    (dss_cons (ds_set 1 (de_op o_add (de_var 1) (de_lst (da_cons de_str (da_cons de_str (da_cons de_str (da_cons de_str da_nil)))))) nd)
    (dss_one (ds_ret (de_ix (de_op o_add (de_op o_add (de_var 1) (de_lst (da_cons de_str (da_cons de_str (da_cons de_str (da_cons de_str da_nil)))))) (h_law_more.pe0 (hr.mono (by decide)) hgd (L2N.takes_of rfl rfl rfl rfl))) (de_var 0)))))))))
theorem sc_law_bad_head : FnScope N_law_bad_head P_law_bad_head (defScope s_law_bad_head) := ⟨rfl, rfl, rfl, by decide +kernel, rfl, by decide +kernel, by decide +kernel⟩
theorem ok_law_bad_head {f : Addr} {fd : FuncData} (B : Bl mg)  (F : Fun K "_law_bad_head" "_law_bad_head" s_law_bad_head f fd) : FnG P w K mg base (L2N.CX P w) 1 f fd P_law_bad_head (spD K g 1 F_law_bad_head) := by
  have nd := sc_law_bad_head.nd
  refine fnD F sc_law_bad_head rfl fun cd A ou s H E hr hgd => ?_
  exact (dss_cons (ds_set 1 (de_lst (da_cons de_str (da_cons de_str (da_cons de_str (da_cons de_str (da_cons de_str (da_cons de_str (da_cons de_str (da_cons de_str (da_cons de_str da_nil)))))))))) nd)
    (dss_one (ds_ret (de_ix (de_op o_add (de_var 1) (de_lst (da_cons de_str (da_cons de_str (da_cons de_str (da_cons de_str da_nil)))))) (de_var 0)))))
theorem sc_law : FnScope N_law P_law (defScope s_law) := ⟨rfl, rfl, rfl, by decide +kernel, rfl, by decide +kernel, by decide +kernel⟩
theorem ok_law {f : Addr} {fd : FuncData} (B : Bl mg) (h_law_bad_head : Df P w K mg base g "_law_bad_head" 1 1 P_law_bad_head F_law_bad_head) (h_law_bad_pipe : Df P w K mg base g "_law_bad_pipe" 2 1 P_law_bad_pipe F_law_bad_pipe) (h_law_cell_at : Df P w K mg base g "_law_cell_at" 1 2 P_law_cell_at F_law_cell_at) (h_law_draw : Df P w K mg base g "_law_draw" 1 3 P_law_draw F_law_draw) (h_law_refused : Df P w K mg base g "_law_refused" 8 1 P_law_refused F_law_refused) (F : Fun K "law" "law" s_law f fd) : FnG P w K mg base (L2N.CX P w) 9 f fd P_law (spD K g 1 F_law) := by
  have nd := sc_law.nd
  refine fnD F sc_law rfl fun cd A ou s H E hr hgd => ?_
  exact (dss_cons (ds_set 1 (de_lst da_nil) nd)
    (dss_cons (ds_for (passes_of rfl) rfl (di_rng1 (de_op o_mod (h_law_cell_at.pe (hr.mono (by decide)) hgd (L2N.takes_of rfl rfl rfl rfl) (da_cons (de_var 0) (da_cons de_int da_nil))) de_int) B.range) (dg_name 2 nd) (dss_one (ds_drop (de_ml PySem.F.slot_list_append PySem.F.type_list_append m_append (de_var 1) (da_cons (de_op o_add (de_ix (de_lst (da_cons de_str (da_cons de_str da_nil))) (de_op o_mod (de_var 2) de_int)) (de_callTy ((c_str hr hgd)) B.str PyProof.Rows.boot_str (da_cons (de_op o_add de_int (h_law_draw.pe (hr.mono (by decide)) hgd (L2N.takes_of rfl rfl rfl rfl) (da_cons (h_law_cell_at.pe (hr.mono (by decide)) hgd (L2N.takes_of rfl rfl rfl rfl) (da_cons (de_var 0) (da_cons de_int da_nil))) (da_cons (de_var 2) (da_cons de_int da_nil))))) da_nil))) da_nil)))))
    (dss_cons (ds_set 3 (de_op o_add (de_lst (da_cons de_str da_nil)) (de_var 1)) nd)
    (dss_cons (ds_if (dt_cmp (o_ne hr) (h_law_refused.pe (hr.mono (by decide)) hgd (L2N.takes_of rfl rfl rfl rfl) (da_cons (de_join de_str (de_var 3)) da_nil)) de_int) (dss_one (ds_ret de_bl)) dss_nil)
    (dss_cons (ds_for (passes_of rfl) rfl (di_rng1 de_int B.range) (dg_name 2 nd) (dss_cons (ds_set 4 (de_op o_add (h_law_cell_at.pe (hr.mono (by decide)) hgd (L2N.takes_of rfl rfl rfl rfl) (da_cons (de_var 0) (da_cons de_int da_nil))) (de_op o_mul de_int (de_var 2))) nd)
    (dss_cons (ds_set 5 (de_op o_add de_int (h_law_draw.pe (hr.mono (by decide)) hgd (L2N.takes_of rfl rfl rfl rfl) (da_cons (h_law_cell_at.pe (hr.mono (by decide)) hgd (L2N.takes_of rfl rfl rfl rfl) (da_cons (de_var 0) (da_cons de_int da_nil))) (da_cons (de_var 2) (da_cons (de_callB (c_len) B.len PySem.boot_len (da_cons (de_var 3) da_nil)) da_nil))))) nd)
    (dss_cons (ds_set 6 (h_law_bad_pipe.pe (hr.mono (by decide)) hgd (L2N.takes_of rfl rfl rfl rfl) (da_cons (de_op o_mod (de_var 4) de_int) da_nil)) nd)
    (dss_cons (ds_set 7 (de_op o_add (de_op o_add (de_sl (de_var 3) do_none (do_some (de_var 5))) (de_lst (da_cons (de_var 6) da_nil))) (de_sl (de_var 3) (do_some (de_var 5)) do_none)) nd)
    (dss_cons (ds_set 7 (de_op o_add (de_var 7) (de_op o_mul (de_lst (da_cons de_str da_nil)) (de_op o_mod (de_op o_div (de_var 4) de_int) de_int))) nd)
    (dss_cons (ds_if (dt_cmp (o_ne hr) (h_law_refused.pe (hr.mono (by decide)) hgd (L2N.takes_of rfl rfl rfl rfl) (da_cons (de_join de_str (de_var 7)) da_nil)) (de_op o_add (de_var 5) de_int)) (dss_one (ds_ret de_bl)) dss_nil)
    (dss_cons (ds_set 6 (h_law_bad_head.pe (hr.mono (by decide)) hgd (L2N.takes_of rfl rfl rfl rfl) (da_cons (de_op o_mod (de_var 4) de_int) da_nil)) nd)
    (dss_one (ds_if (dt_cmp (o_ne hr) (h_law_refused.pe (hr.mono (by decide)) hgd (L2N.takes_of rfl rfl rfl rfl) (da_cons (de_join de_str (de_op o_add (de_lst (da_cons (de_var 6) da_nil)) (de_var 1))) da_nil)) de_int) (dss_one (ds_ret de_bl)) dss_nil))))))))))
    (dss_cons (ds_set 8 (de_op o_add (de_lst (da_cons de_str da_nil)) (de_op o_mul (de_lst (da_cons de_str da_nil)) de_int)) nd)
    (dss_cons (ds_if (dt_w (dw_or (dt_cmp (o_ne hr) (h_law_refused.pe (hr.mono (by decide)) hgd (L2N.takes_of rfl rfl rfl rfl) (da_cons (de_join de_str (de_var 8)) da_nil)) de_int) (dw_one (dt_cmp (o_ne hr) (h_law_refused.pe (hr.mono (by decide)) hgd (L2N.takes_of rfl rfl rfl rfl) (da_cons (de_join de_str (de_sl (de_var 8) do_none (do_some de_int))) da_nil)) de_int)))) (dss_one (ds_ret de_bl)) dss_nil)
    (dss_one (ds_ret (de_and (de_cmp (o_eq hr) (h_law_refused.pe (hr.mono (by decide)) hgd (L2N.takes_of rfl rfl rfl rfl) (da_cons de_str da_nil)) de_int) (de_one (de_cmp (o_eq hr) (h_law_refused.pe (hr.mono (by decide)) hgd (L2N.takes_of rfl rfl rfl rfl) (da_cons (de_op o_add (de_join de_str (de_var 3)) de_str) da_nil)) (de_op o_add (de_callB (c_len) B.len PySem.boot_len (da_cons (de_var 3) da_nil)) de_int)))))))))))))
end
def gM (C_Net C_NetError C_BadFraction C_BadNet C_NoPlace C_NoPipe C_BadFlows C_BadRow : Addr) : Nat → Addr
  | 0 => C_Net
  | 10 => C_NetError
  | 11 => C_BadFraction
  | 12 => C_BadNet
  | 13 => C_NoPlace
  | 14 => C_NoPipe
  | 15 => C_BadFlows
  | 16 => C_BadRow
  | _ => 0
theorem all_mk {P : Program} {w : World} {K : PySem.W.Frag} {h : Heap} {mg : Str → Option Value} {fa C_Net C_NetError C_BadFraction C_BadNet C_NoPlace C_NoPipe C_BadFlows C_BadRow : Addr}
    {nm_r q_r : Str} {N_r : Addr} {bs_r bm_r : List Value} {sn_r : List Str} {sub_r : List Value} {ab_r : Bool} {col_r : Option Bool} {dd_r : Option Addr} {k0_r k1_r k2_r k3_r k5_r : Option Value}
    {f_BadRow_init : Addr} {od_r an_r : Option Addr} {sl_r : Array (Option Value)} {oc_r kV_r dc_r pm_r cd_r ct_r : Value}
    {t1_MOST_PLACES : Tok}
    {t1_MOST_PIPES : Tok}
    {t1_GREATEST : Tok}
    {t1_FIGURES : Tok}
    {f_is_whole : Addr} {od_is_whole an_is_whole : Option Addr} {sl_is_whole : Array (Option Value)} {oc_is_whole kV_is_whole dc_is_whole pm_is_whole cd_is_whole ct_is_whole : Value}
    {f_within : Addr} {od_within an_within : Option Addr} {sl_within : Array (Option Value)} {oc_within kV_within dc_within pm_within cd_within ct_within : Value}
    {f_common : Addr} {od_common an_common : Option Addr} {sl_common : Array (Option Value)} {oc_common kV_common dc_common pm_common cd_common ct_common : Value}
    {f_is_fraction : Addr} {od_is_fraction an_is_fraction : Option Addr} {sl_is_fraction : Array (Option Value)} {oc_is_fraction kV_is_fraction dc_is_fraction pm_is_fraction cd_is_fraction ct_is_fraction : Value}
    {f_is_pipe : Addr} {od_is_pipe an_is_pipe : Option Addr} {sl_is_pipe : Array (Option Value)} {oc_is_pipe kV_is_pipe dc_is_pipe pm_is_pipe cd_is_pipe ct_is_pipe : Value}
    {f_Net_init : Addr} {od_Net_init an_Net_init : Option Addr} {sl_Net_init : Array (Option Value)} {oc_Net_init kV_Net_init dc_Net_init pm_Net_init cd_Net_init ct_Net_init : Value}
    {f_number_in : Addr} {od_number_in an_number_in : Option Addr} {sl_number_in : Array (Option Value)} {oc_number_in kV_number_in dc_number_in pm_number_in cd_number_in ct_number_in : Value}
    {f_fraction_in : Addr} {od_fraction_in an_fraction_in : Option Addr} {sl_fraction_in : Array (Option Value)} {oc_fraction_in kV_fraction_in dc_fraction_in pm_fraction_in cd_fraction_in ct_fraction_in : Value}
    {f_pipe_in : Addr} {od_pipe_in an_pipe_in : Option Addr} {sl_pipe_in : Array (Option Value)} {oc_pipe_in kV_pipe_in dc_pipe_in pm_pipe_in cd_pipe_in ct_pipe_in : Value}
    {f_net_of : Addr} {od_net_of an_net_of : Option Addr} {sl_net_of : Array (Option Value)} {oc_net_of kV_net_of dc_net_of pm_net_of cd_net_of ct_net_of : Value}
    {f_read : Addr} {od_read an_read : Option Addr} {sl_read : Array (Option Value)} {oc_read kV_read dc_read pm_read cd_read ct_read : Value}
    {f_law_cell_at : Addr} {od_law_cell_at an_law_cell_at : Option Addr} {sl_law_cell_at : Array (Option Value)} {oc_law_cell_at kV_law_cell_at dc_law_cell_at pm_law_cell_at cd_law_cell_at ct_law_cell_at : Value}
    {f_law_draw : Addr} {od_law_draw an_law_draw : Option Addr} {sl_law_draw : Array (Option Value)} {oc_law_draw kV_law_draw dc_law_draw pm_law_draw cd_law_draw ct_law_draw : Value}
    {f_law_refused : Addr} {od_law_refused an_law_refused : Option Addr} {sl_law_refused : Array (Option Value)} {oc_law_refused kV_law_refused dc_law_refused pm_law_refused cd_law_refused ct_law_refused : Value}
    {f_law_more : Addr} {od_law_more an_law_more : Option Addr} {sl_law_more : Array (Option Value)} {oc_law_more kV_law_more dc_law_more pm_law_more cd_law_more ct_law_more : Value}
    {f_law_bad_pipe : Addr} {od_law_bad_pipe an_law_bad_pipe : Option Addr} {sl_law_bad_pipe : Array (Option Value)} {oc_law_bad_pipe kV_law_bad_pipe dc_law_bad_pipe pm_law_bad_pipe cd_law_bad_pipe ct_law_bad_pipe : Value}
    {f_law_bad_head : Addr} {od_law_bad_head an_law_bad_head : Option Addr} {sl_law_bad_head : Array (Option Value)} {oc_law_bad_head kV_law_bad_head dc_law_bad_head pm_law_bad_head cd_law_bad_head ct_law_bad_head : Value}
    {f_law : Addr} {od_law an_law : Option Addr} {sl_law : Array (Option Value)} {oc_law kV_law dc_law pm_law cd_law ct_law : Value}
    (X : K.In h) (G : h.Ns mainGlobals mg) (hfa : mg "law" = some (.ref fa))
    (aC_Net : PySem.W.nsIn K mainGlobals "Net" = some (some (.ref C_Net)))
    (aC_NetError : PySem.W.nsIn K mainGlobals "NetError" = some (some (.ref C_NetError)))
    (aC_BadFraction : PySem.W.nsIn K mainGlobals "BadFraction" = some (some (.ref C_BadFraction)))
    (aC_BadNet : PySem.W.nsIn K mainGlobals "BadNet" = some (some (.ref C_BadNet)))
    (aC_NoPlace : PySem.W.nsIn K mainGlobals "NoPlace" = some (some (.ref C_NoPlace)))
    (aC_NoPipe : PySem.W.nsIn K mainGlobals "NoPipe" = some (some (.ref C_NoPipe)))
    (aC_BadFlows : PySem.W.nsIn K mainGlobals "BadFlows" = some (some (.ref C_BadFlows)))
    (aC_BadRow : PySem.W.nsIn K mainGlobals "BadRow" = some (some (.ref C_BadRow)))
    (pg_Net : PySem.W.plainGet K C_Net Str.empty = true)
    (hd_Net : PySem.W.hasDictIn K C_Net = true)
    (po_Net : PySem.W.plainOver K C_Net = true)
    (sa_Net : PySem.W.findIn K (.ref C_Net) "__setattr__" = some (some (.builtin "object.__setattr__")))
    (mk_Net : PySem.W.makesIn K C_Net = true)
    (kc_Net : PySem.W.keepIn K (.ref C_Net) = true)
    (na_rows : PySem.W.findIn K (.ref C_Net) "rows" = some none)
    (na_size : PySem.W.findIn K (.ref C_Net) "size" = some none)
    (ex_BadNet : PySem.W.excIn K C_BadNet [.type "ValueError", .type "Exception", .type "BaseException", .type "object"] "ValueError.__new__" = true)
    (kp_BadNet : PySem.W.keepIn K (.ref C_BadNet) = true)
    (sb_BadNet : PySem.W.subIn K (.ref C_BadNet) (.type "BaseException") = some true)
    (ty_BadNet : PySem.W.typeIn K (.ref C_BadNet) = some (.type "type"))
    (rc_cls : K.lookup C_BadRow = some (excClassObj nm_r q_r C_BadRow N_r bs_r bm_r true sn_r sub_r ab_r col_r dd_r k0_r k1_r k2_r k3_r k5_r "ValueError.__new__"))
    (rc_ve : PySem.HandSPX.refsVE bm_r = true)
    (rc_sa : PySem.W.findIn K (.ref C_BadRow) "__setattr__" = some (some (.builtin "object.__setattr__")))
    (rc_sb : PySem.W.subIn K (.ref C_BadRow) (.type "BaseException") = some true)
    (rc_kp : PySem.W.keepIn K (.ref C_BadRow) = true)
    (rc_no : PySem.W.findIn K (.ref C_BadRow) "row" = some none)
    (rc_rd : PySem.W.readsIn K C_NetError (.type "type") = true)
    (rc_ga : PySem.W.specialIn K (.ref C_NetError) "__getattribute__" = some (some (.builtin "type.__getattribute__")))
    (rc_at : PySem.W.findCls K (.ref C_NetError) (.type "type") "__init__" = some (.val (.builtin "ValueError.__init__")))
    (sg : PySem.W.specialIn K (.builtin "object.__class__") "__get__" = some (some (.builtin "getset_descriptor.__get__")))
    (tk : PySem.W.takesIn K (.builtin "object.__class__") = some true)
    (nv : PySem.W.nsIn K mainGlobals "ValueError" = some none)
    (eg : PySem.W.findIn K (.ref C_BadRow) "__getattribute__" = some (some (.builtin "BaseException.__getattribute__")))
    (ek : PySem.W.findIn K (.ref C_BadRow) "__getattr__" = some none)
    (ed : PySem.W.hasDictIn K C_BadRow = true)
    (ea : PySem.W.findIn K (.ref C_BadRow) "__class__" = some (some (.builtin "object.__class__")))
    (em : PySem.W.mroIn K C_BadRow (.type "object") = some true)
    (ev : PySem.W.subIn K (.ref C_BadRow) (.type "ValueError") = some true)
    (sbn : PySem.W.subIn K (.ref C_NetError) (.type "BaseException") = some true)
    (eu_BadFlows : PySem.W.subIn K (.ref C_BadRow) (.ref C_BadFlows) = some false)
    (ic_BadFlows : PySem.W.isClsIn K C_BadFlows = true)
    (tc_BadFlows : PySem.W.typeIn K (.ref C_BadFlows) = some (.type "type"))
    (se_BadFlows : PySem.W.subIn K (.ref C_BadFlows) (.ref C_BadFlows) = some true)
    (eu_BadFraction : PySem.W.subIn K (.ref C_BadRow) (.ref C_BadFraction) = some false)
    (ic_BadFraction : PySem.W.isClsIn K C_BadFraction = true)
    (tc_BadFraction : PySem.W.typeIn K (.ref C_BadFraction) = some (.type "type"))
    (se_BadFraction : PySem.W.subIn K (.ref C_BadFraction) (.ref C_BadFraction) = some true)
    (eu_BadNet : PySem.W.subIn K (.ref C_BadRow) (.ref C_BadNet) = some false)
    (ic_BadNet : PySem.W.isClsIn K C_BadNet = true)
    (tc_BadNet : PySem.W.typeIn K (.ref C_BadNet) = some (.type "type"))
    (se_BadNet : PySem.W.subIn K (.ref C_BadNet) (.ref C_BadNet) = some true)
    (ic_BadRow : PySem.W.isClsIn K C_BadRow = true)
    (tc_BadRow : PySem.W.typeIn K (.ref C_BadRow) = some (.type "type"))
    (se_BadRow : PySem.W.subIn K (.ref C_BadRow) (.ref C_BadRow) = some true)
    (eu_NetError : PySem.W.subIn K (.ref C_BadRow) (.ref C_NetError) = some true)
    (ic_NetError : PySem.W.isClsIn K C_NetError = true)
    (tc_NetError : PySem.W.typeIn K (.ref C_NetError) = some (.type "type"))
    (se_NetError : PySem.W.subIn K (.ref C_NetError) (.ref C_NetError) = some true)
    (eu_NoPipe : PySem.W.subIn K (.ref C_BadRow) (.ref C_NoPipe) = some false)
    (ic_NoPipe : PySem.W.isClsIn K C_NoPipe = true)
    (tc_NoPipe : PySem.W.typeIn K (.ref C_NoPipe) = some (.type "type"))
    (se_NoPipe : PySem.W.subIn K (.ref C_NoPipe) (.ref C_NoPipe) = some true)
    (eu_NoPlace : PySem.W.subIn K (.ref C_BadRow) (.ref C_NoPlace) = some false)
    (ic_NoPlace : PySem.W.isClsIn K C_NoPlace = true)
    (tc_NoPlace : PySem.W.typeIn K (.ref C_NoPlace) = some (.type "type"))
    (se_NoPlace : PySem.W.subIn K (.ref C_NoPlace) (.ref C_NoPlace) = some true)
    (ri_a : PySem.W.findIn K (.ref C_BadRow) "__init__" = some (some (.ref f_BadRow_init)))
    (ri_t : PySem.W.typeIn K (.ref f_BadRow_init) = some (.type "function"))
    (ri_l : K.lookup f_BadRow_init = some ⟨oc_r, od_r, .func (PySem.W.fnOf "__init__" "BadRow.__init__" (defArgs s_BadRow_init) (defBody s_BadRow_init) (defScope s_BadRow_init) .none kV_r dc_r pm_r an_r cd_r ct_r), sl_r⟩)
    (ri_c : PySem.W.codeIn K cd_r "BadRow.__init__" = true)
    (ri_k : PySem.W.keepIn K (.ref f_BadRow_init) = true)
    (n1_MOST_PLACES : PySem.W.nsIn K mainGlobals "MOST_PLACES" = some (some (.int 8 t1_MOST_PLACES)))
    (n1_MOST_PIPES : PySem.W.nsIn K mainGlobals "MOST_PIPES" = some (some (.int 28 t1_MOST_PIPES)))
    (n1_GREATEST : PySem.W.nsIn K mainGlobals "GREATEST" = some (some (.int 1000000000 t1_GREATEST)))
    (n1_FIGURES : PySem.W.nsIn K mainGlobals "FIGURES" = some (some (.str "0123456789" t1_FIGURES)))
    (z_abs : PySem.W.nsIn K mainGlobals "abs" = some none)
    (z_all : PySem.W.nsIn K mainGlobals "all" = some none)
    (z_any : PySem.W.nsIn K mainGlobals "any" = some none)
    (z_bool : PySem.W.nsIn K mainGlobals "bool" = some none)
    (z_int : PySem.W.nsIn K mainGlobals "int" = some none)
    (z_isinstance : PySem.W.nsIn K mainGlobals "isinstance" = some none)
    (z_len : PySem.W.nsIn K mainGlobals "len" = some none)
    (z_list : PySem.W.nsIn K mainGlobals "list" = some none)
    (z_max : PySem.W.nsIn K mainGlobals "max" = some none)
    (z_min : PySem.W.nsIn K mainGlobals "min" = some none)
    (z_range : PySem.W.nsIn K mainGlobals "range" = some none)
    (z_reversed : PySem.W.nsIn K mainGlobals "reversed" = some none)
    (z_sorted : PySem.W.nsIn K mainGlobals "sorted" = some none)
    (z_str : PySem.W.nsIn K mainGlobals "str" = some none)
    (z_tuple : PySem.W.nsIn K mainGlobals "tuple" = some none)
    (z_zip : PySem.W.nsIn K mainGlobals "zip" = some none)
    (a_is_whole : PySem.W.nsIn K mainGlobals "is_whole" = some (some (.ref f_is_whole)))
    (l_is_whole : K.lookup f_is_whole = some ⟨oc_is_whole, od_is_whole, .func (PySem.W.fnOf "is_whole" "is_whole" (defArgs s_is_whole) (defBody s_is_whole) (defScope s_is_whole) .none kV_is_whole dc_is_whole pm_is_whole an_is_whole cd_is_whole ct_is_whole), sl_is_whole⟩)
    (c_is_whole : PySem.W.codeIn K cd_is_whole "is_whole" = true)
    (k_is_whole : PySem.W.keepIn K (.ref f_is_whole) = true)
    (a_within : PySem.W.nsIn K mainGlobals "within" = some (some (.ref f_within)))
    (l_within : K.lookup f_within = some ⟨oc_within, od_within, .func (PySem.W.fnOf "within" "within" (defArgs s_within) (defBody s_within) (defScope s_within) .none kV_within dc_within pm_within an_within cd_within ct_within), sl_within⟩)
    (c_within : PySem.W.codeIn K cd_within "within" = true)
    (k_within : PySem.W.keepIn K (.ref f_within) = true)
    (a_common : PySem.W.nsIn K mainGlobals "common" = some (some (.ref f_common)))
    (l_common : K.lookup f_common = some ⟨oc_common, od_common, .func (PySem.W.fnOf "common" "common" (defArgs s_common) (defBody s_common) (defScope s_common) .none kV_common dc_common pm_common an_common cd_common ct_common), sl_common⟩)
    (c_common : PySem.W.codeIn K cd_common "common" = true)
    (k_common : PySem.W.keepIn K (.ref f_common) = true)
    (a_is_fraction : PySem.W.nsIn K mainGlobals "is_fraction" = some (some (.ref f_is_fraction)))
    (l_is_fraction : K.lookup f_is_fraction = some ⟨oc_is_fraction, od_is_fraction, .func (PySem.W.fnOf "is_fraction" "is_fraction" (defArgs s_is_fraction) (defBody s_is_fraction) (defScope s_is_fraction) .none kV_is_fraction dc_is_fraction pm_is_fraction an_is_fraction cd_is_fraction ct_is_fraction), sl_is_fraction⟩)
    (c_is_fraction : PySem.W.codeIn K cd_is_fraction "is_fraction" = true)
    (k_is_fraction : PySem.W.keepIn K (.ref f_is_fraction) = true)
    (a_is_pipe : PySem.W.nsIn K mainGlobals "is_pipe" = some (some (.ref f_is_pipe)))
    (l_is_pipe : K.lookup f_is_pipe = some ⟨oc_is_pipe, od_is_pipe, .func (PySem.W.fnOf "is_pipe" "is_pipe" (defArgs s_is_pipe) (defBody s_is_pipe) (defScope s_is_pipe) .none kV_is_pipe dc_is_pipe pm_is_pipe an_is_pipe cd_is_pipe ct_is_pipe), sl_is_pipe⟩)
    (c_is_pipe : PySem.W.codeIn K cd_is_pipe "is_pipe" = true)
    (k_is_pipe : PySem.W.keepIn K (.ref f_is_pipe) = true)
    (a_Net_init : PySem.W.findIn K (.ref C_Net) "__init__" = some (some (.ref f_Net_init)))
    (i_Net_init : PySem.W.isFn K (.ref f_Net_init) = true)
    (l_Net_init : K.lookup f_Net_init = some ⟨oc_Net_init, od_Net_init, .func (PySem.W.fnOf "__init__" "Net.__init__" (defArgs s_Net_init) (defBody s_Net_init) (defScope s_Net_init) .none kV_Net_init dc_Net_init pm_Net_init an_Net_init cd_Net_init ct_Net_init), sl_Net_init⟩)
    (c_Net_init : PySem.W.codeIn K cd_Net_init "Net.__init__" = true)
    (k_Net_init : PySem.W.keepIn K (.ref f_Net_init) = true)
    (a_number_in : PySem.W.nsIn K mainGlobals "number_in" = some (some (.ref f_number_in)))
    (l_number_in : K.lookup f_number_in = some ⟨oc_number_in, od_number_in, .func (PySem.W.fnOf "number_in" "number_in" (defArgs s_number_in) (defBody s_number_in) (defScope s_number_in) .none kV_number_in dc_number_in pm_number_in an_number_in cd_number_in ct_number_in), sl_number_in⟩)
    (c_number_in : PySem.W.codeIn K cd_number_in "number_in" = true)
    (k_number_in : PySem.W.keepIn K (.ref f_number_in) = true)
    (a_fraction_in : PySem.W.nsIn K mainGlobals "fraction_in" = some (some (.ref f_fraction_in)))
    (l_fraction_in : K.lookup f_fraction_in = some ⟨oc_fraction_in, od_fraction_in, .func (PySem.W.fnOf "fraction_in" "fraction_in" (defArgs s_fraction_in) (defBody s_fraction_in) (defScope s_fraction_in) .none kV_fraction_in dc_fraction_in pm_fraction_in an_fraction_in cd_fraction_in ct_fraction_in), sl_fraction_in⟩)
    (c_fraction_in : PySem.W.codeIn K cd_fraction_in "fraction_in" = true)
    (k_fraction_in : PySem.W.keepIn K (.ref f_fraction_in) = true)
    (a_pipe_in : PySem.W.nsIn K mainGlobals "pipe_in" = some (some (.ref f_pipe_in)))
    (l_pipe_in : K.lookup f_pipe_in = some ⟨oc_pipe_in, od_pipe_in, .func (PySem.W.fnOf "pipe_in" "pipe_in" (defArgs s_pipe_in) (defBody s_pipe_in) (defScope s_pipe_in) .none kV_pipe_in dc_pipe_in pm_pipe_in an_pipe_in cd_pipe_in ct_pipe_in), sl_pipe_in⟩)
    (c_pipe_in : PySem.W.codeIn K cd_pipe_in "pipe_in" = true)
    (k_pipe_in : PySem.W.keepIn K (.ref f_pipe_in) = true)
    (a_net_of : PySem.W.nsIn K mainGlobals "net_of" = some (some (.ref f_net_of)))
    (l_net_of : K.lookup f_net_of = some ⟨oc_net_of, od_net_of, .func (PySem.W.fnOf "net_of" "net_of" (defArgs s_net_of) (defBody s_net_of) (defScope s_net_of) .none kV_net_of dc_net_of pm_net_of an_net_of cd_net_of ct_net_of), sl_net_of⟩)
    (c_net_of : PySem.W.codeIn K cd_net_of "net_of" = true)
    (k_net_of : PySem.W.keepIn K (.ref f_net_of) = true)
    (a_read : PySem.W.nsIn K mainGlobals "read" = some (some (.ref f_read)))
    (l_read : K.lookup f_read = some ⟨oc_read, od_read, .func (PySem.W.fnOf "read" "read" (defArgs s_read) (defBody s_read) (defScope s_read) .none kV_read dc_read pm_read an_read cd_read ct_read), sl_read⟩)
    (c_read : PySem.W.codeIn K cd_read "read" = true)
    (k_read : PySem.W.keepIn K (.ref f_read) = true)
    (a_law_cell_at : PySem.W.nsIn K mainGlobals "_law_cell_at" = some (some (.ref f_law_cell_at)))
    (l_law_cell_at : K.lookup f_law_cell_at = some ⟨oc_law_cell_at, od_law_cell_at, .func (PySem.W.fnOf "_law_cell_at" "_law_cell_at" (defArgs s_law_cell_at) (defBody s_law_cell_at) (defScope s_law_cell_at) .none kV_law_cell_at dc_law_cell_at pm_law_cell_at an_law_cell_at cd_law_cell_at ct_law_cell_at), sl_law_cell_at⟩)
    (c_law_cell_at : PySem.W.codeIn K cd_law_cell_at "_law_cell_at" = true)
    (k_law_cell_at : PySem.W.keepIn K (.ref f_law_cell_at) = true)
    (a_law_draw : PySem.W.nsIn K mainGlobals "_law_draw" = some (some (.ref f_law_draw)))
    (l_law_draw : K.lookup f_law_draw = some ⟨oc_law_draw, od_law_draw, .func (PySem.W.fnOf "_law_draw" "_law_draw" (defArgs s_law_draw) (defBody s_law_draw) (defScope s_law_draw) .none kV_law_draw dc_law_draw pm_law_draw an_law_draw cd_law_draw ct_law_draw), sl_law_draw⟩)
    (c_law_draw : PySem.W.codeIn K cd_law_draw "_law_draw" = true)
    (k_law_draw : PySem.W.keepIn K (.ref f_law_draw) = true)
    (a_law_refused : PySem.W.nsIn K mainGlobals "_law_refused" = some (some (.ref f_law_refused)))
    (l_law_refused : K.lookup f_law_refused = some ⟨oc_law_refused, od_law_refused, .func (PySem.W.fnOf "_law_refused" "_law_refused" (defArgs s_law_refused) (defBody s_law_refused) (defScope s_law_refused) .none kV_law_refused dc_law_refused pm_law_refused an_law_refused cd_law_refused ct_law_refused), sl_law_refused⟩)
    (c_law_refused : PySem.W.codeIn K cd_law_refused "_law_refused" = true)
    (k_law_refused : PySem.W.keepIn K (.ref f_law_refused) = true)
    (a_law_more : PySem.W.nsIn K mainGlobals "_law_more" = some (some (.ref f_law_more)))
    (l_law_more : K.lookup f_law_more = some ⟨oc_law_more, od_law_more, .func (PySem.W.fnOf "_law_more" "_law_more" (defArgs s_law_more) (defBody s_law_more) (defScope s_law_more) .none kV_law_more dc_law_more pm_law_more an_law_more cd_law_more ct_law_more), sl_law_more⟩)
    (c_law_more : PySem.W.codeIn K cd_law_more "_law_more" = true)
    (k_law_more : PySem.W.keepIn K (.ref f_law_more) = true)
    (a_law_bad_pipe : PySem.W.nsIn K mainGlobals "_law_bad_pipe" = some (some (.ref f_law_bad_pipe)))
    (l_law_bad_pipe : K.lookup f_law_bad_pipe = some ⟨oc_law_bad_pipe, od_law_bad_pipe, .func (PySem.W.fnOf "_law_bad_pipe" "_law_bad_pipe" (defArgs s_law_bad_pipe) (defBody s_law_bad_pipe) (defScope s_law_bad_pipe) .none kV_law_bad_pipe dc_law_bad_pipe pm_law_bad_pipe an_law_bad_pipe cd_law_bad_pipe ct_law_bad_pipe), sl_law_bad_pipe⟩)
    (c_law_bad_pipe : PySem.W.codeIn K cd_law_bad_pipe "_law_bad_pipe" = true)
    (k_law_bad_pipe : PySem.W.keepIn K (.ref f_law_bad_pipe) = true)
    (a_law_bad_head : PySem.W.nsIn K mainGlobals "_law_bad_head" = some (some (.ref f_law_bad_head)))
    (l_law_bad_head : K.lookup f_law_bad_head = some ⟨oc_law_bad_head, od_law_bad_head, .func (PySem.W.fnOf "_law_bad_head" "_law_bad_head" (defArgs s_law_bad_head) (defBody s_law_bad_head) (defScope s_law_bad_head) .none kV_law_bad_head dc_law_bad_head pm_law_bad_head an_law_bad_head cd_law_bad_head ct_law_bad_head), sl_law_bad_head⟩)
    (c_law_bad_head : PySem.W.codeIn K cd_law_bad_head "_law_bad_head" = true)
    (k_law_bad_head : PySem.W.keepIn K (.ref f_law_bad_head) = true)
    (a_law : PySem.W.nsIn K mainGlobals "law" = some (some (.ref f_law)))
    (l_law : K.lookup f_law = some ⟨oc_law, od_law, .func (PySem.W.fnOf "law" "law" (defArgs s_law) (defBody s_law) (defScope s_law) .none kV_law dc_law pm_law an_law cd_law ct_law), sl_law⟩)
    (c_law : PySem.W.codeIn K cd_law "law" = true)
    (k_law : PySem.W.keepIn K (.ref f_law) = true) :
    ∃ (g : Nat → Addr) (fd : FuncData), (∀ (s : Shared) (v : Value), BindsTo s fd ⟨[v], []⟩ [("_law_script", v)]) ∧ ∀ base : Heap, K.In base → base.Ns mainGlobals mg → FnG P w K mg base (L2N.CX P w) 9 fa fd ["_law_script"] (spD K g 1 F_law) := by
  have e := hfa.symm.trans (PySem.W.mg_of X G a_law)
  cases e
  refine ⟨gM C_Net C_NetError C_BadFraction C_BadNet C_NoPlace C_NoPipe C_BadFlows C_BadRow, PySem.W.fnOf "law" "law" (defArgs s_law) (defBody s_law) (defScope s_law) .none kV_law dc_law pm_law an_law cd_law ct_law, fun s v => .of_eq rfl, fun base _ _ => ?_⟩
  have B : Bl mg := ⟨PySem.W.mg_none_of X G z_abs, PySem.W.mg_none_of X G z_all, PySem.W.mg_none_of X G z_any, PySem.W.mg_none_of X G z_bool, PySem.W.mg_none_of X G z_int, PySem.W.mg_none_of X G z_isinstance, PySem.W.mg_none_of X G z_len, PySem.W.mg_none_of X G z_list, PySem.W.mg_none_of X G z_max, PySem.W.mg_none_of X G z_min, PySem.W.mg_none_of X G z_range, PySem.W.mg_none_of X G z_reversed, PySem.W.mg_none_of X G z_sorted, PySem.W.mg_none_of X G z_str, PySem.W.mg_none_of X G z_tuple, PySem.W.mg_none_of X G z_zip⟩
  have cl_Net : Cls K (gM C_Net C_NetError C_BadFraction C_BadNet C_NoPlace C_NoPipe C_BadFlows C_BadRow 0) := ⟨pg_Net, hd_Net, po_Net, sa_Net⟩
  have a_rows : Cls K (gM C_Net C_NetError C_BadFraction C_BadNet C_NoPlace C_NoPipe C_BadFlows C_BadRow 0) ∧ NoAttr K (gM C_Net C_NetError C_BadFraction C_BadNet C_NoPlace C_NoPipe C_BadFlows C_BadRow 0) "rows" := ⟨cl_Net, na_rows⟩
  have a_size : Cls K (gM C_Net C_NetError C_BadFraction C_BadNet C_NoPlace C_NoPipe C_BadFlows C_BadRow 0) ∧ NoAttr K (gM C_Net C_NetError C_BadFraction C_BadNet C_NoPlace C_NoPipe C_BadFlows C_BadRow 0) "size" := ⟨cl_Net, na_size⟩
  have rw : RowD P w K mg base (gM C_Net C_NetError C_BadFraction C_BadNet C_NoPlace C_NoPipe C_BadFlows C_BadRow 16) := rd_mk ⟨⟨⟨nm_r, q_r, N_r, bs_r, bm_r, sn_r, sub_r, ab_r, col_r, dd_r, k0_r, k1_r, k2_r, k3_r, k5_r, rc_cls, rc_ve⟩, rc_sa, rc_sb, tc_BadRow, rc_kp⟩, ri_a, ri_t, rc_no, PySem.W.mg_of X G aC_BadRow, PySem.W.mg_of X G aC_NetError, ⟨rc_rd, rc_ga⟩, rc_at⟩ (fun_mk (st := s_BadRow_init) ri_l ri_c ri_k) ((fun_mk (st := s_BadRow_init) ri_l ri_c ri_k).binds (ps := ["self", "row"]) fun _ _ _ _ _ _ us hl => match us, hl with | [_, _], _ => rfl)
  have bn : PySem.W.exmOne K (.ref (gM C_Net C_NetError C_BadFraction C_BadNet C_NoPlace C_NoPipe C_BadFlows C_BadRow 12)) (.ref (gM C_Net C_NetError C_BadFraction C_BadNet C_NoPlace C_NoPipe C_BadFlows C_BadRow 12)) = some true ∧ mg "BadNet" = some (.ref (gM C_Net C_NetError C_BadFraction C_BadNet C_NoPlace C_NoPipe C_BadFlows C_BadRow 12)) := ⟨exm_own sb_BadNet ic_BadNet tc_BadNet se_BadNet, PySem.W.mg_of X G aC_BadNet⟩
  have exr : PySem.W.exmOne K (.ref (gM C_Net C_NetError C_BadFraction C_BadNet C_NoPlace C_NoPipe C_BadFlows C_BadRow 16)) (.ref (gM C_Net C_NetError C_BadFraction C_BadNet C_NoPlace C_NoPipe C_BadFlows C_BadRow 10)) = some true ∧ ExcC K (gM C_Net C_NetError C_BadFraction C_BadNet C_NoPlace C_NoPipe C_BadFlows C_BadRow 16) ∧ PySem.W.kitOne K (.ref (gM C_Net C_NetError C_BadFraction C_BadNet C_NoPlace C_NoPipe C_BadFlows C_BadRow 16)) (.type "ValueError") = some true ∧ mg "NetError" = some (.ref (gM C_Net C_NetError C_BadFraction C_BadNet C_NoPlace C_NoPipe C_BadFlows C_BadRow 10)) ∧ mg "ValueError" = none ∧ PySem.W.findIn K (.ref (gM C_Net C_NetError C_BadFraction C_BadNet C_NoPlace C_NoPipe C_BadFlows C_BadRow 16)) "row" = some none := ⟨exm_own sbn ic_NetError tc_NetError eu_NetError, ⟨eg, ek, rc_sb, ed, ea, sg, tk, em⟩, kitOneV ev, PySem.W.mg_of X G aC_NetError, PySem.W.mg_none_of X G nv, rc_no⟩
  have ier_BadFlows : PySem.W.kitOne K (.ref (gM C_Net C_NetError C_BadFraction C_BadNet C_NoPlace C_NoPipe C_BadFlows C_BadRow 16)) (.ref (gM C_Net C_NetError C_BadFraction C_BadNet C_NoPlace C_NoPipe C_BadFlows C_BadRow 15)) = some false ∧ mg "BadFlows" = some (.ref (gM C_Net C_NetError C_BadFraction C_BadNet C_NoPlace C_NoPipe C_BadFlows C_BadRow 15)) := ⟨kit_own ic_BadFlows tc_BadFlows eu_BadFlows se_BadFlows, PySem.W.mg_of X G aC_BadFlows⟩
  have ier_BadFraction : PySem.W.kitOne K (.ref (gM C_Net C_NetError C_BadFraction C_BadNet C_NoPlace C_NoPipe C_BadFlows C_BadRow 16)) (.ref (gM C_Net C_NetError C_BadFraction C_BadNet C_NoPlace C_NoPipe C_BadFlows C_BadRow 11)) = some false ∧ mg "BadFraction" = some (.ref (gM C_Net C_NetError C_BadFraction C_BadNet C_NoPlace C_NoPipe C_BadFlows C_BadRow 11)) := ⟨kit_own ic_BadFraction tc_BadFraction eu_BadFraction se_BadFraction, PySem.W.mg_of X G aC_BadFraction⟩
  have ier_BadNet : PySem.W.kitOne K (.ref (gM C_Net C_NetError C_BadFraction C_BadNet C_NoPlace C_NoPipe C_BadFlows C_BadRow 16)) (.ref (gM C_Net C_NetError C_BadFraction C_BadNet C_NoPlace C_NoPipe C_BadFlows C_BadRow 12)) = some false ∧ mg "BadNet" = some (.ref (gM C_Net C_NetError C_BadFraction C_BadNet C_NoPlace C_NoPipe C_BadFlows C_BadRow 12)) := ⟨kit_own ic_BadNet tc_BadNet eu_BadNet se_BadNet, PySem.W.mg_of X G aC_BadNet⟩
  have ier_BadRow : PySem.W.kitOne K (.ref (gM C_Net C_NetError C_BadFraction C_BadNet C_NoPlace C_NoPipe C_BadFlows C_BadRow 16)) (.ref (gM C_Net C_NetError C_BadFraction C_BadNet C_NoPlace C_NoPipe C_BadFlows C_BadRow 16)) = some true ∧ mg "BadRow" = some (.ref (gM C_Net C_NetError C_BadFraction C_BadNet C_NoPlace C_NoPipe C_BadFlows C_BadRow 16)) := ⟨kit_own ic_BadRow tc_BadRow se_BadRow se_BadRow, PySem.W.mg_of X G aC_BadRow⟩
  have ier_NoPipe : PySem.W.kitOne K (.ref (gM C_Net C_NetError C_BadFraction C_BadNet C_NoPlace C_NoPipe C_BadFlows C_BadRow 16)) (.ref (gM C_Net C_NetError C_BadFraction C_BadNet C_NoPlace C_NoPipe C_BadFlows C_BadRow 14)) = some false ∧ mg "NoPipe" = some (.ref (gM C_Net C_NetError C_BadFraction C_BadNet C_NoPlace C_NoPipe C_BadFlows C_BadRow 14)) := ⟨kit_own ic_NoPipe tc_NoPipe eu_NoPipe se_NoPipe, PySem.W.mg_of X G aC_NoPipe⟩
  have ier_NoPlace : PySem.W.kitOne K (.ref (gM C_Net C_NetError C_BadFraction C_BadNet C_NoPlace C_NoPipe C_BadFlows C_BadRow 16)) (.ref (gM C_Net C_NetError C_BadFraction C_BadNet C_NoPlace C_NoPipe C_BadFlows C_BadRow 13)) = some false ∧ mg "NoPlace" = some (.ref (gM C_Net C_NetError C_BadFraction C_BadNet C_NoPlace C_NoPipe C_BadFlows C_BadRow 13)) := ⟨kit_own ic_NoPlace tc_NoPlace eu_NoPlace se_NoPlace, PySem.W.mg_of X G aC_NoPlace⟩
  have x_BadNet : ExcT K (gM C_Net C_NetError C_BadFraction C_BadNet C_NoPlace C_NoPipe C_BadFlows C_BadRow 12) ∧ mg "BadNet" = some (.ref (gM C_Net C_NetError C_BadFraction C_BadNet C_NoPlace C_NoPipe C_BadFlows C_BadRow 12)) := ⟨⟨ex_BadNet, kp_BadNet, sb_BadNet, ty_BadNet⟩, PySem.W.mg_of X G aC_BadNet⟩
  have g_MOST_PLACES : Gc K mg "MOST_PLACES" c_MOST_PLACES := gc_int X G n1_MOST_PLACES
  have g_MOST_PIPES : Gc K mg "MOST_PIPES" c_MOST_PIPES := gc_int X G n1_MOST_PIPES
  have g_GREATEST : Gc K mg "GREATEST" c_GREATEST := gc_int X G n1_GREATEST
  have g_FIGURES : Gc K mg "FIGURES" c_FIGURES := gc_str X G n1_FIGURES
  have F_is_whole' := fun_mk (st := s_is_whole) l_is_whole c_is_whole k_is_whole
  have h_is_whole : Df P w K mg base (gM C_Net C_NetError C_BadFraction C_BadNet C_NoPlace C_NoPipe C_BadFlows C_BadRow) "is_whole" 1 1 P_is_whole F_is_whole := Df.mk' (PySem.W.mg_of X G a_is_whole) F_is_whole' (F_is_whole'.binds (ps := P_is_whole) fun _ _ _ _ _ _ us hl => match us, hl with | [_], _ => rfl) (ok_is_whole B  F_is_whole')
  have F_within' := fun_mk (st := s_within) l_within c_within k_within
  have h_within : Df P w K mg base (gM C_Net C_NetError C_BadFraction C_BadNet C_NoPlace C_NoPipe C_BadFlows C_BadRow) "within" 2 3 P_within F_within := Df.mk' (PySem.W.mg_of X G a_within) F_within' (F_within'.binds (ps := P_within) fun _ _ _ _ _ _ us hl => match us, hl with | [_, _, _], _ => rfl) (ok_within B h_is_whole F_within')
  have F_common' := fun_mk (st := s_common) l_common c_common k_common
  have h_common : Df P w K mg base (gM C_Net C_NetError C_BadFraction C_BadNet C_NoPlace C_NoPipe C_BadFlows C_BadRow) "common" 1 2 P_common F_common := Df.mk' (PySem.W.mg_of X G a_common) F_common' (F_common'.binds (ps := P_common) fun _ _ _ _ _ _ us hl => match us, hl with | [_, _], _ => rfl) (ok_common B  F_common')
  have F_is_fraction' := fun_mk (st := s_is_fraction) l_is_fraction c_is_fraction k_is_fraction
  have h_is_fraction : Df P w K mg base (gM C_Net C_NetError C_BadFraction C_BadNet C_NoPlace C_NoPipe C_BadFlows C_BadRow) "is_fraction" 2 1 P_is_fraction F_is_fraction := Df.mk' (PySem.W.mg_of X G a_is_fraction) F_is_fraction' (F_is_fraction'.binds (ps := P_is_fraction) fun _ _ _ _ _ _ us hl => match us, hl with | [_], _ => rfl) (ok_is_fraction B h_common h_is_whole F_is_fraction')
  have F_is_pipe' := fun_mk (st := s_is_pipe) l_is_pipe c_is_pipe k_is_pipe
  have h_is_pipe : Df P w K mg base (gM C_Net C_NetError C_BadFraction C_BadNet C_NoPlace C_NoPipe C_BadFlows C_BadRow) "is_pipe" 3 2 P_is_pipe F_is_pipe := Df.mk' (PySem.W.mg_of X G a_is_pipe) F_is_pipe' (F_is_pipe'.binds (ps := P_is_pipe) fun _ _ _ _ _ _ us hl => match us, hl with | [_, _], _ => rfl) (ok_is_pipe B g_GREATEST h_is_fraction h_within F_is_pipe')
  have F_Net_init' := fun_mk (st := s_Net_init) l_Net_init c_Net_init k_Net_init
  have h_Net_init : Dk P w K mg base (gM C_Net C_NetError C_BadFraction C_BadNet C_NoPlace C_NoPipe C_BadFlows C_BadRow) "Net" 0 4 3 P_Net_init F_Net_init := Dk.mk' (PySem.W.mg_of X G aC_Net) ⟨mk_Net, a_Net_init, i_Net_init, kc_Net⟩ (F_Net_init'.binds (ps := P_Net_init) fun _ _ _ _ _ _ us hl => match us, hl with | [_, _, _], _ => rfl) (ok_Net_init B a_rows a_size g_MOST_PIPES g_MOST_PLACES h_is_pipe h_within x_BadNet F_Net_init')
  have F_number_in' := fun_mk (st := s_number_in) l_number_in c_number_in k_number_in
  have h_number_in : Df P w K mg base (gM C_Net C_NetError C_BadFraction C_BadNet C_NoPlace C_NoPipe C_BadFlows C_BadRow) "number_in" 1 1 P_number_in F_number_in := Df.mk' (PySem.W.mg_of X G a_number_in) F_number_in' (F_number_in'.binds (ps := P_number_in) fun _ _ _ _ _ _ us hl => match us, hl with | [_], _ => rfl) (ok_number_in B g_FIGURES F_number_in')
  have F_fraction_in' := fun_mk (st := s_fraction_in) l_fraction_in c_fraction_in k_fraction_in
  have h_fraction_in : Df P w K mg base (gM C_Net C_NetError C_BadFraction C_BadNet C_NoPlace C_NoPipe C_BadFlows C_BadRow) "fraction_in" 3 1 P_fraction_in F_fraction_in := Df.mk' (PySem.W.mg_of X G a_fraction_in) F_fraction_in' (F_fraction_in'.binds (ps := P_fraction_in) fun _ _ _ _ _ _ us hl => match us, hl with | [_], _ => rfl) (ok_fraction_in B h_is_fraction h_number_in F_fraction_in')
  have F_pipe_in' := fun_mk (st := s_pipe_in) l_pipe_in c_pipe_in k_pipe_in
  have h_pipe_in : Df P w K mg base (gM C_Net C_NetError C_BadFraction C_BadNet C_NoPlace C_NoPipe C_BadFlows C_BadRow) "pipe_in" 4 1 P_pipe_in F_pipe_in := Df.mk' (PySem.W.mg_of X G a_pipe_in) F_pipe_in' (F_pipe_in'.binds (ps := P_pipe_in) fun _ _ _ _ _ _ us hl => match us, hl with | [_], _ => rfl) (ok_pipe_in B h_fraction_in h_number_in F_pipe_in')
  have F_net_of' := fun_mk (st := s_net_of) l_net_of c_net_of k_net_of
  have h_net_of : Dc P w K mg base (gM C_Net C_NetError C_BadFraction C_BadNet C_NoPlace C_NoPipe C_BadFlows C_BadRow) "net_of" 6 3 P_net_of F_net_of := Dc.mk' (PySem.W.mg_of X G a_net_of) F_net_of' (F_net_of'.binds (ps := P_net_of) fun _ _ _ _ _ _ us hl => match us, hl with | [_, _, _], _ => rfl) (ok_net_of B bn h_Net_init rw F_net_of')
  have F_read' := fun_mk (st := s_read) l_read c_read k_read
  have h_read : Dc P w K mg base (gM C_Net C_NetError C_BadFraction C_BadNet C_NoPlace C_NoPipe C_BadFlows C_BadRow) "read" 7 1 P_read F_read := Dc.mk' (PySem.W.mg_of X G a_read) F_read' (F_read'.binds (ps := P_read) fun _ _ _ _ _ _ us hl => match us, hl with | [_], _ => rfl) (ok_read B a_size h_net_of h_number_in h_pipe_in rw F_read')
  have F_law_cell_at' := fun_mk (st := s_law_cell_at) l_law_cell_at c_law_cell_at k_law_cell_at
  have h_law_cell_at : Df P w K mg base (gM C_Net C_NetError C_BadFraction C_BadNet C_NoPlace C_NoPipe C_BadFlows C_BadRow) "_law_cell_at" 1 2 P_law_cell_at F_law_cell_at := Df.mk' (PySem.W.mg_of X G a_law_cell_at) F_law_cell_at' (F_law_cell_at'.binds (ps := P_law_cell_at) fun _ _ _ _ _ _ us hl => match us, hl with | [_, _], _ => rfl) (ok_law_cell_at B  F_law_cell_at')
  have F_law_draw' := fun_mk (st := s_law_draw) l_law_draw c_law_draw k_law_draw
  have h_law_draw : Df P w K mg base (gM C_Net C_NetError C_BadFraction C_BadNet C_NoPlace C_NoPipe C_BadFlows C_BadRow) "_law_draw" 1 3 P_law_draw F_law_draw := Df.mk' (PySem.W.mg_of X G a_law_draw) F_law_draw' (F_law_draw'.binds (ps := P_law_draw) fun _ _ _ _ _ _ us hl => match us, hl with | [_, _, _], _ => rfl) (ok_law_draw B  F_law_draw')
  have F_law_refused' := fun_mk (st := s_law_refused) l_law_refused c_law_refused k_law_refused
  have h_law_refused : Df P w K mg base (gM C_Net C_NetError C_BadFraction C_BadNet C_NoPlace C_NoPipe C_BadFlows C_BadRow) "_law_refused" 8 1 P_law_refused F_law_refused := Df.mk' (PySem.W.mg_of X G a_law_refused) F_law_refused' (F_law_refused'.binds (ps := P_law_refused) fun _ _ _ _ _ _ us hl => match us, hl with | [_], _ => rfl) (ok_law_refused B h_read exr ier_BadFlows ier_BadFraction ier_BadNet ier_BadRow ier_NoPipe ier_NoPlace F_law_refused')
  have F_law_more' := fun_mk (st := s_law_more) l_law_more c_law_more k_law_more
  have h_law_more : Df P w K mg base (gM C_Net C_NetError C_BadFraction C_BadNet C_NoPlace C_NoPipe C_BadFlows C_BadRow) "_law_more" 1 0 P_law_more F_law_more := Df.mk' (PySem.W.mg_of X G a_law_more) F_law_more' (F_law_more'.binds (ps := P_law_more) fun _ _ _ _ _ _ us hl => match us, hl with | [], _ => rfl) (ok_law_more B  F_law_more')
  have F_law_bad_pipe' := fun_mk (st := s_law_bad_pipe) l_law_bad_pipe c_law_bad_pipe k_law_bad_pipe
  have h_law_bad_pipe : Df P w K mg base (gM C_Net C_NetError C_BadFraction C_BadNet C_NoPlace C_NoPipe C_BadFlows C_BadRow) "_law_bad_pipe" 2 1 P_law_bad_pipe F_law_bad_pipe := Df.mk' (PySem.W.mg_of X G a_law_bad_pipe) F_law_bad_pipe' (F_law_bad_pipe'.binds (ps := P_law_bad_pipe) fun _ _ _ _ _ _ us hl => match us, hl with | [_], _ => rfl) (ok_law_bad_pipe B h_law_more F_law_bad_pipe')
  have F_law_bad_head' := fun_mk (st := s_law_bad_head) l_law_bad_head c_law_bad_head k_law_bad_head
  have h_law_bad_head : Df P w K mg base (gM C_Net C_NetError C_BadFraction C_BadNet C_NoPlace C_NoPipe C_BadFlows C_BadRow) "_law_bad_head" 1 1 P_law_bad_head F_law_bad_head := Df.mk' (PySem.W.mg_of X G a_law_bad_head) F_law_bad_head' (F_law_bad_head'.binds (ps := P_law_bad_head) fun _ _ _ _ _ _ us hl => match us, hl with | [_], _ => rfl) (ok_law_bad_head B  F_law_bad_head')
  have F_law' := fun_mk (st := s_law) l_law c_law k_law
  exact ok_law B h_law_bad_head h_law_bad_pipe h_law_cell_at h_law_draw h_law_refused F_law'
end K11

set_option Elab.async false
set_option linter.all false
set_option autoImplicit false
set_option maxRecDepth 100000
/-! Things of the heap: fields, methods, stores, tables of places. -/
namespace DL
open PySem PySem.Spec PyProof.Rows L2
section
variable {ρ : Sl} {h : Hv} {x y : D} {n c : Nat} {f m : Str} {fs : List (Str × D)} {o v k : DE} {a : DA} {F : FD} {xs ys : List D}
def flK (c : Nat) (f : Str) (x : D) (h : Hv) : R D := dFld c f (fun _ h => .ok x h) [] h
@[simp] theorem fld_ap : dFld c f o ρ h = (o ρ h).bind (flK c f) := by unfold dFld flK; cases o ρ h <;> rfl
theorem flK_ap (e : h[n]? = some (.ins c fs)) (q : fs.lookup f = some y) : flK c f (.ref n) h = .ok y h := by simp only [flK, dFld, R.bind_ok, e, q, if_true]
def caK (F : FD) (x : D) (xs : List D) (h : Hv) : R D := F (x :: xs) h
@[simp] theorem caK_ap : caK F x xs h = F (x :: xs) h := id rfl
def meK (c : Nat) (m : Str) (F : FD) (a : DA) (ρ : Sl) (x : D) (h : Hv) : R D := dMeth c m F (fun _ h => .ok x h) a ρ h
@[simp] theorem meth_ap : dMeth c m F o a ρ h = (o ρ h).bind (meK c m F a ρ) := by unfold dMeth meK; cases o ρ h <;> rfl
theorem meK_ap (e : h[n]? = some (.ins c fs)) (q : fs.lookup m = none) : meK c m F a ρ (.ref n) h = (a ρ h).bind (caK F (.ref n)) := by
  simp only [meK, dMeth, R.bind_ok, e, q, and_self, if_true]; rfl
def mkK2 (n : Nat) (x : D) (h : Hv) : R D := match x with
  | .non => .ok (.ref n) h
  | _ => .no
@[simp] theorem mkK2_non : mkK2 n .non h = .ok (.ref n) h := id rfl
def mkK (c : Nat) (F : FD) (xs : List D) (h : Hv) : R D := (F (.ref h.length :: xs) (h ++ [.ins c []])).bind (mkK2 h.length)
@[simp] theorem mkK_ap : mkK c F xs h = (F (.ref h.length :: xs) (h ++ [.ins c []])).bind (mkK2 h.length) := id rfl
@[simp] theorem make_ap : dMake c F a ρ h = (a ρ h).bind (mkK c F) := id rfl
def puK2 (c : Nat) (f : Str) (ρ : Sl) (y x : D) (h : Hv) : SR := dPut c f (fun _ h => .ok x h) (fun _ h => .ok y h) ρ h
theorem puK2_ap (e : h[n]? = some (.ins c fs)) (q : fs.length < 900) : puK2 c f ρ y (.ref n) h = .nx ρ (h.set n (.ins c (putD f y fs))) := by
  simp only [puK2, dPut, SR.of_ok, e, q, and_self, if_true]
def puK (c : Nat) (f : Str) (o : DE) (ρ : Sl) (y : D) (h : Hv) : SR := SR.of ρ (o ρ h) (puK2 c f ρ y)
@[simp] theorem puK_ap : puK c f o ρ y h = SR.of ρ (o ρ h) (puK2 c f ρ y) := id rfl
@[simp] theorem put_ap : dPut c f o v ρ h = SR.of ρ (v ρ h) (puK c f o ρ) := by
  unfold dPut puK puK2 dPut
  cases v ρ h with
  | ok y h1 => simp only [SR.of_ok]
  | ex e h1 => rfl
  | no => rfl
def stK3 (ρ : Sl) (y x k : D) (h : Hv) : SR := dStore (fun _ h => .ok x h) (fun _ h => .ok k h) (fun _ h => .ok y h) ρ h
theorem stK3_ap {j : Nat} (e : lstAt h n = some xs) (q : j < xs.length) : stK3 ρ y (.ref n) (.int j) h = .nx ρ (h.set n (.lst (xs.set j y))) := by
  simp only [stK3, dStore, SR.of_ok, lst_get.mp e, ixN_nat q]
def stK2 (i : DE) (ρ : Sl) (y x : D) (h : Hv) : SR := SR.of ρ (i ρ h) (stK3 ρ y x)
@[simp] theorem stK2_ap {i : DE} : stK2 i ρ y x h = SR.of ρ (i ρ h) (stK3 ρ y x) := id rfl
def stK (o i : DE) (ρ : Sl) (y : D) (h : Hv) : SR := SR.of ρ (o ρ h) (stK2 i ρ y)
@[simp] theorem stK_ap {i : DE} : stK o i ρ y h = SR.of ρ (o ρ h) (stK2 i ρ y) := id rfl
@[simp] theorem store_ap {i : DE} : dStore o i v ρ h = SR.of ρ (v ρ h) (stK o i ρ) := id rfl
def sdK3 (ρ : Sl) (y x k : D) (h : Hv) : SR := dStoreD (fun _ h => .ok x h) (fun _ h => .ok k h) (fun _ h => .ok y h) ρ h
theorem sdK3_ap {j : Int} {kvs : List (Key × D)} (e : h[n]? = some (.dK kvs)) (q : kvs.length < cap) : sdK3 ρ y (.ref n) (.int j) h = .nx ρ (h.set n (.dK (putKD kvs (.inl j) y))) := by
  simp only [sdK3, dStoreD, SR.of_ok, e, keyOf, q, if_true]
def sdK2 (i : DE) (ρ : Sl) (y x : D) (h : Hv) : SR := SR.of ρ (i ρ h) (sdK3 ρ y x)
@[simp] theorem sdK2_ap {i : DE} : sdK2 i ρ y x h = SR.of ρ (i ρ h) (sdK3 ρ y x) := id rfl
def sdK (o i : DE) (ρ : Sl) (y : D) (h : Hv) : SR := SR.of ρ (o ρ h) (sdK2 i ρ y)
@[simp] theorem sdK_ap {i : DE} : sdK o i ρ y h = SR.of ρ (o ρ h) (sdK2 i ρ y) := id rfl
@[simp] theorem stored_ap {i : DE} : dStoreD o i v ρ h = SR.of ρ (v ρ h) (sdK o i ρ) := id rfl
theorem len_ref (e : lstAt h n = some xs) : bLen [.ref n] h = .ok (.int xs.length) h := by simp only [bLen, lenOf, lst_get.mp e]
theorem list_ref (e : lstAt h n = some xs) : bList [.ref n] h = .ok (.ref h.length) (h ++ [.lst xs]) := by simp only [bList, itemsOf, e]
theorem ixV_ref {i : Nat} (e : lstAt h n = some xs) (q : xs[i]? = some y) : ixV (lstAt h n) (i : Int) h = .ok y h := by rw [e]; exact ixV_nat q
def mlK2 (f : FM) (n : Nat) (xs : List D) (h : Hv) : R D := match h[n]? with
  | some (.lst ys) => f n ys xs h
  | _ => .no
def mlK (f : FM) (a : DA) (ρ : Sl) (x : D) (h : Hv) : R D := dMl f (fun _ h => .ok x h) a ρ h
@[simp] theorem ml_ap {f : FM} : dMl f o a ρ h = (o ρ h).bind (mlK f a ρ) := by unfold dMl mlK; cases o ρ h <;> rfl
theorem mlK_ap {f : FM} (e : lstAt h n = some ys) : mlK f a ρ (.ref n) h = (a ρ h).bind (mlK2 f n) := by simp only [mlK, dMl, R.bind_ok, lst_get.mp e]; rfl
theorem mlK2_ap {f : FM} (e : lstAt h n = some ys) : mlK2 f n xs h = f n ys xs h := by simp only [mlK2, lst_get.mp e]
theorem append_ap (e : ys.length < cap) : mAppend n ys [y] h = .ok .non (h.set n (.lst (ys ++ [y]))) := by simp only [mAppend, e, if_true]
theorem one_ap {z : Int} (e1 : k ρ (h ++ [.dK []]) = .ok (.int z) (h ++ [.dK []])) (e2 : v ρ (h ++ [.dK []]) = .ok y (h ++ [.dK []])) : dOne k v ρ h = .ok (.ref h.length) (h ++ [.dK [(.inl z, y)]]) := by
  unfold dOne
  simp [e1, e2, keyOf]
end
/-! places as a table's keys -/
def kd (ks : List Nat) : List (Key × D) := ks.map fun (k : Nat) => ((Sum.inl (k : Int) : Key), D.bl true)
def addK (ks : List Nat) (a : Nat) : List Nat := if a ∈ ks then ks else ks ++ [a]
theorem kd_val (a : Nat) : ∀ ks : List Nat, (valD (kd ks) (.inl (a : Int))).isSome = decide (a ∈ ks)
  | [] => by simp [kd, valD]
  | k :: r => by
    have ih := kd_val a r
    unfold kd valD at *
    rw [List.map_cons, List.find?_cons]
    by_cases q : k = a
    · subst q; simp
    · have q2 : ¬ ((k : Int) = (a : Int)) := by omega
      have q3 : ¬ a = k := fun z => q z.symm
      simp only [Sum.inl.injEq, q2, decide_false]
      rw [ih]
      simp [q3]
theorem kd_put (a : Nat) (ks : List Nat) : putKD (kd ks) (.inl (a : Int)) (.bl true) = kd (addK ks a) := by
  unfold putKD addK kd
  by_cases q : a ∈ ks
  · rw [if_pos q, if_pos]
    · rw [List.map_map]
      apply List.map_congr_left
      intro k hk
      simp only [Function.comp]
      split <;> rfl
    · simp only [List.any_map, List.any_eq_true, Function.comp]
      exact ⟨a, q, by simp⟩
  · rw [if_neg q, if_neg]
    · simp
    · simp only [List.any_map, List.any_eq_true, Function.comp, decide_eq_true_eq, Sum.inl.injEq]
      rintro ⟨k, hk, e⟩
      exact q (by have : k = a := by omega
                  rw [← this]; exact hk)
theorem kd_len (ks : List Nat) : (kd ks).length = ks.length := by simp [kd]
theorem din_ap {h : Hv} {n : Nat} {ks : List Nat} (a : Nat) (e : h[n]? = some (.dK (kd ks))) : fDIn (.int a) (.ref n) h = .ok (.bl (decide (a ∈ ks))) h := by
  simp only [fDIn, dGetAt, e, keyOf, kd_val]
abbrev Pip := Nat × Nat × Rat
def rowD (r : Pip) : D := .tup [.int r.1, .int r.2.1, fr r.2.2]
structure NetAt (h : Hv) (n : Nat) (sz : Nat) (rows : List Pip) : Prop where
  ins : ∃ r : Nat, h[n]? = some (.ins 0 [("size", .int sz), ("rows", .ref r)]) ∧ lstAt h r = some (rows.map rowD)
theorem NetAt.pre {h h' : Hv} {n sz : Nat} {rows : List Pip} (p : h <+: h') (x : NetAt h n sz rows) : NetAt h' n sz rows := by
  obtain ⟨r, e1, e2⟩ := x.ins
  exact ⟨r, get_pre p e1, lst_pre p e2⟩
end DL
namespace DL
open PySem PySem.Spec PyProof.Rows L2
/-! sorted places -/
def insN (i : Nat) : List Nat → List Nat
  | [] => [i]
  | j :: r => if i ≤ j then i :: j :: r else j :: insN i r
def sortN : List Nat → List Nat
  | [] => []
  | i :: r => insN i (sortN r)
def grow1 (s : List Nat × Bool) (r : Pip) : List Nat × Bool := if decide (r.1 ∈ s.1) = decide (r.2.1 ∈ s.1) then s else (addK (addK s.1 r.1) r.2.1, true)
def grow (rows : List Pip) : Nat → List Nat → Option (List Nat)
  | 0, _ => none
  | m + 1, ks => if (rows.foldl grow1 (ks, false)).2 = true then grow rows m (rows.foldl grow1 (ks, false)).1 else some (rows.foldl grow1 (ks, false)).1
theorem addK_len (ks : List Nat) (a : Nat) : (addK ks a).length ≤ ks.length + 1 := by
  unfold addK; split
  · omega
  · simp
theorem grow1_len (s : List Nat × Bool) (r : Pip) : (grow1 s r).1.length ≤ s.1.length + 2 := by
  unfold grow1; split
  · omega
  · have := addK_len s.1 r.1
    have := addK_len (addK s.1 r.1) r.2.1
    show (addK (addK s.1 r.1) r.2.1).length ≤ _
    omega
theorem eqD_bl {h : Hv} {a b : Bool} : eqD h (.bl a) (.bl b) = some (a == b) := by
  have e1 : dat h 12 (.bl a) = some (.bool a) := rfl
  have e2 : dat h 12 (.bl b) = some (.bool b) := rfl
  unfold eqD
  split
  · rename_i q _; cases q
  · rename_i q _; cases q
  · rw [e1, e2]
    have s1 : SeqAt.shaped (.bool a) = true := rfl
    have s2 : SeqAt.shaped (.bool b) = true := rfl
    simp only [s1, s2, and_self, if_true, PyData.eqv]
def partN (rows : List Pip) (a : Nat) : Option (List Nat) := (grow rows 99 [a]).bind fun ks => if ks.length < 64 then some (sortN ks) else none
theorem sort_kd (ks : List Nat) : (inlKeys (kd ks)).map sortI = some ((sortN ks).map fun k : Nat => (k : Int)) := by
  have e1 : inlKeys (kd ks) = some (ks.map fun k : Nat => (k : Int)) := by
    induction ks with
    | nil => rfl
    | cons k r ih =>
      show (inlKeys (kd r)).map _ = _
      rw [ih]; rfl
  have e2 : ∀ (i : Nat) (l : List Nat), insI (i : Int) (l.map fun k : Nat => (k : Int)) = (insN i l).map fun k : Nat => (k : Int) := by
    intro i l
    induction l with
    | nil => rfl
    | cons j r ih =>
      unfold insN
      simp only [List.map_cons]
      unfold insI
      by_cases c : i ≤ j
      · rw [if_pos (by omega), if_pos c]; rfl
      · rw [if_neg (by omega), if_neg c, ih]; rfl
  have e3 : ∀ l : List Nat, sortI (l.map fun k : Nat => (k : Int)) = (sortN l).map fun k : Nat => (k : Int) := by
    intro l
    induction l with
    | nil => rfl
    | cons j r ih =>
      show insI (j : Int) (sortI (r.map fun k : Nat => (k : Int))) = _
      rw [ih, e2]; rfl
  rw [e1]
  simp only [Option.map_some, e3]
theorem insN_len (i : Nat) : ∀ l : List Nat, (insN i l).length = l.length + 1
  | [] => rfl
  | j :: r => by
    unfold insN; split
    · rfl
    · simp [insN_len i r]
theorem sortN_len : ∀ l : List Nat, (sortN l).length = l.length
  | [] => rfl
  | j :: r => by
    show (insN j (sortN r)).length = _
    rw [insN_len, sortN_len r]; rfl
abbrev nats (ks : List Nat) : List D := ks.map fun k : Nat => D.int (k : Int)
end DL

set_option Elab.async false
set_option linter.all false
set_option autoImplicit false
set_option maxRecDepth 100000
/-! Loops as folds; lists of lists on the heap; sheets. -/
namespace DL
open PySem PySem.Spec PyProof.Rows L2
theorem foldlM_none {α σ : Type} (f : σ → α → Option σ) (s : σ) (a : α) (r : List α) : (a :: r).foldlM f s = (f s a).bind fun s' => r.foldlM f s' := rfl
theorem for_fold {σ α : Type} {src : Src} {t : DG} {b : DS} (St : σ → Sl → Hv → Prop) (step : σ → α → Option σ) (enc : α → D) (all : List α) (hs : ∀ s ρ h i, St s ρ h → srcAt h src i = some (all.map enc)[i]?)
    (body : ∀ s a s' ρ h, a ∈ all → St s ρ h → step s a = some s' → ∃ ρ1 ρ' h', t (enc a) ρ = some ρ1 ∧ b ρ1 h = .nx ρ' h' ∧ St s' ρ' h') :
    ∀ (as pre : List α) (m : Nat) (s s1 : σ) (ρ : Sl) (h : Hv), all = pre ++ as → as.length < m → St s ρ h → as.foldlM step s = some s1 → ∃ ρ' h', loopR src t b m pre.length ρ h = .nx ρ' h' ∧ St s1 ρ' h'
  | [], pre, m + 1, s, s1, ρ, h, ha, _, hS, e => by
    cases e
    unfold loopR
    rw [hs s ρ h _ hS]
    have : (all.map enc)[pre.length]? = none := by rw [ha]; simp
    rw [this]
    exact ⟨ρ, h, rfl, hS⟩
  | a :: as, pre, m + 1, s, s1, ρ, h, ha, hm, hS, e => by
    rw [foldlM_none] at e
    cases q : step s a with
    | none => rw [q] at e; cases e
    | some s' =>
      rw [q] at e
      obtain ⟨ρ1, ρ', h', e1, e2, e3⟩ := body s a s' ρ h (by rw [ha]; simp) hS q
      unfold loopR
      rw [hs s ρ h _ hS]
      have : (all.map enc)[pre.length]? = some (enc a) := by rw [ha]; simp
      rw [this]
      simp only [e1, e2]
      have := for_fold St step enc all hs body as (pre ++ [a]) m s' s1 ρ' h' (by rw [ha]; simp) (by simp at hm; omega) e3 e
      rw [show (pre ++ [a]).length = pre.length + 1 from by simp] at this
      exact this
  | _, _, 0, _, _, _, _, _, hm, _, _ => by omega
theorem forK_fold {σ α : Type} {src : Src} {t : DG} {b : DS} (St : σ → Sl → Hv → Prop) (step : σ → α → Option σ) (enc : α → D) (all : List α) {s0 s1 : σ} {ρ : Sl} {h : Hv} (h0 : St s0 ρ h) (hl : srcLen h src = all.length) (he : all.foldlM step s0 = some s1)
    (hs : ∀ s ρ h i, St s ρ h → srcAt h src i = some (all.map enc)[i]?)
    (body : ∀ s a s' ρ h, a ∈ all → St s ρ h → step s a = some s' → ∃ ρ1 ρ' h', t (enc a) ρ = some ρ1 ∧ b ρ1 h = .nx ρ' h' ∧ St s' ρ' h') : ∃ ρ' h', forK t b ρ src h = .nx ρ' h' ∧ St s1 ρ' h' := by
  have := for_fold (src := src) (t := t) (b := b) St step enc all hs body all [] (srcLen h src + 1) s0 s1 ρ h rfl (by omega) h0 he
  exact this
abbrev iN (k : Nat) : D := D.int (k : Int)
theorem upI_nat (lo n : Nat) : upI lo n = (List.range' lo n).map iN := by
  apply List.ext_getElem?
  intro i
  rw [upI_at, List.getElem?_map]
  by_cases q : i < n
  · rw [List.getElem?_range' q, if_pos q]; simp
  · rw [if_neg q, List.getElem?_eq_none (by simp; omega)]; rfl
theorem downI_nat (n : Nat) : downI n = (List.range n).reverse.map iN := by
  apply List.ext_getElem?
  intro i
  rw [downI_at, List.getElem?_map]
  by_cases q : i < n
  · rw [if_pos q, List.getElem?_reverse (by simpa using q)]
    simp
    rw [List.getElem?_range (by omega)]
    simp; omega
  · rw [if_neg q, List.getElem?_eq_none (by simp; omega)]; rfl
theorem srcU {h : Hv} {lo n i : Nat} : srcAt h (.rng lo n) i = some ((List.range' lo n).map iN)[i]? := by rw [src_rng, upI_nat]
theorem srcS {h : Hv} {lo n i : Nat} : srcAt h (.rng ((lo : Int) + 1) n) i = some ((List.range' (lo + 1) n).map iN)[i]? := by
  rw [show ((lo : Int) + 1) = ((lo + 1 : Nat) : Int) from (Int.natCast_succ lo).symm]
  exact srcU
theorem rg2S {m n : Nat} {h : Hv} (e1 : m < 1000000) (e2 : n ≤ 1000000) : rg2K2 (.int ((m : Int) + 1)) (.int n) h = .ok (.rng ((m : Int) + 1) (n - (m + 1))) h := by
  rw [show ((m : Int) + 1) = ((m + 1 : Nat) : Int) from (Int.natCast_succ m).symm]
  exact rg2K2_nat e1 e2
theorem srcU0 {h : Hv} {n i : Nat} : srcAt h (.rng 0 n) i = some ((List.range n).map iN)[i]? := by
  have := srcU (h := h) (lo := 0) (n := n) (i := i)
  rw [← List.range_eq_range'] at this
  exact this
theorem srcD {h : Hv} {n i : Nat} : srcAt h (.rev 0 n) i = some ((List.range n).reverse.map iN)[i]? := by rw [src_rev, downI_nat]
/-- lists of lists -/
def RA {α : Type} (enc : α → List D) (h : Hv) : List Nat → List α → Prop
  | [], [] => True
  | r :: rs, p :: ps => lstAt h r = some (enc p) ∧ RA enc h rs ps
  | _, _ => False
section
variable {α : Type} {enc : α → List D} {h h' : Hv}
theorem RA.pre (p : h <+: h') : ∀ {rs : List Nat} {ps : List α}, RA enc h rs ps → RA enc h' rs ps
  | [], [], _ => trivial
  | _ :: _, _ :: _, ⟨a, b⟩ => ⟨lst_pre p a, RA.pre p b⟩
  | [], _ :: _, x => x.elim
  | _ :: _, [], x => x.elim
theorem RA.len : ∀ {rs : List Nat} {ps : List α}, RA enc h rs ps → rs.length = ps.length
  | [], [], _ => rfl
  | _ :: _, _ :: _, ⟨_, b⟩ => by simp [RA.len b]
  | [], _ :: _, x => x.elim
  | _ :: _, [], x => x.elim
theorem RA.off {n : Nat} {o : O} : ∀ {rs : List Nat} {ps : List α}, RA enc h rs ps → n ∉ rs → RA enc (h.set n o) rs ps
  | [], [], _, _ => trivial
  | r :: rs, _ :: _, ⟨a, b⟩, hn => ⟨by rw [lst_set_ne (by rintro rfl; exact hn (by simp))]; exact a, RA.off b (fun z => hn (by simp [z]))⟩
  | [], _ :: _, x, _ => x.elim
  | _ :: _, [], x, _ => x.elim
theorem RA.snoc {r : Nat} {p : α} (e : lstAt h r = some (enc p)) : ∀ {rs : List Nat} {ps : List α}, RA enc h rs ps → RA enc h (rs ++ [r]) (ps ++ [p])
  | [], [], _ => ⟨e, trivial⟩
  | _ :: _, _ :: _, ⟨a, b⟩ => ⟨a, RA.snoc e b⟩
  | [], _ :: _, x => x.elim
  | _ :: _, [], x => x.elim
theorem RA.get : ∀ {rs : List Nat} {ps : List α} {i : Nat} {p : α}, RA enc h rs ps → ps[i]? = some p → ∃ r, rs[i]? = some r ∧ lstAt h r = some (enc p)
  | r :: rs, q :: ps, 0, p, ⟨a, b⟩, e => by cases e; exact ⟨r, rfl, a⟩
  | r :: rs, q :: ps, i + 1, p, ⟨a, b⟩, e => RA.get (rs := rs) (i := i) b e
  | [], [], _, _, _, e => by cases e
  | [], _ :: _, _, _, x, _ => x.elim
  | _ :: _, [], _, _, x, _ => x.elim
theorem RA.put {p : α} : ∀ {rs : List Nat} {ps : List α} {i r : Nat}, RA enc h rs ps → rs.Nodup → rs[i]? = some r → r < h.length → RA enc (h.set r (.lst (enc p))) rs (ps.set i p)
  | r' :: rs, q :: ps, 0, r, ⟨a, b⟩, nd, e, hl => by
    cases e
    exact ⟨lst_set_eq hl, RA.off b (List.nodup_cons.mp nd).1⟩
  | r' :: rs, q :: ps, i + 1, r, ⟨a, b⟩, nd, e, hl => by
    have nd' := List.nodup_cons.mp nd
    have hm : r ∈ rs := List.mem_of_getElem? e
    refine ⟨?_, RA.put (rs := rs) (i := i) b nd'.2 e hl⟩
    rw [lst_set_ne (by rintro rfl; exact nd'.1 hm)]
    exact a
  | [], [], _, _, _, _, e, _ => by cases e
  | [], _ :: _, _, _, x, _, _, _ => x.elim
  | _ :: _, [], _, _, x, _, _, _ => x.elim
end
/-- a comprehension that makes lists -/
theorem lc_ref {α : Type} {enc : α → List D} {t : DG} {c : DT} {e : DE} {ρw : Sl} {src : Src} {h : Hv} {xs : List D} (f : Nat → α) (hS : Stands h src xs) (hc : xs.length < cap)
    (st : ∀ i x h1, xs[i]? = some x → h <+: h1 → ∃ ρ1, t x ρw = some ρ1 ∧ c ρ1 h1 = .ok true h1 ∧ ∃ r h3, e ρ1 h1 = .ok (.ref r) h3 ∧ h1 <+: h3 ∧ h1.length ≤ r ∧ lstAt h3 r = some (enc (f i))) :
    ∃ h' rs, lcK t c e ρw src h = .ok (.ref h.length) h' ∧ h <+: h' ∧ lstAt h' h.length = some (rs.map D.ref) ∧ RA enc h' rs ((List.range xs.length).map f) ∧ rs.Nodup ∧ ∀ r ∈ rs, h.length < r ∧ r < h'.length := by
  unfold lcK
  have key := lc_run (src := src) (t := t) (c := c) (e := e) (ρw := ρw) (n := h.length) (xs := xs)
    (fun i h1 acc => h <+: h1 ∧ h1[h.length]? = some (.lst acc) ∧ i ≤ xs.length ∧ ∃ rs, acc = rs.map D.ref ∧ RA enc h1 rs ((List.range i).map f) ∧ rs.Nodup ∧ ∀ r ∈ rs, h.length < r ∧ r < h1.length)
    (fun i h1 acc ⟨a, b, _⟩ => ⟨hS.2 h1 i a, b⟩)
    (fun i x h1 acc q ⟨a, b, il, rs, d, ra, nd, gt⟩ => by
      have hl := (List.getElem?_eq_some_iff.mp q).1
      obtain ⟨ρ1, e1, e2, r, h3, e3, p3, rl, e4⟩ := st i x h1 q a
      have rlt := lst_lt e4
      have hh : h.length < h1.length := (List.getElem?_eq_some_iff.mp b).1
      have al : acc.length = i := by rw [d, List.length_map, RA.len ra]; simp
      have rn : r ≠ h.length := by omega
      refine ⟨ρ1, e1, .inr ⟨h1, .ref r, h3, e2, e3, get_pre p3 b, by omega, pre_set (a.trans p3) (Nat.le_refl _), ?_, hl, rs ++ [r], ?_, ?_, ?_, ?_⟩⟩
      · rw [List.getElem?_set_self (by have := p3.length_le; omega)]
      · rw [d]; simp
      · rw [List.range_succ, List.map_append]
        refine RA.off (RA.snoc e4 (RA.pre p3 ra)) ?_
        intro z
        rw [List.mem_append] at z
        rcases z with z | z
        · have := (gt _ z).1; omega
        · rw [List.mem_singleton] at z; omega
      · rw [List.nodup_append]
        refine ⟨nd, by simp, ?_⟩
        intro u hu v hv
        rw [List.mem_singleton] at hv
        have := (gt u hu).2
        omega
      · intro u hu
        rw [List.mem_append, List.mem_singleton] at hu
        rw [List.length_set]
        have := p3.length_le
        rcases hu with z | z
        · have := gt u z; omega
        · subst z; omega)
    (srcLen h src + 1) 0 (h ++ [.lst []]) [] (by rw [hS.1]; omega) (by omega) ⟨pre_app, by simp, by omega, [], rfl, trivial, by simp, by simp⟩
  obtain ⟨h', acc', e1, p1, p2, _, rs, d, ra, nd, gt⟩ := key
  exact ⟨h', rs, e1, p1, by rw [lst_get, p2, d], ra, nd, gt⟩
/-- sheets -/
abbrev frs (l : List Rat) : List D := l.map fr
structure Mat (h : Hv) (s : Nat) (rs : List Nat) (M : List (List Rat)) : Prop where
  top : lstAt h s = some (rs.map D.ref)
  rows : RA frs h rs M
  nd : rs.Nodup
  off : s ∉ rs
theorem Mat.pre {h h' : Hv} {s : Nat} {rs : List Nat} {M : List (List Rat)} (p : h <+: h') (m : Mat h s rs M) : Mat h' s rs M := ⟨lst_pre p m.top, m.rows.pre p, m.nd, m.off⟩
theorem Mat.len {h : Hv} {s : Nat} {rs : List Nat} {M : List (List Rat)} (m : Mat h s rs M) : rs.length = M.length := m.rows.len
theorem Mat.slen {h : Hv} {s : Nat} {rs : List Nat} {M : List (List Rat)} (m : Mat h s rs M) : bLen [.ref s] h = .ok (iN M.length) h := by
  rw [len_ref m.top, List.length_map, m.len]
theorem Mat.row {h : Hv} {s i : Nat} {rs : List Nat} {M : List (List Rat)} {l : List Rat} (m : Mat h s rs M) (e : M[i]? = some l) : ∃ r, rs[i]? = some r ∧ lstAt h r = some (frs l) ∧ ixV (lstAt h s) (i : Int) h = .ok (.ref r) h := by
  obtain ⟨r, e1, e2⟩ := m.rows.get e
  exact ⟨r, e1, e2, ixV_ref m.top (by simp [e1])⟩
theorem Mat.put {h : Hv} {s i r : Nat} {rs : List Nat} {M : List (List Rat)} {l : List Rat} (m : Mat h s rs M) (e : rs[i]? = some r) : Mat (h.set r (.lst (frs l))) s rs (M.set i l) := by
  have hm : r ∈ rs := List.mem_of_getElem? e
  have hl : r < h.length := by
    have hi : i < M.length := by rw [← m.len]; exact (List.getElem?_eq_some_iff.mp e).1
    obtain ⟨r', e1, e2⟩ := m.rows.get (List.getElem?_eq_getElem hi)
    rw [e] at e1; cases e1
    exact lst_lt e2
  refine ⟨?_, m.rows.put m.nd e hl, m.nd, m.off⟩
  rw [lst_set_ne (by rintro rfl; exact m.off hm)]
  exact m.top
/-- arithmetic that says when it grows too long -/
def wide : Nat := 4400
theorem wide_ok : wide + wide ≤ 9000 := by decide
def sm (x : Rat) : Bool := decide (x.num.natAbs < 2 ^ wide) && decide (x.den < 2 ^ wide)
theorem sm_iff {x : Rat} : sm x = true ↔ Sm wide x := by simp [sm, Sm]
def qadd (x y : Rat) : Option Rat := if sm x && sm y then some (x + y) else none
def qsub (x y : Rat) : Option Rat := if sm x && sm y then some (x - y) else none
def qmul (x y : Rat) : Option Rat := if sm x && sm y then some (x * y) else none
def qdiv (x y : Rat) : Option Rat := if sm x && sm y && decide (y ≠ 0) then some (x / y) else none
/-- a place among some -/
def findIx : List Nat → Nat → Option Nat
  | [], _ => none
  | k :: r, a => if k = a then some 0 else (findIx r a).map (· + 1)
def spK : List Nat → Nat → List (Key × D)
  | [], _ => []
  | k :: r, i => ((Sum.inl (k : Int) : Key), iN i) :: spK r (i + 1)
theorem sp_val (a : Nat) : ∀ (ks : List Nat) (i : Nat), valD (spK ks i) (.inl (a : Int)) = (findIx ks a).map fun j => iN (i + j)
  | [], _ => rfl
  | k :: r, i => by
    have ih : (List.find? (fun kv : Key × D => decide (kv.1 = Sum.inl (a : Int))) (spK r (i + 1))).map (·.2) = (findIx r a).map fun j => iN (i + 1 + j) := sp_val a r (i + 1)
    show (List.find? (fun kv : Key × D => decide (kv.1 = Sum.inl (a : Int))) (((Sum.inl (k : Int) : Key), iN i) :: spK r (i + 1))).map (·.2) = (if k = a then some 0 else (findIx r a).map (· + 1)).map fun j => iN (i + j)
    rw [List.find?_cons]
    by_cases q : k = a
    · subst q; simp
    · have q2 : ¬ ((k : Int) = (a : Int)) := by omega
      simp only [Sum.inl.injEq, q2, decide_false, if_neg q]
      rw [ih, Option.map_map]
      congr 1
      funext j
      simp only [Function.comp, iN]
      congr 1
      omega
theorem sp_app (a : Nat) : ∀ (ks : List Nat) (i : Nat), spK (ks ++ [a]) i = spK ks i ++ [((Sum.inl (a : Int) : Key), iN (i + ks.length))]
  | [], _ => rfl
  | k :: r, i => by
    show _ :: spK (r ++ [a]) (i + 1) = _ :: (spK r (i + 1) ++ _)
    rw [sp_app a r (i + 1)]
    simp only [List.length_cons]
    rw [show i + 1 + r.length = i + (r.length + 1) from by omega]
theorem sp_len : ∀ (ks : List Nat) (i : Nat), (spK ks i).length = ks.length
  | [], _ => rfl
  | k :: r, i => by simp [spK, sp_len r (i + 1)]
theorem sp_has (a : Nat) : ∀ (ks : List Nat) (i : Nat), a ∉ ks → ((spK ks i).any fun kv => decide (kv.1 = (Sum.inl (a : Int) : Key))) = false
  | [], _, _ => rfl
  | k :: r, i, h => by
    unfold spK
    rw [List.any_cons, sp_has a r (i + 1) (fun z => h (by simp [z]))]
    have this : ¬ (k = a) := fun z => h (by simp [z])
    have t2 : ¬ ((k : Int) = (a : Int)) := by omega
    simp [t2, this]
theorem sp_put (a : Nat) (ks : List Nat) (h : a ∉ ks) : putKD (spK ks 0) (.inl (a : Int)) (iN ks.length) = spK (ks ++ [a]) 0 := by
  unfold putKD
  rw [sp_has a ks 0 h, sp_app]
  simp
end DL

set_option Elab.async false
set_option linter.all false
set_option autoImplicit false
set_option maxRecDepth 100000
/-! Sheets in steps, as folds over rationals. -/
namespace DL
open PySem PySem.Spec PyProof.Rows L2
abbrev Sheet := List (List Rat)
def cell (M : Sheet) (i j : Nat) : Option Rat := (M[i]?).bind fun l => l[j]?
def rowOf (M : Sheet) (i : Nat) : List Rat := M.getD i []
def putc (M : Sheet) (i j : Nat) (x : Rat) : Sheet := M.set i ((rowOf M i).set j x)
def elimJ (k i : Nat) (far : Rat) (M : Sheet) (j : Nat) : Option Sheet :=
  (cell M i j).bind fun a => (cell M k j).bind fun b => (qmul far b).bind fun p => (qsub a p).bind fun d => some (putc M i j d)
def elimI (k : Nat) (M : Sheet) (i : Nat) : Option Sheet :=
  (cell M i k).bind fun a => (cell M k k).bind fun b => (qdiv a b).bind fun far => if far = 0 then some M else (List.range' k ((rowOf M i).length - k)).foldlM (elimJ k i far) M
def stpK (s : Rat × Sheet) (k : Nat) : Option (Rat × Sheet) :=
  (cell s.2 k k).bind fun p => if p = 0 then none else (qmul s.1 p).bind fun q => ((List.range' (k + 1) (s.2.length - (k + 1))).foldlM (elimI k) s.2).map fun M => (q, M)
def stepM (M : Sheet) : Option (Rat × Sheet) := (List.range M.length).foldlM stpK (1, M)
structure Only (rs : List Nat) (h h' : Hv) : Prop where
  len : h'.length = h.length
  off : ∀ j, j ∉ rs → h'[j]? = h[j]?
theorem Only.refl {rs : List Nat} {h : Hv} : Only rs h h := ⟨rfl, fun _ _ => rfl⟩
theorem Only.trans {rs : List Nat} {h h1 h2 : Hv} (a : Only rs h h1) (b : Only rs h1 h2) : Only rs h h2 := ⟨b.len.trans a.len, fun j q => (b.off j q).trans (a.off j q)⟩
theorem Only.set {rs : List Nat} {h h' : Hv} {r : Nat} {o : O} (a : Only rs h h') (hr : r ∈ rs) : Only rs h (h'.set r o) :=
  ⟨by rw [List.length_set]; exact a.len, fun j q => by rw [List.getElem?_set_ne (by rintro rfl; exact q hr)]; exact a.off j q⟩
theorem Only.pre {rs : List Nat} {h0 h h' : Hv} (a : Only rs h h') (p : h0 <+: h) (n : ∀ r ∈ rs, h0.length ≤ r) : h0 <+: h' := by
  have hl := p.length_le
  have : h0 = h'.take h0.length := by
    apply List.ext_getElem?
    intro j
    by_cases q : j < h0.length
    · rw [List.getElem?_take_of_lt q, a.off j (fun z => by have := n j z; omega)]
      obtain ⟨t, rfl⟩ := p
      rw [List.getElem?_append_left q]
    · rw [List.getElem?_eq_none (by omega), List.getElem?_eq_none (by rw [List.length_take]; omega)]
  rw [this]
  exact List.take_prefix _ _
theorem Only.lst {rs : List Nat} {h h' : Hv} {n : Nat} {xs : List D} (a : Only rs h h') (q : n ∉ rs) (e : lstAt h n = some xs) : lstAt h' n = some xs := by
  rw [lst_get] at e ⊢
  rw [a.off n q, e]
theorem cell_lt {M : Sheet} {i j : Nat} {x : Rat} (e : cell M i j = some x) : ∃ l, M[i]? = some l ∧ l[j]? = some x ∧ rowOf M i = l := by
  unfold cell at e
  cases q : M[i]? with
  | none => rw [q] at e; cases e
  | some l => rw [q] at e; exact ⟨l, rfl, e, by simp [rowOf, q]⟩
theorem Mat.cell {h : Hv} {s i j : Nat} {rs : List Nat} {M : Sheet} {x : Rat} (m : Mat h s rs M) (e : DL.cell M i j = some x) :
    ∃ r, rs[i]? = some r ∧ r ∈ rs ∧ lstAt h r = some (frs (rowOf M i)) ∧ j < (frs (rowOf M i)).length ∧ ixV (lstAt h s) (i : Int) h = .ok (.ref r) h ∧ ixV (lstAt h r) (j : Int) h = .ok (fr x) h := by
  obtain ⟨l, e1, e2, e3⟩ := cell_lt e
  obtain ⟨r, q1, q2, q3⟩ := m.row e1
  refine ⟨r, q1, List.mem_of_getElem? q1, by rw [e3]; exact q2, by rw [e3, List.length_map]; exact (List.getElem?_eq_some_iff.mp e2).1, q3, ixV_ref q2 (by simp [e2])⟩
theorem Mat.putc {h : Hv} {s i j r : Nat} {rs : List Nat} {M : Sheet} {x : Rat} (m : Mat h s rs M) (e : rs[i]? = some r) : Mat (h.set r (.lst ((frs (rowOf M i)).set j (fr x)))) s rs (DL.putc M i j x) := by
  rw [← List.map_set]
  exact m.put e
/-- all rows as long -/
def Wd (M : Sheet) (n w : Nat) : Prop := M.length = n ∧ ∀ l ∈ M, l.length = w
theorem Wd.row {M : Sheet} {n w i : Nat} (m : Wd M n w) (hi : i < n) : (rowOf M i).length = w := by
  unfold rowOf
  rw [List.getD_eq_getElem?_getD, List.getElem?_eq_getElem (by rw [m.1]; exact hi)]
  exact m.2 _ (List.getElem_mem _)
theorem Wd.putc {M : Sheet} {n w i j : Nat} {x : Rat} (m : Wd M n w) : Wd (DL.putc M i j x) n w := by
  unfold DL.putc
  refine ⟨by rw [List.length_set]; exact m.1, fun l hl => ?_⟩
  by_cases hi : i < n
  · rcases List.mem_or_eq_of_mem_set hl with z | z
    · exact m.2 l z
    · rw [z, List.length_set]; exact m.row hi
  · rw [List.set_eq_of_length_le (by rw [m.1]; omega)] at hl
    exact m.2 l hl
theorem qadd_sm {x y z : Rat} (e : qadd x y = some z) : Sm wide x ∧ Sm wide y ∧ z = x + y := by
  unfold qadd at e
  split at e
  · rename_i c
    rw [Bool.and_eq_true] at c
    cases e
    exact ⟨sm_iff.mp c.1, sm_iff.mp c.2, rfl⟩
  · cases e
theorem qsub_sm {x y z : Rat} (e : qsub x y = some z) : Sm wide x ∧ Sm wide y ∧ z = x - y := by
  unfold qsub at e
  split at e
  · rename_i c
    rw [Bool.and_eq_true] at c
    cases e
    exact ⟨sm_iff.mp c.1, sm_iff.mp c.2, rfl⟩
  · cases e
theorem qmul_sm {x y z : Rat} (e : qmul x y = some z) : Sm wide x ∧ Sm wide y ∧ z = x * y := by
  unfold qmul at e
  split at e
  · rename_i c
    rw [Bool.and_eq_true] at c
    cases e
    exact ⟨sm_iff.mp c.1, sm_iff.mp c.2, rfl⟩
  · cases e
theorem qdiv_sm {x y z : Rat} (e : qdiv x y = some z) : Sm wide x ∧ Sm wide y ∧ y ≠ 0 ∧ z = x / y := by
  unfold qdiv at e
  split at e
  · rename_i c
    rw [Bool.and_eq_true, Bool.and_eq_true] at c
    cases e
    exact ⟨sm_iff.mp c.1.1, sm_iff.mp c.1.2, of_decide_eq_true c.2, rfl⟩
  · cases e
end DL

set_option Elab.async false
set_option linter.all false
set_option autoImplicit false
set_option maxRecDepth 100000
/-! Sheets solved; sheets of places. -/
namespace DL
open PySem PySem.Spec PyProof.Rows L2
@[simp] theorem wipe1 {ρ : Sl} {v : Nat} : wipeD ρ [v] = ρ.set v none := id rfl
theorem add_ref {h : Hv} {m n : Nat} {xs ys : List D} (e1 : lstAt h m = some xs) (e2 : lstAt h n = some ys) (c : xs.length + ys.length ≤ cap) : fAdd (.ref m) (.ref n) h = .ok (.ref h.length) (h ++ [.lst (xs ++ ys)]) := by
  simp only [fAdd, lst_get.mp e1, lst_get.mp e2, c, if_true]
theorem lc_const {t : DG} {c : DT} {e : DE} {ρw : Sl} {src : Src} {h : Hv} {xs : List D} {y : D} (hS : Stands h src xs) (hc : xs.length < cap)
    (st : ∀ (i : Nat) x h1, xs[i]? = some x → h <+: h1 → ∃ ρ1, t x ρw = some ρ1 ∧ c ρ1 h1 = .ok true h1 ∧ e ρ1 h1 = .ok y h1) :
    ∃ h', lcK t c e ρw src h = .ok (.ref h.length) h' ∧ h <+: h' ∧ lstAt h' h.length = some (List.replicate xs.length y) := by
  obtain ⟨h', e1, e2, e3⟩ := lc_val (t := t) (c := c) (e := e) (ρw := ρw) (fun _ _ => some y) hS hc (fun i x h1 q p => by
    obtain ⟨ρ1, a1, a2, a3⟩ := st i x h1 q p
    exact ⟨ρ1, a1, .inr ⟨h1, y, h1, rfl, a2, a3, List.prefix_refl _⟩⟩)
  refine ⟨h', e1, e2, ?_⟩
  rw [e3]
  congr 1
  have : ∀ (l : List D) (i : Nat), (l.zipIdx i).filterMap (fun _ => some y) = List.replicate l.length y := by
    intro l
    induction l with
    | nil => intro i; rfl
    | cons a r ih =>
      intro i
      rw [List.zipIdx_cons, List.filterMap_cons]
      simp only [ih]
      rfl
  exact this xs 0
/-- a comprehension of plain values, one for each item -/
theorem lc_map {α : Type} {enc : α → D} {t : DG} {c : DT} {e : DE} {ρw : Sl} {src : Src} {h : Hv} {as : List α} (f : α → D) (hS : Stands h src (as.map enc)) (hc : as.length < cap)
    (st : ∀ a h1, a ∈ as → h <+: h1 → ∃ ρ1 h2, t (enc a) ρw = some ρ1 ∧ c ρ1 h1 = .ok true h1 ∧ e ρ1 h1 = .ok (f a) h2 ∧ h1 <+: h2) :
    ∃ h', lcK t c e ρw src h = .ok (.ref h.length) h' ∧ h <+: h' ∧ lstAt h' h.length = some (as.map f) := by
  obtain ⟨h', e1, e2, e3⟩ := lc_val (t := t) (c := c) (e := e) (ρw := ρw) (fun i _ => as[i]?.map f) hS (by rw [List.length_map]; exact hc) (fun i x h1 q p => by
    rw [List.getElem?_map] at q
    cases z : as[i]? with
    | none => rw [z] at q; cases q
    | some a =>
      rw [z] at q; cases q
      obtain ⟨ρ1, h2, a1, a2, a3, a4⟩ := st a h1 (List.mem_of_getElem? z) p
      exact ⟨ρ1, a1, .inr ⟨h1, f a, h2, rfl, a2, a3, a4⟩⟩)
  refine ⟨h', e1, e2, ?_⟩
  rw [e3]
  congr 1
  have : ∀ (l : List D) (pre : List α) (bs : List α), as = pre ++ bs → l = bs.map enc → (l.zipIdx pre.length).filterMap (fun p => as[p.2]?.map f) = bs.map f := by
    intro l
    induction l with
    | nil => intro pre bs _ hb; cases bs with
      | nil => rfl
      | cons b r => cases hb
    | cons x r ih =>
      intro pre bs ha hb
      cases bs with
      | nil => cases hb
      | cons b bs =>
        cases hb
        rw [List.zipIdx_cons, List.filterMap_cons]
        have e0 : as[pre.length]? = some b := by rw [ha]; simp
        simp only [e0, Option.map_some, List.map_cons]
        congr 1
        have := ih (pre ++ [b]) bs (by rw [ha]; simp) rfl
        rw [List.length_append] at this
        exact this
  exact this (as.map enc) [] as rfl rfl
theorem standsU0 {h : Hv} {n : Nat} : Stands h (.rng 0 n) ((List.range n).map iN) := ⟨by simp [srcLen], fun _ _ _ => srcU0⟩
theorem Mat.only {q : List Nat} {h h' : Hv} {s : Nat} {rs : List Nat} {M : Sheet} (m : Mat h s rs M) (o : Only q h h') (hs : s ∉ q) (hr : ∀ r ∈ rs, r ∉ q) : Mat h' s rs M := by
  refine ⟨o.lst hs m.top, ?_, m.nd, m.off⟩
  have : ∀ (rs : List Nat) (M : Sheet), (∀ r ∈ rs, r ∉ q) → RA frs h rs M → RA frs h' rs M := by
    intro rs
    induction rs with
    | nil => intro M _ ra; cases M with
      | nil => trivial
      | cons _ _ => exact ra.elim
    | cons r rs ih => intro M hq ra; cases M with
      | nil => exact ra.elim
      | cons l M => exact ⟨o.lst (hq r (by simp)) ra.1, ih M (fun x hx => hq x (by simp [hx])) ra.2⟩
  exact this rs M hr m.rows
def augM (M : Sheet) (b : List Rat) : Sheet := (List.range M.length).map fun k => rowOf M k ++ [b.getD k 0]
def backJ (M : Sheet) (k : Nat) (f : List Rat) (left : Rat) (j : Nat) : Option Rat := (cell M k j).bind fun a => (f[j]?).bind fun x => (qmul a x).bind fun p => qsub left p
def backK (M : Sheet) (f : List Rat) (k : Nat) : Option (List Rat) := (cell M k M.length).bind fun l0 => ((List.range' (k + 1) (M.length - (k + 1))).foldlM (backJ M k f) l0).bind fun l => (cell M k k).bind fun d => (qdiv l d).map fun x => f.set k x
def solveM (M : Sheet) (b : List Rat) : Option (List Rat) := (stepM (augM M b)).bind fun s => (List.range s.2.length).reverse.foldlM (backK s.2) (List.replicate s.2.length 0)
/-- the sheet of some places -/
def gdir (ps : List Nat) (e : Rat) (M : Sheet) (a b : Nat) : Option Sheet := match findIx ps a with
  | none => some M
  | some i => (cell M i i).bind fun x => (qadd x e).bind fun y => match findIx ps b with
    | none => some (putc M i i y)
    | some j => (cell (putc M i i y) i j).bind fun x => (qsub x e).bind fun z => some (putc (putc M i i y) i j z)
def grow2 (ps : List Nat) (M : Sheet) (r : Pip) : Option Sheet := (qdiv 1 r.2.2).bind fun e => (gdir ps e M r.1 r.2.1).bind fun M1 => gdir ps e M1 r.2.1 r.1
def zeroM (n : Nat) : Sheet := (List.range n).map fun _ => List.replicate n 0
def groundM (ps : List Nat) (rows : List Pip) : Option Sheet := rows.foldlM (grow2 ps) (zeroM ps.length)
end DL

set_option Elab.async false
set_option linter.all false
set_option autoImplicit false
set_option maxRecDepth 100000
/-! Heaps that grow while some of their lists change. -/
namespace DL
open PySem PySem.Spec PyProof.Rows L2
structure Gro (rs : List Nat) (h h' : Hv) : Prop where
  len : h.length ≤ h'.length
  off : ∀ j, j < h.length → j ∉ rs → h'[j]? = h[j]?
section
variable {rs : List Nat} {h h1 h2 h' : Hv}
theorem Gro.refl : Gro rs h h := ⟨Nat.le_refl _, fun _ _ _ => rfl⟩
theorem Gro.trans (a : Gro rs h h1) (b : Gro rs h1 h2) : Gro rs h h2 := ⟨Nat.le_trans a.len b.len, fun j q z => (b.off j (Nat.lt_of_lt_of_le q a.len) z).trans (a.off j q z)⟩
theorem Gro.set {r : Nat} {o : O} (a : Gro rs h h') (hr : r ∈ rs) : Gro rs h (h'.set r o) :=
  ⟨by rw [List.length_set]; exact a.len, fun j q z => by rw [List.getElem?_set_ne (by rintro rfl; exact z hr)]; exact a.off j q z⟩
theorem Gro.of_pre (p : h <+: h') : Gro rs h h' := ⟨p.length_le, fun j q _ => by
  obtain ⟨t, rfl⟩ := p
  rw [List.getElem?_append_left q]⟩
theorem Gro.app {t : Hv} (a : Gro rs h h') : Gro rs h (h' ++ t) := a.trans (Gro.of_pre pre_app)
theorem Gro.pre {h0 : Hv} (a : Gro rs h h') (p : h0 <+: h) (n : ∀ r ∈ rs, h0.length ≤ r) : h0 <+: h' := by
  have hl := p.length_le
  have hl2 := a.len
  have : h0 = h'.take h0.length := by
    apply List.ext_getElem?
    intro j
    by_cases q : j < h0.length
    · rw [List.getElem?_take_of_lt q, a.off j (by omega) (fun z => by have := n j z; omega)]
      obtain ⟨t, rfl⟩ := p
      rw [List.getElem?_append_left q]
    · rw [List.getElem?_eq_none (by omega), List.getElem?_eq_none (by rw [List.length_take]; omega)]
  rw [this]
  exact List.take_prefix _ _
theorem Gro.get {n : Nat} {o : O} (a : Gro rs h h') (q : n ∉ rs) (e : h[n]? = some o) : h'[n]? = some o := by
  rw [a.off n (List.getElem?_eq_some_iff.mp e).1 q, e]
theorem Gro.lst {n : Nat} {xs : List D} (a : Gro rs h h') (q : n ∉ rs) (e : lstAt h n = some xs) : lstAt h' n = some xs := lst_get.mpr (a.get q (lst_get.mp e))
theorem Gro.net {n sz : Nat} {rows : List Pip} {h0 : Hv} (a : Gro rs h h') (p : h0 <+: h) (n0 : ∀ r ∈ rs, h0.length ≤ r) (e : NetAt h0 n sz rows) : NetAt h' n sz rows := e.pre (a.pre p n0)
theorem Mat.lt {s i : Nat} {M : Sheet} (m : Mat h s rs M) {r : Nat} (hr : r ∈ rs) : r < h.length := by
  obtain ⟨i, hi⟩ := List.getElem?_of_mem hr
  have il : i < M.length := by rw [← m.len]; exact (List.getElem?_eq_some_iff.mp hi).1
  obtain ⟨r', w1, w2⟩ := m.rows.get (List.getElem?_eq_getElem il)
  rw [hi] at w1; cases w1
  exact lst_lt w2
end
@[simp] theorem newk_ap {ρ : Sl} {h : Hv} : dNewK ρ h = .ok (.ref h.length) (h ++ [.dK []]) := id rfl
theorem len_dK {h : Hv} {n : Nat} {kvs : List (Key × D)} (e : h[n]? = some (.dK kvs)) : bLen [.ref n] h = .ok (.int kvs.length) h := by simp only [bLen, lenOf, e]
theorem sp_in {h : Hv} {n : Nat} {ps : List Nat} (a : Nat) (e : h[n]? = some (.dK (spK ps 0))) : fDIn (.int (a : Int)) (.ref n) h = .ok (.bl (findIx ps a).isSome) h := by
  simp only [fDIn, dGetAt, e, keyOf, sp_val, Option.isSome_map]
theorem sp_get {h : Hv} {n i : Nat} {ps : List Nat} {a : Nat} (e : h[n]? = some (.dK (spK ps 0))) (f : findIx ps a = some i) : fDGet (.ref n) (.int (a : Int)) h = .ok (iN i) h := by
  simp only [fDGet, dGetAt, e, keyOf, sp_val, f, Option.map_some, Nat.zero_add]
def spot1 (pre : List Nat) (a : Nat) : Option (List Nat) := if a ∈ pre ∨ 900 ≤ pre.length then none else some (pre ++ [a])
theorem spot_all : ∀ (ps pre : List Nat), (pre ++ ps).Nodup → pre.length + ps.length ≤ 900 → ps.foldlM spot1 pre = some (pre ++ ps)
  | [], pre, _, _ => by simp
  | a :: r, pre, nd, hl => by
    rw [List.length_cons] at hl
    rw [foldlM_none]
    have : a ∉ pre := fun z => by
      rw [List.nodup_append] at nd
      exact nd.2.2 a z a (by simp) rfl
    unfold spot1
    rw [if_neg (fun z => z.elim this (by omega)), Option.bind_some]
    have := spot_all r (pre ++ [a]) (by rw [List.append_assoc]; exact nd) (by simp; omega)
    rw [List.append_assoc] at this
    exact this
theorem gdir_two {ps : List Nat} {e : Rat} {M : Sheet} {a b : Nat} : ([(a, b), (b, a)] : List (Nat × Nat)).foldlM (fun M p => gdir ps e M p.1 p.2) M = (gdir ps e M a b).bind fun M1 => gdir ps e M1 b a := by
  rw [foldlM_none]
  cases gdir ps e M a b with
  | none => rfl
  | some M1 =>
    rw [Option.bind_some, Option.bind_some, foldlM_none]
    cases gdir ps e M1 b a <;> rfl
theorem gdir_wd {ps : List Nat} {e : Rat} {M M' : Sheet} {a b n w : Nat} (wd : Wd M n w) (g : gdir ps e M a b = some M') : Wd M' n w := by
  unfold gdir at g
  cases c1 : findIx ps a with
  | none => rw [c1] at g; cases g; exact wd
  | some i =>
    rw [c1] at g
    simp only [] at g
    cases c2 : cell M i i with
    | none => rw [c2] at g; cases g
    | some x =>
    rw [c2, Option.bind_some] at g
    cases c3 : qadd x e with
    | none => rw [c3] at g; cases g
    | some y =>
    rw [c3, Option.bind_some] at g
    cases c4 : findIx ps b with
    | none => rw [c4] at g; cases g; exact wd.putc
    | some j =>
      rw [c4] at g
      simp only [] at g
      cases c5 : cell (putc M i i y) i j with
      | none => rw [c5] at g; cases g
      | some x2 =>
      rw [c5, Option.bind_some] at g
      cases c6 : qsub x2 e with
      | none => rw [c6] at g; cases g
      | some z => rw [c6, Option.bind_some] at g; cases g; exact wd.putc.putc
end DL

set_option Elab.async false
set_option linter.all false
set_option autoImplicit false
set_option maxRecDepth 100000
/-! Lists of places: members, spots; pairs of lists; streams as things. -/
namespace DL
open PySem PySem.Spec PyProof.Rows L2
abbrev natD (ks : List Nat) : List D := ks.map fun k : Nat => D.int (k : Int)
theorem toVs_nat : ∀ ks : List Nat, toVs (natD ks) = some (ks.map fun k : Nat => V.int (k : Int))
  | [] => rfl
  | k :: r => by
    show (match toV (.int (k : Int)), toVs (natD r) with | some v, some vs => some (v :: vs) | _, _ => none) = _
    rw [toVs_nat r]; rfl
theorem inV_nat (a : Nat) : ∀ ks : List Nat, inV (.int (a : Int)) (ks.map fun k : Nat => V.int (k : Int)) = decide (a ∈ ks)
  | [] => rfl
  | k :: r => by
    have ih := inV_nat a r
    unfold inV at ih ⊢
    rw [List.map_cons, List.any_cons, ih]
    have : L2.eqV (.int (k : Int)) (.int (a : Int)) = decide (k = a) := by
      show ((k : Int) == (a : Int)) = decide (k = a)
      by_cases q : k = a
      · subst q; simp
      · have : ¬ ((k : Int) = (a : Int)) := by omega
        simp [q, this]
    rw [this]
    by_cases q : k = a
    · simp [q]
    · have : ¬ a = k := fun z => q z.symm
      simp [q, this]
theorem in_nat {h : Hv} {p : Nat} {ks : List Nat} (a : Nat) (e : lstAt h p = some (natD ks)) : inD h (.int (a : Int)) (.ref p) = some (decide (a ∈ ks)) := by
  show (match itemsOf h (.ref p) with | some ys => (match toV (.int (a : Int)), toVs ys with | some v, some vs => some (inV v vs) | _, _ => none) | none => none) = _
  have : itemsOf h (.ref p) = some (natD ks) := e
  rw [this]
  simp only [toVs_nat, toV, inV_nat]
theorem fIn_nat {h : Hv} {p : Nat} {ks : List Nat} (a : Nat) (e : lstAt h p = some (natD ks)) : fIn (.int (a : Int)) (.ref p) h = .ok (.bl (decide (a ∈ ks))) h := by simp only [fIn, in_nat a e]
theorem fNotIn_nat {h : Hv} {p : Nat} {ks : List Nat} (a : Nat) (e : lstAt h p = some (natD ks)) : fNotIn (.int (a : Int)) (.ref p) h = .ok (.bl (!decide (a ∈ ks))) h := by simp only [fNotIn, in_nat a e]
theorem intsOf_nat : ∀ ks : List Nat, intsOf (natD ks) = some (ks.map fun k : Nat => (k : Int))
  | [] => rfl
  | k :: r => by
    show (intsOf (natD r)).map _ = _
    rw [intsOf_nat r]; rfl
theorem placeI_nat (a : Nat) : ∀ ks : List Nat, placeI (a : Int) (ks.map fun k : Nat => (k : Int)) = findIx ks a
  | [] => rfl
  | k :: r => by
    show (if (k : Int) = (a : Int) then some 0 else (placeI (a : Int) (r.map fun k : Nat => (k : Int))).map (· + 1)) = (if k = a then some 0 else (findIx r a).map (· + 1))
    rw [placeI_nat a r]
    by_cases q : k = a
    · rw [if_pos q, if_pos (by omega)]
    · rw [if_neg q, if_neg (by omega)]
theorem index_nat {h : Hv} {n i : Nat} {ks : List Nat} {a : Nat} (f : findIx ks a = some i) : mIndex n (natD ks) [.int (a : Int)] h = .ok (iN i) h := by
  simp only [mIndex, intsOf_nat, placeI_nat, f]
theorem findIx_lt {a : Nat} : ∀ {ks : List Nat} {i : Nat}, findIx ks a = some i → i < ks.length ∧ ks[i]? = some a
  | [], _, e => by cases e
  | k :: r, i, e => by
    unfold findIx at e
    by_cases q : k = a
    · rw [if_pos q] at e; cases e; exact ⟨by simp, by simp [q]⟩
    · rw [if_neg q] at e
      cases z : findIx r a with
      | none => rw [z] at e; cases e
      | some j =>
        rw [z] at e; cases e
        have := findIx_lt z
        exact ⟨by simp; omega, by simpa using this.2⟩
theorem findIx_mem {a : Nat} : ∀ {ks : List Nat}, a ∈ ks → ∃ i, findIx ks a = some i
  | k :: r, h => by
    unfold findIx
    by_cases q : k = a
    · exact ⟨0, if_pos q⟩
    · rw [if_neg q]
      rcases List.mem_cons.mp h with z | z
      · exact absurd z.symm q
      · obtain ⟨i, hi⟩ := findIx_mem z
        exact ⟨i + 1, by rw [hi]; rfl⟩
/-- a comprehension that leaves some out -/
theorem lc_filter {α : Type} {enc : α → D} {t : DG} {c : DT} {e : DE} {ρw : Sl} {src : Src} {h : Hv} {as : List α} (P : α → Bool) (f : α → D) (hS : Stands h src (as.map enc)) (hc : as.length < cap)
    (st : ∀ a h1, a ∈ as → h <+: h1 → ∃ ρ1 h2, t (enc a) ρw = some ρ1 ∧ c ρ1 h1 = .ok (P a) h2 ∧ h1 <+: h2 ∧ (P a = true → e ρ1 h2 = .ok (f a) h2)) :
    ∃ h', lcK t c e ρw src h = .ok (.ref h.length) h' ∧ h <+: h' ∧ lstAt h' h.length = some ((as.filter P).map f) := by
  obtain ⟨h', e1, e2, e3⟩ := lc_val (t := t) (c := c) (e := e) (ρw := ρw) (fun i _ => (as[i]?).bind fun a => if P a = true then some (f a) else none) hS (by rw [List.length_map]; exact hc) (fun i x h1 q p => by
    rw [List.getElem?_map] at q
    cases z : as[i]? with
    | none => rw [z] at q; cases q
    | some a =>
      rw [z] at q; cases q
      obtain ⟨ρ1, h2, a1, a2, a3, a4⟩ := st a h1 (List.mem_of_getElem? z) p
      by_cases pa : P a = true
      · rw [pa] at a2
        exact ⟨ρ1, a1, .inr ⟨h2, f a, h2, by rw [Option.bind_some, if_pos pa], a2, a4 pa, a3⟩⟩
      · have pf : P a = false := by simpa using pa
        rw [pf] at a2
        exact ⟨ρ1, a1, .inl ⟨by rw [Option.bind_some, if_neg pa], h2, a2, a3⟩⟩)
  refine ⟨h', e1, e2, ?_⟩
  rw [e3]
  congr 1
  have : ∀ (l : List D) (pre : List α) (bs : List α), as = pre ++ bs → l = bs.map enc → (l.zipIdx pre.length).filterMap (fun p => (as[p.2]?).bind fun a => if P a = true then some (f a) else none) = (bs.filter P).map f := by
    intro l
    induction l with
    | nil => intro pre bs _ hb; cases bs with
      | nil => rfl
      | cons b r => cases hb
    | cons x r ih =>
      intro pre bs ha hb
      cases bs with
      | nil => cases hb
      | cons b bs =>
        cases hb
        have e0 : as[pre.length]? = some b := by rw [ha]; simp
        have := ih (pre ++ [b]) bs (by rw [ha]; simp) rfl
        rw [List.length_append] at this
        rw [List.zipIdx_cons, List.filterMap_cons, List.filter_cons]
        simp only [e0, Option.bind_some]
        by_cases pb : P b = true
        · simp only [if_pos pb, List.map_cons]
          congr 1
        · simp only [if_neg pb]
          exact this
  exact this (as.map enc) [] as rfl rfl
def zpK2 (x y : D) (h : Hv) : R Src := match x, y with
  | .ref m, .ref n => match lstAt h m, lstAt h n with
    | some _, some _ => .ok (.zip m n) h
    | _, _ => .no
  | _, _ => .no
def zpK (b : DE) (ρ : Sl) (x : D) (h : Hv) : R Src := (b ρ h).bind (zpK2 x)
@[simp] theorem zpK_ap {b : DE} {ρ : Sl} {x : D} {h : Hv} : zpK b ρ x h = (b ρ h).bind (zpK2 x) := id rfl
@[simp] theorem zip_ap {a b : DE} {ρ : Sl} {h : Hv} : diZip a b ρ h = (a ρ h).bind (zpK b ρ) := id rfl
theorem zpK2_ap {m n : Nat} {h : Hv} {xs ys : List D} (e1 : lstAt h m = some xs) (e2 : lstAt h n = some ys) : zpK2 (.ref m) (.ref n) h = .ok (.zip m n) h := by simp only [zpK2, e1, e2]
theorem src_zip {α β : Type} {f : α → D} {g : β → D} {m n i : Nat} {h : Hv} {as : List α} {bs : List β} (e1 : lstAt h m = some (as.map f)) (e2 : lstAt h n = some (bs.map g)) (l : as.length = bs.length) :
    srcAt h (.zip m n) i = some ((as.zip bs).map fun p => D.tup [f p.1, g p.2])[i]? := by
  show (match lstAt h m, lstAt h n with | some xs, some ys => if xs.length = ys.length then (match xs[i]?, ys[i]? with | some x, some y => some (some (D.tup [x, y])) | _, _ => some none) else none | _, _ => none) = _
  rw [e1, e2]
  simp only [List.length_map, l, if_true, List.getElem?_map, List.getElem?_zip_eq_some]
  by_cases q : i < as.length
  · have q2 : i < bs.length := by omega
    have z : (as.zip bs)[i]? = some (as[i], bs[i]) := by
      rw [List.getElem?_zip_eq_some]
      exact ⟨List.getElem?_eq_getElem q, List.getElem?_eq_getElem q2⟩
    rw [z, List.getElem?_eq_getElem q, List.getElem?_eq_getElem q2]
    rfl
  · rw [List.getElem?_eq_none (by omega), List.getElem?_eq_none (by omega), List.getElem?_eq_none (by rw [List.length_zip]; omega)]
    rfl
structure StreamAt (h : Hv) (s : Nat) (flows heights : List Rat) : Prop where
  ins : ∃ f g : Nat, h[s]? = some (.ins 1 [("flows", .ref f), ("heights", .ref g)]) ∧ lstAt h f = some (frs flows) ∧ lstAt h g = some (frs heights)
theorem StreamAt.pre {h h' : Hv} {s : Nat} {a b : List Rat} (p : h <+: h') (x : StreamAt h s a b) : StreamAt h' s a b := by
  obtain ⟨f, g, e1, e2, e3⟩ := x.ins
  exact ⟨f, g, get_pre p e1, lst_pre p e2, lst_pre p e3⟩
def flowOf (hs : List Rat) (r : Pip) : Option Rat := (hs[r.1]?).bind fun a => (hs[r.2.1]?).bind fun b => (qsub a b).bind fun d => qdiv d r.2.2
def lay1 (hs : List Rat) (p : Nat × Rat) : Option (List Rat) := if p.1 < hs.length then some (hs.set p.1 p.2) else none
def innerOf (part : List Nat) (other : Nat) : List Nat := part.filter fun k => decide (k ≠ other)
def sumsOf (inner : List Nat) (one other : Nat) : Option (List Rat) := if one = other then some (List.replicate inner.length 0) else (findIx inner one).map fun i => (List.replicate inner.length 0).set i 1
/-- heights and flows of the stream from one to other -/
def heightsM (sz : Nat) (rows : List Pip) (part : List Nat) (one other : Nat) : Option (List Rat) :=
  (sumsOf (innerOf part other) one other).bind fun b => (groundM (innerOf part other) rows).bind fun M => (solveM M b).bind fun xs => ((innerOf part other).zip xs).foldlM lay1 (List.replicate sz 0)
def flowsM (rows : List Pip) (hs : List Rat) : Option (List Rat) := if rows.all (fun r => (flowOf hs r).isSome) then some (rows.map fun r => (flowOf hs r).getD 0) else none
end DL

set_option Elab.async false
set_option linter.all false
set_option autoImplicit false
set_option maxRecDepth 100000
/-! What is hard, shared, weighed: as folds. -/
namespace DL
open PySem PySem.Spec PyProof.Rows L2
def ioK (tab : Nat → Option Bool) (x : D) (h : Hv) : R D := dIsO tab (fun _ h => .ok x h) [] h
@[simp] theorem io_ap {tab : Nat → Option Bool} {a : DE} {ρ : Sl} {h : Hv} : dIsO tab a ρ h = (a ρ h).bind (ioK tab) := by unfold dIsO ioK; cases a ρ h <;> rfl
theorem ioK_ap {tab : Nat → Option Bool} {h : Hv} {n c : Nat} {fs : List (Str × D)} {b : Bool} (e : h[n]? = some (.ins c fs)) (q : tab c = some b) : ioK tab (.ref n) h = .ok (.bl b) h := by simp only [ioK, dIsO, R.bind_ok, e, q]
theorem cut_tail (xs : List D) (h : xs ≠ []) : cutD xs (some 1) none = xs.drop 1 := by
  have hl : 1 ≤ xs.length := by cases xs with
    | nil => exact absurd rfl h
    | cons a r => simp
  have e1 : HT.sIx xs.length 0 (some 1) = 1 := by
    have := HT.sIx_nat xs.length 0 1
    rw [show (((1 : Nat) : Int)) = 1 from rfl] at this
    rw [this]; omega
  have e2 : HT.sIx xs.length xs.length none = xs.length := HT.sIx_none _ _
  unfold cutD
  rw [e1, e2, List.take_of_length_le (by simp)]
theorem RA.mem {α : Type} {enc : α → List D} {h : Hv} : ∀ {rs : List Nat} {ps : List α} {p : Nat × α}, RA enc h rs ps → p ∈ rs.zip ps → lstAt h p.1 = some (enc p.2)
  | r :: rs, q :: ps, p, ⟨a, b⟩, hp => by
    rw [List.zip_cons_cons, List.mem_cons] at hp
    rcases hp with z | z
    · subst z; exact a
    · exact RA.mem b z
  | [], _, _, _, hp => by simp at hp
  | _ :: _, [], _, x, _ => x.elim
def slK (lo hi : DO) (ρ : Sl) (x : D) (h : Hv) : R D := dSl (fun _ h => .ok x h) lo hi ρ h
@[simp] theorem sl_ap {a : DE} {lo hi : DO} {ρ : Sl} {h : Hv} : dSl a lo hi ρ h = (a ρ h).bind (slK lo hi ρ) := by unfold dSl slK; cases a ρ h <;> rfl
theorem slK_tail {n : Nat} {xs : List D} {ρ : Sl} {h : Hv} (e : lstAt h n = some xs) (c : xs ≠ []) : slK (oSome (dC (.int 1))) oNone ρ (.ref n) h = .ok (.ref h.length) (h ++ [.lst (xs.drop 1)]) := by
  unfold slK dSl oSome
  simp only [R.bind_ok, con_ap, onone_ap, e, cut_tail xs c]
def partsM (sz : Nat) (rows : List Pip) : Option (List (List Nat)) := (List.range sz).foldlM (fun l a => (partN rows a).bind fun p => match p with
  | [] => none
  | x :: r => if x = a then some (l ++ [x :: r]) else some l) []
def hardM (sz : Nat) (rows : List Pip) (one other : Nat) : Option Rat := (partN rows one).bind fun part => if part.Nodup ∧ part.length ≤ 100 ∧ other ∈ part ∧ one < sz ∧ other < sz then
  (heightsM sz rows part one other).bind fun hs => (flowsM rows hs).bind fun _ => hs[one]? else none
def shareM (sz : Nat) (rows : List Pip) (r : Pip) : Option Rat := (hardM sz rows r.1 r.2.1).bind fun x => qdiv x r.2.2
def weigh1 (rows : List Pip) (x : Rat) (part : List Nat) : Option Rat := if part.Nodup ∧ part.length ≤ 100 ∧ part ≠ [] then (groundM (part.drop 1) rows).bind fun M => (stepM M).bind fun s => qmul x s.1 else none
def weightM (sz : Nat) (rows : List Pip) : Option Rat := (partsM sz rows).bind fun ps => ps.foldlM (weigh1 rows) 1
def PipOk (sz : Nat) (r : Pip) : Prop := r.1 < sz ∧ r.2.1 < sz ∧ r.1 ≠ r.2.1 ∧ 1 ≤ r.2.2.num ∧ r.2.2.num ≤ 1000000000 ∧ r.2.2.den ≤ 1000000000
end DL

set_option Elab.async false
set_option linter.all false
set_option autoImplicit false
set_option maxRecDepth 100000
/-! Nets made, flows summed: as folds. -/
namespace DL
open PySem PySem.Spec PyProof.Rows L2
@[simp] theorem fIx_fr0 {x : Rat} {h : Hv} : fIx (fr x) (.int 0) h = .ok (.int x.num) h := by unfold fr; rw [fIx_tup, ixV_0]
@[simp] theorem fIx_fr1 {x : Rat} {h : Hv} : fIx (fr x) (.int 1) h = .ok (.int x.den) h := by unfold fr; rw [fIx_tup, ixV_1]
theorem isK_lst {n : Nat} {xs : List D} {h : Hv} (e : lstAt h n = some xs) : isK .list (.ref n) h = .ok (.bl true) h := by
  have : tnOf h (.ref n) = some .list := by simp only [tnOf, lst_get.mp e]
  rw [isK_ap, this]; rfl
theorem bools_true : ∀ n : Nat, boolsOf (List.replicate n (D.bl true)) = some (List.replicate n true)
  | 0 => rfl
  | n + 1 => by
    rw [List.replicate_succ]
    show (boolsOf (List.replicate n (D.bl true))).map _ = _
    rw [bools_true n]; rfl
theorem all_true {n q : Nat} {h : Hv} (e : lstAt h q = some (List.replicate n (D.bl true))) : bAll [.ref q] h = .ok (.bl true) h := by
  have : bAll.lstOf h (.ref q) = some (List.replicate n (D.bl true)) := e
  simp only [bAll, this, bools_true]
  congr 2
  simp
def totalM (xs : List Rat) : Option Rat := xs.foldlM qadd 0
def unitRows (rows : List Pip) : List Pip := rows.map fun r => (r.1, r.2.1, 1)
def treesM (sz : Nat) (rows : List Pip) : Option Int := (weightM sz (unitRows rows)).map (·.num)
def heat1 (rows : List Pip) (fs : List Rat) (k : Nat) : Option Rat := (fs[k]?).bind fun f => (rows[k]?).bind fun r => (qmul f f).bind fun a => qmul a r.2.2
def heatM (rows : List Pip) (fs : List Rat) : Option Rat := if (List.range fs.length).all (fun k => (heat1 rows fs k).isSome) = true then totalM ((List.range fs.length).map fun k => (heat1 rows fs k).getD 0) else none
def sums1 (rows : List Pip) (fs : List Rat) (l : List Rat) (k : Nat) : Option (List Rat) := (rows[k]?).bind fun r => (fs[k]?).bind fun f => (l[r.1]?).bind fun a => (qadd a f).bind fun a' => ((l.set r.1 a')[r.2.1]?).bind fun b => (qsub b f).bind fun b' => some ((l.set r.1 a').set r.2.1 b')
def sumsM (sz : Nat) (rows : List Pip) (fs : List Rat) : Option (List Rat) := (List.range fs.length).foldlM (sums1 rows fs) (List.replicate sz 0)
end DL

set_option Elab.async false
set_option linter.all false
set_option autoImplicit false
set_option maxRecDepth 100000
/-! Things that say the same are equal. -/
namespace DL
open PySem PySem.Spec PyProof.Rows L2
def Flat (n : Nat) (d : PyData) : Prop := d.canLay0 = true ∧ d.depth ≤ n
theorem flat_int {i : Int} : Flat 0 (.int i) := ⟨rfl, Nat.le_refl _⟩
theorem flat_all {n : Nat} : ∀ {xs : List PyData}, (∀ x ∈ xs, Flat n x) → PyData.canLayAll0 xs = true ∧ PyData.depthAll xs ≤ n
  | [], _ => ⟨rfl, Nat.zero_le _⟩
  | x :: r, h => by
    obtain ⟨a, b⟩ := flat_all (xs := r) (fun y hy => h y (by simp [hy]))
    obtain ⟨c, d⟩ := h x (by simp)
    constructor
    · unfold PyData.canLayAll0; rw [c, a]; rfl
    · unfold PyData.depthAll; omega
theorem flat_lst {n : Nat} {xs : List PyData} (h : ∀ x ∈ xs, Flat n x) : Flat (n + 1) (.list xs) := by
  obtain ⟨a, b⟩ := flat_all h
  exact ⟨a, by unfold PyData.depth; omega⟩
theorem flat_tup {n : Nat} {xs : List PyData} (h : ∀ x ∈ xs, Flat n x) : Flat (n + 1) (.tuple xs) := by
  obtain ⟨a, b⟩ := flat_all h
  exact ⟨a, by unfold PyData.depth; omega⟩
theorem Flat.shaped {n : Nat} {d : PyData} (h : Flat n d) (hn : n ≤ 64) : SeqAt.shaped d = true := by
  unfold SeqAt.shaped
  rw [h.1, Bool.true_and]
  exact decide_eq_true (by have := h.2; omega)
theorem eqD_of {h : Hv} {x y : D} {a b : PyData} {m n : Nat} (e1 : dat h 12 x = some a) (e2 : dat h 12 y = some b) (f1 : Flat m a) (f2 : Flat n b) (hm : m ≤ 64) (hn : n ≤ 64) : eqD h x y = some (PyData.eqv a b) := by
  unfold eqD
  split
  · rename_i i j
    cases (show some (PyData.int i) = some a from e1)
    cases (show some (PyData.int j) = some b from e2)
    congr 1
  · rename_i i j
    cases (show some (PyData.str i) = some a from e1)
    cases (show some (PyData.str j) = some b from e2)
    congr 1
  · rw [e1, e2]
    simp only [f1.shaped hm, f2.shaped hn, and_self, if_true]
theorem eqD_same {h : Hv} {x y : D} {a : PyData} {n : Nat} (e1 : dat h 12 x = some a) (e2 : dat h 12 y = some a) (f : Flat n a) (hn : n ≤ 64) : eqD h x y = some true := by
  rw [eqD_of e1 e2 f f hn hn]
  congr 1
  exact SeqAt.eqv_refl a f.1
theorem datL_map {α : Type} {f : D → Option PyData} {enc : α → D} {g : α → PyData} : ∀ {as : List α}, (∀ a ∈ as, f (enc a) = some (g a)) → datL f (as.map enc) = some (as.map g)
  | [], _ => rfl
  | a :: r, h => by
    rw [List.map_cons]
    unfold datL
    rw [h a (by simp), datL_map (as := r) (fun b hb => h b (by simp [hb]))]
    rfl
theorem dat_ref {α : Type} {h : Hv} {n q : Nat} {enc : α → D} {g : α → PyData} {as : List α} (e : lstAt h q = some (as.map enc)) (hg : ∀ a ∈ as, dat h n (enc a) = some (g a)) : dat h (n + 1) (.ref q) = some (.list (as.map g)) := by
  show (match lstAt h q with | some xs => (datL (dat h n) xs).map PyData.list | none => none) = _
  rw [e]
  simp only [datL_map hg]
  rfl
abbrev pI (k : Nat) : PyData := .int (k : Int)
abbrev pF (x : Rat) : PyData := .tuple [.int x.num, .int x.den]
theorem dat_int {h : Hv} {n : Nat} {i : Int} : dat h (n + 1) (.int i) = some (.int i) := rfl
theorem dat_fr {h : Hv} {n : Nat} {x : Rat} : dat h (n + 2) (fr x) = some (pF x) := rfl
theorem flat_fr {x : Rat} : Flat 1 (pF x) := flat_tup (fun y hy => by
  simp at hy
  rcases hy with rfl | rfl <;> exact flat_int)
theorem flat_nats {ks : List Nat} : Flat 1 (.list (ks.map pI)) := flat_lst (fun y hy => by
  rw [List.mem_map] at hy
  obtain ⟨k, _, rfl⟩ := hy
  exact flat_int)
theorem flat_frs {xs : List Rat} : Flat 2 (.list (xs.map pF)) := flat_lst (fun y hy => by
  rw [List.mem_map] at hy
  obtain ⟨k, _, rfl⟩ := hy
  exact flat_fr)
theorem dat_nats {h : Hv} {n q : Nat} {ks : List Nat} (e : lstAt h q = some (nats ks)) : dat h (n + 2) (.ref q) = some (.list (ks.map pI)) := dat_ref (g := pI) e (fun _ _ => rfl)
theorem dat_frs {h : Hv} {n q : Nat} {xs : List Rat} (e : lstAt h q = some (frs xs)) : dat h (n + 3) (.ref q) = some (.list (xs.map pF)) := dat_ref (g := pF) e (fun _ _ => rfl)
theorem eqD_nats {h : Hv} {q q' : Nat} {ks : List Nat} (e1 : lstAt h q = some (nats ks)) (e2 : lstAt h q' = some (nats ks)) : eqD h (.ref q) (.ref q') = some true := eqD_same (dat_nats e1) (dat_nats e2) flat_nats (by decide)
theorem eqD_frs {h : Hv} {q q' : Nat} {xs : List Rat} (e1 : lstAt h q = some (frs xs)) (e2 : lstAt h q' = some (frs xs)) : eqD h (.ref q) (.ref q') = some true := eqD_same (dat_frs e1) (dat_frs e2) flat_frs (by decide)
theorem datL_RA {h : Hv} {n : Nat} : ∀ {rs : List Nat} {ps : List (List Nat)}, RA nats h rs ps → datL (dat h (n + 2)) (rs.map D.ref) = some (ps.map fun ks => PyData.list (ks.map pI))
  | [], [], _ => rfl
  | r :: rs, p :: ps, ⟨a, b⟩ => by
    rw [List.map_cons]
    unfold datL
    rw [dat_nats a, datL_RA b]
    rfl
  | [], _ :: _, x => x.elim
  | _ :: _, [], x => x.elim
theorem eqD_RA {h : Hv} {q q' : Nat} {rs rs' : List Nat} {ps : List (List Nat)} (e1 : lstAt h q = some (rs.map D.ref)) (e2 : lstAt h q' = some (rs'.map D.ref)) (r1 : RA nats h rs ps) (r2 : RA nats h rs' ps) : eqD h (.ref q) (.ref q') = some true := by
  have key : ∀ {q : Nat} {rs : List Nat}, lstAt h q = some (rs.map D.ref) → RA nats h rs ps → dat h 12 (.ref q) = some (.list (ps.map fun ks => PyData.list (ks.map pI))) := by
    intro q rs e r
    show (match lstAt h q with | some xs => (datL (dat h 11) xs).map PyData.list | none => none) = _
    rw [e]
    simp only [datL_RA r]
    rfl
  refine eqD_same (key e1 r1) (key e2 r2) (n := 2) (flat_lst (fun y hy => ?_)) (by decide)
  rw [List.mem_map] at hy
  obtain ⟨k, _, rfl⟩ := hy
  exact flat_nats
/-- the script against an empty list -/
theorem eqD_rol {h : Hv} {ns : List Int} {q : Nat} (e : lstAt h q = some []) : eqD h (.rol ns) (.ref q) = some (decide (ns = [])) := by
  have e1 : dat h 12 (.rol ns) = some (.list (ns.map PyData.int)) := rfl
  have e2 : dat h 12 (.ref q) = some (.list (([] : List Nat).map pI)) := dat_nats (ks := []) e
  rw [eqD_of (m := 1) (n := 1) e1 e2 (flat_lst (fun y hy => by
    rw [List.mem_map] at hy
    obtain ⟨k, _, rfl⟩ := hy
    exact flat_int)) flat_nats (by decide) (by decide)]
  congr 1
  cases ns with
  | nil => rfl
  | cons a r => rfl
end DL

set_option Elab.async false
set_option linter.all false
set_option autoImplicit false
set_option maxRecDepth 100000
namespace DL
open PySem PySem.Spec PyProof.Rows L2
theorem mul_ref {h : Hv} {q m : Nat} {x : D} (e : lstAt h q = some [x]) (hm : m ≤ 1000) : fMul (.ref q) (.int (m : Int)) h = .ok (.ref h.length) (h ++ [.lst (List.replicate m x)]) := by
  have c : (0 : Int) ≤ (m : Int) ∧ (m : Int) ≤ 1000 ∧ [x].length * (m : Int).toNat ≤ cap := ⟨by omega, by omega, by simp; unfold cap; omega⟩
  simp only [fMul, lst_get.mp e]
  rw [if_pos c]
  congr 3
  have : ∀ k : Nat, (List.replicate k [x]).flatten = List.replicate k x := by
    intro k
    induction k with
    | zero => rfl
    | succ k ih => rw [List.replicate_succ, List.flatten_cons, ih]; rfl
  simp only [Int.toNat_natCast, this]
theorem fr_int {z : Int} : fr (z : Rat) = pr z 1 := rfl
theorem fr_nat {z : Nat} : fr (z : Rat) = pr z 1 := rfl
theorem fr_part {m : Nat} (h : m ≠ 0) : fr (mkRat 1 m) = pr 1 m := by
  unfold fr
  rw [Rat.num_mkRat, Rat.den_mkRat, if_neg h, if_neg h]
  simp
@[simp] theorem pow_seven : (7 : Nat) < 2 ^ 3 := by decide
theorem small_div {a p : Int} (h0 : p ≠ 0) (h : p.natAbs ≤ 1000) : divC a p = true := divC_ok h0 (pow_up (m := 10) (by omega) (by decide))
end DL

set_option Elab.async false
set_option linter.all false
set_option autoImplicit false
set_option maxRecDepth 100000
/-! What the laws draw out of their scripts. -/
namespace DL
open PySem PySem.Spec PyProof.Rows L2
def cellAt (ns : List Int) (k : Nat) : Int := ns.getD k 0
def drawP : List Nat := [1000003, 1000033, 1000037, 1000039, 1000081, 1000099, 1000117, 1000121]
def drawM (cell : Int) (k many : Nat) : Nat := (((cell * 48271 + (k : Int) * 69621 + (cell.fdiv 1000003).fmod 1000003 * 40692).fmod ((drawP.getD (k % 8) 1 : Nat) : Int)).fmod (many : Int)).toNat
theorem drawM_lt {cell : Int} {k many : Nat} (h : 0 < many) : drawM cell k many < many := by
  unfold drawM
  have := Int.fmod_lt_of_pos ((cell * 48271 + (k : Int) * 69621 + (cell.fdiv 1000003).fmod 1000003 * 40692).fmod ((drawP.getD (k % 8) 1 : Nat) : Int)) (show (0 : Int) < (many : Int) by omega)
  omega
def placesM (cell : Int) : Nat := ([3, 4, 2, 4, 5, 3, 1] : List Nat).getD (cell.fmod 7).toNat 1
def toldRow (other third : Int) (places k : Nat) : Pip :=
  (drawM other k places, (drawM other k places + 1 + drawM other (k + 3) (places - 1)) % places, mkRat ((1 + drawM third k 4 : Nat) : Int) (1 + drawM third (k + 5) 3))
def toldRows (cell other third : Int) (most : Nat) : List Pip := if 1 < placesM cell then (List.range ((cell.fdiv 7).fmod ((most : Int) + 1)).toNat).map (toldRow other third (placesM cell)) else []
theorem fmod_nat {a : Int} {n : Nat} (h : 0 < n) : ∃ k : Nat, k < n ∧ a.fmod (n : Int) = (k : Int) := by
  have h1 := Int.fmod_nonneg_of_pos a (show (0 : Int) < (n : Int) by omega)
  have h2 := Int.fmod_lt_of_pos a (show (0 : Int) < (n : Int) by omega)
  exact ⟨(a.fmod n).toNat, by omega, by omega⟩
theorem tuK_cap {xs : List D} {h : Hv} (e : xs.length ≤ 1000) : tuK xs h = .ok (.tup xs) h := tuK_ap (by unfold cap; omega)
theorem big_mul {a b : Int} (ha : a.natAbs < 2 ^ 2000000) (hb : b.natAbs ≤ 1000000) : mulC a b = true := mulC_sm (pow_up ha (by decide)) (pow_up (m := 20) (by omega) (by decide))
theorem bits_pow {z : Int} (h : Builtin.Int.intBits z ≤ 1048576) : z.natAbs < 2 ^ 2000000 := by
  unfold Builtin.Int.intBits at h
  by_cases c : z.natAbs = 0
  · rw [c]; exact Nat.pow_pos (by decide)
  · have : z.natAbs.log2 < 2000000 := by
      simp at h
      first | omega | (split at h <;> omega)
    exact (Nat.log2_lt c).mp this
end DL

set_option Elab.async false
set_option linter.all false
set_option autoImplicit false
set_option maxRecDepth 100000
/-! A part grows until it grows no more: so many turns are enough. -/
namespace DL
open PySem PySem.Spec PyProof.Rows L2
def passN (rows : List Pip) (ks : List Nat) : List Nat := (rows.foldl grow1 (ks, false)).1
def iterP (rows : List Pip) : Nat → List Nat → List Nat
  | 0, ks => ks
  | n + 1, ks => iterP rows n (passN rows ks)
theorem addK_mem {ks : List Nat} {a x : Nat} : x ∈ addK ks a ↔ x ∈ ks ∨ x = a := by
  unfold addK
  by_cases q : a ∈ ks
  · rw [if_pos q]
    constructor
    · exact .inl
    · rintro (z | rfl)
      · exact z
      · exact q
  · rw [if_neg q]; simp
theorem addK_nodup {ks : List Nat} {a : Nat} (h : ks.Nodup) : (addK ks a).Nodup := by
  unfold addK
  by_cases q : a ∈ ks
  · rw [if_pos q]; exact h
  · rw [if_neg q, List.nodup_append]
    refine ⟨h, by simp, ?_⟩
    intro u hu v hv
    rw [List.mem_singleton] at hv
    rintro rfl
    exact q (hv ▸ hu)
/-- what a turn over the rows does -/
theorem pass_facts (sz : Nat) : ∀ (rows : List Pip) (s : List Nat × Bool), (∀ r ∈ rows, r.1 < sz ∧ r.2.1 < sz) → s.1.Nodup → (∀ x ∈ s.1, x < sz) →
    (rows.foldl grow1 s).1.Nodup ∧ (∀ x ∈ (rows.foldl grow1 s).1, x < sz) ∧ s.1.length ≤ (rows.foldl grow1 s).1.length ∧ (∀ x ∈ s.1, x ∈ (rows.foldl grow1 s).1) ∧
      ((rows.foldl grow1 s).2 = true → s.2 = true ∨ s.1.length < (rows.foldl grow1 s).1.length) ∧ ((rows.foldl grow1 s).2 = false → rows.foldl grow1 s = s)
  | [], s, _, nd, lt => ⟨nd, lt, Nat.le_refl _, fun _ h => h, .inl, fun _ => rfl⟩
  | r :: rows, s, hr, nd, lt => by
    rw [List.foldl_cons]
    have h1 := hr r (by simp)
    by_cases c : decide (r.1 ∈ s.1) = decide (r.2.1 ∈ s.1)
    · have g : grow1 s r = s := by unfold grow1; rw [if_pos c]
      rw [g]
      exact pass_facts sz rows s (fun x hx => hr x (by simp [hx])) nd lt
    · have g : grow1 s r = (addK (addK s.1 r.1) r.2.1, true) := by unfold grow1; rw [if_neg c]
      have nd' : (grow1 s r).1.Nodup := by rw [g]; exact addK_nodup (addK_nodup nd)
      have lt' : ∀ x ∈ (grow1 s r).1, x < sz := by
        rw [g]
        intro x hx
        rw [addK_mem, addK_mem] at hx
        rcases hx with (z | rfl) | rfl
        · exact lt x z
        · exact h1.1
        · exact h1.2
      have ln : s.1.length < (grow1 s r).1.length := by
        rw [g]
        show s.1.length < (addK (addK s.1 r.1) r.2.1).length
        by_cases p1 : r.1 ∈ s.1
        · have p2 : r.2.1 ∉ s.1 := fun z => c (by simp [p1, z])
          have e1 : addK s.1 r.1 = s.1 := by unfold addK; rw [if_pos p1]
          rw [e1]
          unfold addK
          rw [if_neg p2]; simp
        · have e1 : addK s.1 r.1 = s.1 ++ [r.1] := by unfold addK; rw [if_neg p1]
          have : (s.1 ++ [r.1]).length ≤ (addK (s.1 ++ [r.1]) r.2.1).length := by
            unfold addK; split
            · exact Nat.le_refl _
            · simp
          rw [e1]
          rw [List.length_append] at this
          simp at this
          omega
      obtain ⟨a1, a2, a3, a4, a5, a6⟩ := pass_facts sz rows (grow1 s r) (fun x hx => hr x (by simp [hx])) nd' lt'
      have tr : (grow1 s r).2 = true := by rw [g]
      refine ⟨a1, a2, by omega, fun x hx => a4 x ?_, fun _ => .inr (by omega), fun z => ?_⟩
      · rw [g, addK_mem, addK_mem]; exact .inl (.inl hx)
      · have e := a6 z
        rw [e, tr] at z
        cases z
theorem nodup_len : ∀ (n : Nat) (l : List Nat), l.Nodup → (∀ x ∈ l, x < n) → l.length ≤ n
  | 0, [], _, _ => Nat.le_refl _
  | 0, a :: _, _, h => by have := h a (by simp); omega
  | n + 1, l, nd, h => by
    have h2 := nodup_len n (l.filter fun x => decide (x ≠ n)) (nd.filter _) (fun x hx => by
      rw [List.mem_filter] at hx
      have := h x hx.1
      have := of_decide_eq_true hx.2
      omega)
    have : ∀ l : List Nat, l.Nodup → l.length ≤ (l.filter fun x => decide (x ≠ n)).length + 1 := by
      intro l
      induction l with
      | nil => intro _; simp
      | cons a r ih =>
        intro nd
        have nd' := List.nodup_cons.mp nd
        by_cases q : a = n
        · subst q
          have : r.filter (fun x => decide (x ≠ a)) = r := List.filter_eq_self.mpr (fun x hx => by
            simp
            rintro rfl
            exact nd'.1 hx)
          rw [List.filter_cons]
          simp only [ne_eq, not_true_eq_false, decide_false, Bool.false_eq_true, if_false]
          simp only [ne_eq] at this
          rw [this]; simp
        · rw [List.filter_cons]
          have := ih nd'.2
          simp only [ne_eq, q, not_false_eq_true, decide_true, if_true, List.length_cons]
          simp only [ne_eq] at this
          omega
    have := this l nd
    omega
theorem iter_still {rows : List Pip} {ks : List Nat} (h : passN rows ks = ks) : ∀ n, iterP rows n ks = ks
  | 0 => rfl
  | n + 1 => by
    show iterP rows n (passN rows ks) = ks
    rw [h]; exact iter_still h n
theorem grow_iter {sz : Nat} {rows : List Pip} (hr : ∀ r ∈ rows, r.1 < sz ∧ r.2.1 < sz) : ∀ (m n : Nat) (ks : List Nat), ks.Nodup → (∀ x ∈ ks, x < sz) → sz - ks.length ≤ n → sz - ks.length < m → grow rows m ks = some (iterP rows n ks)
  | 0, _, _, _, _, _, h => by omega
  | m + 1, n, ks, nd, lt, hn, hm => by
    obtain ⟨a1, a2, a3, a4, a5, a6⟩ := pass_facts sz rows (ks, false) hr nd lt
    unfold grow
    by_cases c : (rows.foldl grow1 (ks, false)).2 = true
    · rw [if_pos c]
      have hl : ks.length < (rows.foldl grow1 (ks, false)).1.length := by
        rcases a5 c with z | z
        · cases z
        · exact z
      have := nodup_len sz _ a1 a2
      cases n with
      | zero => simp at hn hl; omega
      | succ n =>
        show _ = some (iterP rows n (passN rows ks))
        exact grow_iter hr m n _ a1 a2 (by omega) (by omega)
    · rw [if_neg c]
      have e := a6 (by simpa using c)
      have ps : passN rows ks = ks := by unfold passN; rw [e]
      rw [e, iter_still ps n]
theorem iter_facts {sz : Nat} {rows : List Pip} (hr : ∀ r ∈ rows, r.1 < sz ∧ r.2.1 < sz) : ∀ (n : Nat) (ks : List Nat), ks.Nodup → (∀ x ∈ ks, x < sz) → (iterP rows n ks).Nodup ∧ (∀ x ∈ iterP rows n ks, x < sz) ∧ (∀ x ∈ ks, x ∈ iterP rows n ks)
  | 0, ks, nd, lt => ⟨nd, lt, fun _ h => h⟩
  | n + 1, ks, nd, lt => by
    obtain ⟨a1, a2, a3, a4, a5, a6⟩ := pass_facts sz rows (ks, false) hr nd lt
    obtain ⟨b1, b2, b3⟩ := iter_facts hr n (passN rows ks) a1 a2
    exact ⟨b1, b2, fun x hx => b3 x (a4 x hx)⟩
/-- the part of a place -/
def partL (rows : List Pip) (sz a : Nat) : List Nat := sortN (iterP rows sz [a])
theorem partN_is {sz a : Nat} {rows : List Pip} (hr : ∀ r ∈ rows, r.1 < sz ∧ r.2.1 < sz) (ha : a < sz) (hz : sz ≤ 60) : partN rows a = some (partL rows sz a) := by
  unfold partN
  have g := grow_iter hr 99 sz [a] (by simp) (by simpa using ha) (by simp) (by simp; omega)
  rw [g, Option.bind_some]
  obtain ⟨b1, b2, b3⟩ := iter_facts hr sz [a] (by simp) (by simpa using ha)
  have := nodup_len sz _ b1 b2
  rw [if_pos (by omega)]
  rfl
theorem insN_mem {i x : Nat} : ∀ {l : List Nat}, x ∈ insN i l ↔ x = i ∨ x ∈ l
  | [] => by simp [insN]
  | j :: r => by
    unfold insN
    split
    · simp
    · rw [List.mem_cons, insN_mem (l := r), List.mem_cons]
      constructor
      · rintro (z | z | z) <;> simp [z]
      · rintro (z | z | z) <;> simp [z]
theorem sortN_mem {x : Nat} : ∀ {l : List Nat}, x ∈ sortN l ↔ x ∈ l
  | [] => by simp [sortN]
  | j :: r => by
    show x ∈ insN j (sortN r) ↔ _
    rw [insN_mem, sortN_mem (l := r), List.mem_cons]
end DL

set_option Elab.async false
set_option linter.all false
set_option autoImplicit false
set_option maxRecDepth 100000
/-! What data shows, and how long it may be. -/
namespace DL
open PySem PySem.Spec PyProof.Rows L2
structure Sho (n B : Nat) (d : PyData) : Prop where
  show' : d.showable = true
  dict : d.hasDict = false
  deep : d.depth ≤ n
  long : d.shown.length ≤ B
theorem Sho.mono {n n' B B' : Nat} {d : PyData} (h : Sho n B d) (a : n ≤ n') (b : B ≤ B') : Sho n' B' d := ⟨h.show', h.dict, Nat.le_trans h.deep a, Nat.le_trans h.long b⟩
theorem sho_int {i : Int} (h : i.natAbs < 10 ^ 20) : Sho 0 21 (.int i) := by
  have l := int_text_length_le10 (a := i) (k := 20) (by decide) h
  have lg : i.natAbs.log2 < 1920 := log_lt (Nat.lt_of_lt_of_le h (by decide : 10 ^ 20 ≤ 2 ^ 1920)) (by decide)
  refine ⟨?_, rfl, Nat.le_refl _, ?_⟩
  · unfold PyData.showable; exact decide_eq_true lg
  · show (Str.ofString (toString i)).length ≤ 21
    rw [PySem.ofString_length]; exact l
theorem from_len : ∀ (ts : List Str) (k : Nat) (acc : Str), (textFrom k acc ts).length ≤ acc.length + piled ts
  | [], k, acc => by show acc.length ≤ _; omega
  | t :: r, k, acc => by
    have h := from_len r (k + 1) (acc ++ (if k > 0 then ", " else "" : String) ++ t)
    rw [piled_cons]
    have e : (acc ++ (if k > 0 then ", " else "" : String) ++ t : Str).length ≤ acc.length + 2 + t.length := by
      rw [strLen_append, strLen_append]
      have : (Str.ofString (if k > 0 then ", " else "")).length ≤ 2 := by split <;> decide
      omega
    show (textFrom (k + 1) _ r).length ≤ _
    omega
theorem lists_len (ts : List Str) : (listText ts).length ≤ piled ts + 2 := by
  have h := from_len ts 0 "["
  show (textFrom 0 "[" ts ++ "]" : Str).length ≤ _
  rw [strLen_append]
  have e1 : (Str.ofString "[").length = 1 := by decide
  have e2 : (Str.ofString "]").length = 1 := by decide
  omega
theorem tuples_len (ts : List Str) : (tupleText ts).length ≤ piled ts + 3 := by
  unfold tupleText
  rw [strLen_append, strLen_append]
  have e1 : (Str.ofString "(").length = 1 := by decide
  have e2 : (Str.ofString (if ts.length == 1 then ",)" else ")")).length ≤ 2 := by split <;> decide
  have e3 : (Str.join ", " ts).length ≤ piled ts := by
    cases ts with
    | nil => decide
    | cons a r => have := join_length_add (a :: r) (by simp); omega
  omega
theorem sho_all {n B : Nat} : ∀ {xs : List PyData}, (∀ x ∈ xs, Sho n B x) → PyData.showableAll xs = true ∧ PyData.hasDictAll xs = false ∧ PyData.depthAll xs ≤ n ∧ piled (PyData.shownAll xs) ≤ xs.length * (B + 2)
  | [], _ => ⟨rfl, rfl, Nat.zero_le _, by simp [PyData.shownAll, piled]⟩
  | x :: r, h => by
    obtain ⟨a, b, c, d⟩ := sho_all (xs := r) (fun y hy => h y (by simp [hy]))
    obtain ⟨e, f, g, i⟩ := h x (by simp)
    refine ⟨?_, ?_, ?_, ?_⟩
    · unfold PyData.showableAll; rw [e, a]; rfl
    · unfold PyData.hasDictAll; rw [f, b]; rfl
    · unfold PyData.depthAll; omega
    · unfold PyData.shownAll
      rw [piled_cons, List.length_cons, Nat.succ_mul]
      omega
theorem sho_lst {n B : Nat} {xs : List PyData} (h : ∀ x ∈ xs, Sho n B x) : Sho (n + 1) (xs.length * (B + 2) + 3) (.list xs) := by
  obtain ⟨a, b, c, d⟩ := sho_all h
  refine ⟨a, b, by unfold PyData.depth; omega, ?_⟩
  show (listText (PyData.shownAll xs)).length ≤ _
  have := lists_len (PyData.shownAll xs)
  omega
theorem sho_tup {n B : Nat} {xs : List PyData} (h : ∀ x ∈ xs, Sho n B x) : Sho (n + 1) (xs.length * (B + 2) + 3) (.tuple xs) := by
  obtain ⟨a, b, c, d⟩ := sho_all h
  refine ⟨a, b, by unfold PyData.depth; omega, ?_⟩
  show (tupleText (PyData.shownAll xs)).length ≤ _
  have := tuples_len (PyData.shownAll xs)
  omega
theorem str_ref {h : Hv} {q n B : Nat} {d : PyData} (e : dat h 12 (.ref q) = some d) (s : Sho n B d) (hn : n ≤ 64) (hB : B ≤ cap) : bStr [.ref q] h = .ok (.str d.shown) h := by
  have ok : strOk d = true := by
    unfold strOk
    rw [s.show', s.dict]
    have h1 := s.deep
    have h2 := s.long
    simp only [Bool.not_false, Bool.and_true, Bool.true_and, Bool.and_eq_true, decide_eq_true_eq]
    exact ⟨by omega, by omega⟩
  show (match dat h 12 (.ref q) with | some d => if strOk d = true then R.ok (D.str d.shown) h else R.no | none => R.no) = _
  rw [e]
  simp only [ok, if_true]
abbrev pP (r : Pip) : PyData := .tuple [.int r.1, .int r.2.1, pF r.2.2]
theorem dat_row {h : Hv} {n : Nat} {r : Pip} : dat h (n + 3) (rowD r) = some (pP r) := rfl
theorem sho_row {r : Pip} (h1 : r.1 < 10 ^ 20) (h2 : r.2.1 < 10 ^ 20) (h3 : r.2.2.num.natAbs < 10 ^ 20) (h4 : r.2.2.den < 10 ^ 20) : Sho 2 200 (pP r) := by
  refine (sho_tup (n := 1) (B := 60) (fun x hx => ?_)).mono (Nat.le_refl _) (by simp)
  simp only [List.mem_cons, List.not_mem_nil, or_false] at hx
  rcases hx with rfl | rfl | rfl
  · exact (sho_int (by simpa using h1)).mono (by omega) (by omega)
  · exact (sho_int (by simpa using h2)).mono (by omega) (by omega)
  · refine (sho_tup (n := 0) (B := 21) (fun x hx => ?_)).mono (Nat.le_refl _) (by simp)
    simp only [List.mem_cons, List.not_mem_nil, or_false] at hx
    rcases hx with rfl | rfl
    · exact sho_int h3
    · exact sho_int (by simpa using h4)
end DL

set_option Elab.async false
set_option linter.all false
set_option autoImplicit false
set_option maxRecDepth 100000
/-! The laws' chains. -/
namespace DL
open PySem PySem.Spec PyProof.Rows L2
def chainRow (other : Int) (k : Nat) : Pip :=
  if drawM other (k + 1) 2 = 0 then (k, k + 1, mkRat ((1 + drawM other k 1000 : Nat) : Int) (1 + drawM other (k + 3) 30)) else (k + 1, k, mkRat ((1 + drawM other k 1000 : Nat) : Int) (1 + drawM other (k + 3) 30))
def chain1 (c : Nat) (other : Int) (l : List Pip) (k : Nat) : List Pip := if c = k then l else l ++ [chainRow other k]
def crossRow (other : Int) (places k : Nat) : Pip := (drawM other (k + 5) places, (drawM other (k + 5) places + 2) % places, ((1 + k : Nat) : Rat))
def chainPlaces (cell : Int) : Nat := 6 + (cell.fmod 3).toNat
def chainRows (cell other : Int) : List Pip := (List.range (chainPlaces cell - 1)).reverse.foldl (chain1 ((cell.fdiv 3).fmod 16).toNat other) [] ++ (List.range ((cell.fdiv 48).fmod 3).toNat).map (crossRow other (chainPlaces cell))
theorem sortN_zero {l : List Nat} (h : 0 ∈ l) : ∃ r, sortN l = 0 :: r := by
  have ins0 : ∀ l : List Nat, insN 0 l = 0 :: l := by
    intro l
    cases l with
    | nil => rfl
    | cons a r => unfold insN; rw [if_pos (Nat.zero_le _)]
  induction l with
  | nil => cases h
  | cons a r ih =>
    show ∃ r', insN a (sortN r) = 0 :: r'
    by_cases z : a = 0
    · subst z; exact ⟨_, ins0 _⟩
    · rcases List.mem_cons.mp h with y | y
      · exact absurd y.symm z
      · obtain ⟨r', e⟩ := ih y
        rw [e]
        unfold insN
        rw [if_neg (by omega)]
        exact ⟨_, rfl⟩
theorem partL_ne {rows : List Pip} {sz a : Nat} (hr : ∀ r ∈ rows, r.1 < sz ∧ r.2.1 < sz) (ha : a < sz) : ∃ x r, partL rows sz a = x :: r := by
  obtain ⟨b1, b2, b3⟩ := iter_facts hr sz [a] (by simp) (by simpa using ha)
  have m : a ∈ partL rows sz a := sortN_mem.mpr (b3 a (by simp))
  cases z : partL rows sz a with
  | nil => rw [z] at m; cases m
  | cons x r => exact ⟨x, r, rfl⟩
def parts1 (rows : List Pip) (l : List (List Nat)) (a : Nat) : Option (List (List Nat)) := (partN rows a).bind fun p => match p with
  | [] => none
  | x :: r => if x = a then some (l ++ [x :: r]) else some l
theorem partsM_is {rows : List Pip} {sz : Nat} (hr : ∀ r ∈ rows, r.1 < sz ∧ r.2.1 < sz) (h0 : 0 < sz) (hz : sz ≤ 60) : ∃ p ps, partsM sz rows = some (p :: ps) ∧ (p :: ps).length ≤ sz := by
  have key : ∀ (as : List Nat) (l : List (List Nat)), (∀ a ∈ as, a < sz) → ∃ ps, as.foldlM (parts1 rows) l = some (l ++ ps) ∧ ps.length ≤ as.length := by
    intro as
    induction as with
    | nil => intro l _; exact ⟨[], by simp, Nat.le_refl _⟩
    | cons a r ih =>
      intro l ha
      obtain ⟨x, t, e⟩ := partL_ne hr (ha a (by simp))
      have pn := partN_is hr (ha a (by simp)) hz
      rw [foldlM_none]
      have st : parts1 rows l a = if x = a then some (l ++ [x :: t]) else some l := by unfold parts1; rw [pn, e]; rfl
      rw [st]
      by_cases q : x = a
      · rw [if_pos q, Option.bind_some]
        obtain ⟨ps, e1, e2⟩ := ih (l ++ [x :: t]) (fun b hb => ha b (by simp [hb]))
        exact ⟨(x :: t) :: ps, by rw [e1]; simp, by simp; exact e2⟩
      · rw [if_neg q, Option.bind_some]
        obtain ⟨ps, e1, e2⟩ := ih l (fun b hb => ha b (by simp [hb]))
        exact ⟨ps, e1, by simp; omega⟩
  have e0 : partsM sz rows = (List.range sz).foldlM (parts1 rows) [] := rfl
  obtain ⟨n, rfl⟩ : ∃ n, sz = n + 1 := ⟨sz - 1, by omega⟩
  rw [e0, List.range_eq_range', List.range'_succ, foldlM_none]
  obtain ⟨b1, b2, b3⟩ := iter_facts hr (n + 1) [0] (by simp) (by simp)
  obtain ⟨t, e⟩ := sortN_zero (b3 0 (by simp))
  have pn := partN_is hr h0 hz
  have st : parts1 rows [] 0 = some [0 :: t] := by
    unfold parts1
    rw [pn]
    show (match partL rows (n + 1) 0 with | [] => none | x :: r => if x = 0 then some ([] ++ [x :: r]) else some []) = _
    unfold partL
    rw [e]; rfl
  rw [st, Option.bind_some]
  obtain ⟨ps, e1, e2⟩ := key (List.range' (0 + 1) n) [0 :: t] (fun a ha => by rw [List.mem_range'_1] at ha; omega)
  exact ⟨0 :: t, ps, by rw [e1]; rfl, by simp at e2 ⊢; omega⟩
end DL

set_option Elab.async false
set_option linter.all false
set_option autoImplicit false
set_option maxRecDepth 100000
/-! The rows that the laws draw are pipes. -/
namespace DL
open PySem PySem.Spec PyProof.Rows L2
theorem mk_small {a b N : Nat} (ha : 0 < a) (hb : 0 < b) (h1 : a ≤ N) (h2 : b ≤ N) : 1 ≤ (mkRat (a : Int) b).num ∧ (mkRat (a : Int) b).num ≤ N ∧ (mkRat (a : Int) b).den ≤ N := by
  have hg : 0 < Nat.gcd b a := Nat.gcd_pos_of_pos_left _ hb
  have e1 : (mkRat (a : Int) b).num = ((a / Nat.gcd b a : Nat) : Int) := by
    rw [Rat.num_mkRat, if_neg (by omega), Int.natAbs_natCast, Int.natCast_ediv]
  have e2 : (mkRat (a : Int) b).den = b / Nat.gcd b a := by
    rw [Rat.den_mkRat, if_neg (by omega), Int.natAbs_natCast]
  have p : 0 < a / Nat.gcd b a := Nat.div_pos (Nat.le_of_dvd ha (Nat.gcd_dvd_right b a)) hg
  have q : a / Nat.gcd b a ≤ a := Nat.div_le_self _ _
  have r : b / Nat.gcd b a ≤ b := Nat.div_le_self _ _
  rw [e1, e2]
  omega
theorem mod_shift {x k p : Nat} (hx : x < p) (h0 : 0 < k) (hk : k < p) : x ≠ (x + k) % p := by
  by_cases c : x + k < p
  · rw [Nat.mod_eq_of_lt c]; omega
  · rw [Nat.mod_eq_sub_mod (by omega), Nat.mod_eq_of_lt (by omega)]; omega
theorem told_ok {other third : Int} {places k : Nat} (h : 1 < places) : PipOk places (toldRow other third places k) := by
  have a1 := drawM_lt (cell := other) (k := k) (many := places) (by omega)
  have a2 := drawM_lt (cell := other) (k := k + 3) (many := places - 1) (by omega)
  have a3 := drawM_lt (cell := third) (k := k) (many := 4) (by decide)
  have a4 := drawM_lt (cell := third) (k := k + 5) (many := 3) (by decide)
  unfold toldRow
  obtain ⟨b1, b2, b3⟩ := mk_small (a := 1 + drawM third k 4) (b := 1 + drawM third (k + 5) 3) (N := 4) (by omega) (by omega) (by omega) (by omega)
  refine ⟨a1, Nat.mod_lt _ (by omega), ?_, b1, by simp only; omega, by simp only; omega⟩
  have := mod_shift (x := drawM other k places) (k := 1 + drawM other (k + 3) (places - 1)) (p := places) a1 (by omega) (by omega)
  rw [← Nat.add_assoc] at this
  exact this
theorem placesM_le (cell : Int) : 1 ≤ placesM cell ∧ placesM cell ≤ 5 := by
  unfold placesM
  obtain ⟨j, j1, j2⟩ := fmod_nat (a := cell) (n := 7) (by decide)
  rw [show ((7 : Nat) : Int) = 7 from rfl] at j2
  rw [j2, Int.toNat_natCast]
  have : j = 0 ∨ j = 1 ∨ j = 2 ∨ j = 3 ∨ j = 4 ∨ j = 5 ∨ j = 6 := by omega
  rcases this with rfl | rfl | rfl | rfl | rfl | rfl | rfl <;> decide
theorem toldRows_ok (cell other third : Int) (most : Nat) : (∀ w ∈ toldRows cell other third most, PipOk (placesM cell) w) ∧ (toldRows cell other third most).length ≤ most := by
  unfold toldRows
  by_cases c : 1 < placesM cell
  · rw [if_pos c]
    refine ⟨fun w hw => ?_, ?_⟩
    · rw [List.mem_map] at hw
      obtain ⟨k, _, rfl⟩ := hw
      exact told_ok c
    · obtain ⟨n, n1, n2⟩ := fmod_nat (a := cell.fdiv 7) (n := most + 1) (by omega)
      rw [Int.natCast_add, show ((1 : Nat) : Int) = 1 from rfl] at n2
      rw [n2]; simp; omega
  · rw [if_neg c]
    exact ⟨fun w hw => (by cases hw), Nat.zero_le _⟩
theorem chain_ok {other : Int} {places k : Nat} (h : k + 1 < places) : PipOk places (chainRow other k) := by
  have a3 := drawM_lt (cell := other) (k := k) (many := 1000) (by decide)
  have a4 := drawM_lt (cell := other) (k := k + 3) (many := 30) (by decide)
  obtain ⟨b1, b2, b3⟩ := mk_small (a := 1 + drawM other k 1000) (b := 1 + drawM other (k + 3) 30) (N := 1000) (by omega) (by omega) (by omega) (by omega)
  unfold chainRow
  split
  · exact ⟨by simp only; omega, h, by simp, b1, by simp only; omega, by simp only; omega⟩
  · exact ⟨h, by simp only; omega, by simp, b1, by simp only; omega, by simp only; omega⟩
theorem cross_ok {other : Int} {places k : Nat} (h : 6 ≤ places) (hk : k < 3) : PipOk places (crossRow other places k) := by
  have a1 := drawM_lt (cell := other) (k := k + 5) (many := places) (by omega)
  unfold crossRow
  refine ⟨a1, Nat.mod_lt _ (by omega), mod_shift a1 (by omega) (by omega), ?_, ?_, ?_⟩
  · show (1 : Int) ≤ ((1 + k : Nat) : Int); omega
  · show ((1 + k : Nat) : Int) ≤ 1000000000; omega
  · show 1 ≤ 1000000000; decide
theorem chainPlaces_le (cell : Int) : 6 ≤ chainPlaces cell ∧ chainPlaces cell ≤ 8 := by
  unfold chainPlaces
  obtain ⟨j, j1, j2⟩ := fmod_nat (a := cell) (n := 3) (by decide)
  rw [show ((3 : Nat) : Int) = 3 from rfl] at j2
  rw [j2, Int.toNat_natCast]
  omega
theorem chainRows_ok (cell other : Int) : (∀ w ∈ chainRows cell other, PipOk (chainPlaces cell) w) ∧ (chainRows cell other).length ≤ 12 := by
  obtain ⟨p6, p8⟩ := chainPlaces_le cell
  unfold chainRows
  obtain ⟨n, n1, n2⟩ := fmod_nat (a := cell.fdiv 48) (n := 3) (by decide)
  rw [show ((3 : Nat) : Int) = 3 from rfl] at n2
  rw [n2, Int.toNat_natCast]
  generalize ((cell.fdiv 3).fmod 16).toNat = c
  have key : ∀ (ks : List Nat) (l : List Pip), (∀ k ∈ ks, k + 1 < chainPlaces cell) → (∀ w ∈ l, PipOk (chainPlaces cell) w) → (∀ w ∈ ks.foldl (chain1 c other) l, PipOk (chainPlaces cell) w) ∧ (ks.foldl (chain1 c other) l).length ≤ l.length + ks.length := by
    intro ks
    induction ks with
    | nil => intro l _ h; exact ⟨h, Nat.le_refl _⟩
    | cons k r ih =>
      intro l hk h
      rw [List.foldl_cons]
      have st : (∀ w ∈ chain1 c other l k, PipOk (chainPlaces cell) w) ∧ (chain1 c other l k).length ≤ l.length + 1 := by
        unfold chain1
        split
        · exact ⟨h, by omega⟩
        · refine ⟨fun w hw => ?_, by simp⟩
          rw [List.mem_append, List.mem_singleton] at hw
          rcases hw with z | rfl
          · exact h w z
          · exact chain_ok (hk k (by simp))
      obtain ⟨a, b⟩ := ih _ (fun x hx => hk x (by simp [hx])) st.1
      exact ⟨a, by simp; omega⟩
  obtain ⟨a, b⟩ := key (List.range (chainPlaces cell - 1)).reverse [] (fun k hk => by rw [List.mem_reverse, List.mem_range] at hk; omega) (by simp)
  refine ⟨fun w hw => ?_, ?_⟩
  · rw [List.mem_append, List.mem_map] at hw
    rcases hw with z | ⟨k, hk, rfl⟩
    · exact a w z
    · exact cross_ok p6 (by rw [List.mem_range] at hk; omega)
  · simp at b ⊢; omega
end DL

set_option Elab.async false
set_option linter.all false
set_option autoImplicit false
set_option maxRecDepth 100000
/-! Texts of numbers. -/
namespace DL
open PySem PySem.Spec PyProof.Rows L2
/-- a number's text -/
abbrev nT (n : Nat) : Str := Str.ofString (toString ((n : Nat) : Int))
theorem takeW_all {p : Nat → Bool} : ∀ l : List Nat, (∀ c ∈ l, p c = true) → l.takeWhile p = l
  | [], _ => rfl
  | c :: r, h => by rw [List.takeWhile_cons, if_pos (h c (by simp)), takeW_all r (fun d hd => h d (by simp [hd]))]
theorem strip_all {x y : Str} (h : ∀ c ∈ x.cps.toList, y.cps.contains c = true) : Txt.stripChars x y = Str.empty := by
  unfold Txt.stripChars
  rw [stripBy_eq]
  have lo : stripLo y.cps.contains true x = x.length := by
    unfold stripLo
    rw [if_pos rfl, takeW_all _ h]
    simp [Str.length]
  have hi : stripHi y.cps.contains true x x.length = x.length := by
    unfold stripHi
    rw [if_pos rfl]
    have : x.cps.toList.drop x.length = [] := List.drop_eq_nil_of_le (by simp [Str.length])
    rw [this]
    simp
  rw [lo, hi]
  refine TL.ext_tl ?_
  rw [TL.tl_strSub, Nat.sub_self, List.take_zero]
  rfl
theorem figs : TL.tl (Str.ofString "0123456789") = [48, 49, 50, 51, 52, 53, 54, 55, 56, 57] := by decide +kernel
theorem digit_in {c n : Nat} (h : c ∈ TL.numL n) : 48 ≤ c ∧ c ≤ 57 := by
  refine Classical.byContradiction fun w => ?_
  exact TL.numL_free (n := n) (s := c) (by omega) h
theorem strip_num (n : Nat) : Txt.stripChars (nT n) (Str.ofString "0123456789") = Str.empty := strip_all fun c hc => by
  have m : c ∈ TL.numL n := by rw [← TL.tl_num]; exact hc
  obtain ⟨a, b⟩ := digit_in m
  have : c ∈ TL.tl (Str.ofString "0123456789") := by
    rw [figs]
    have : c = 48 ∨ c = 49 ∨ c = 50 ∨ c = 51 ∨ c = 52 ∨ c = 53 ∨ c = 54 ∨ c = 55 ∨ c = 56 ∨ c = 57 := by omega
    simpa using this
  rw [Array.contains_iff_mem]
  exact Array.mem_toList_iff.mp this
theorem num_head : ∀ (n : Nat), 0 < n → ∃ c r, TL.numL n = c :: r ∧ c ≠ 48 := by
  intro n
  induction n using Nat.strongRecOn with
  | ind n ih =>
    intro hn
    by_cases c : n < 10
    · exact ⟨48 + n, [], TL.numL_lt c, by omega⟩
    · obtain ⟨d, r, e, ne⟩ := ih (n / 10) (by omega) (by omega)
      exact ⟨d, r ++ [48 + n % 10], by rw [TL.numL_step (by omega), e]; rfl, ne⟩
theorem num_len {n : Nat} (h : n < 10 ^ 10) : 1 ≤ (nT n).length ∧ (nT n).length ≤ 10 := by
  rw [TL.len_tl, TL.tl_num]
  refine ⟨?_, TL.numL_len (by decide) h⟩
  have := TL.numL_ne n
  exact List.length_pos_iff.mpr this
theorem starts_num {n : Nat} (h : 0 < n) : Txt.startswith (nT n) (Str.ofString "0") = false := by
  obtain ⟨c, r, e, ne⟩ := num_head n h
  unfold Txt.startswith
  rw [Bool.and_eq_false_iff]
  refine .inr ?_
  unfold Builtin.Str.subAt
  have e2 : (nT n).cps.toList = c :: r := by rw [← e, ← TL.tl_num]
  have e3 : (Str.ofString "0").cps.toList = [48] := by decide +kernel
  have l1 : (Str.ofString "0").length = 1 := by decide +kernel
  rw [l1]
  refine Bool.eq_false_iff.mpr fun z => ?_
  have z := eq_of_beq z
  have z2 : ((nT n).cps.extract 0 (0 + 1)).toList = [48] := by rw [z, e3]
  rw [Array.toList_extract, e2] at z2
  simp at z2
  exact ne z2
theorem int_nT {n : Nat} (h : n < 10 ^ 10) : PySem.intText? (nT n) = some (n : Int) := TL.int_num (by have := TL.numL_len (k := 10) (by decide) h; omega)
end DL

set_option Elab.async false
set_option linter.all false
set_option autoImplicit false
set_option maxRecDepth 100000
set_option pp.maxSteps 60
set_option maxHeartbeats 4000000
namespace K11
open PySem PySem.Spec PyProof.Rows L2 DL
theorem x_is_whole (i : Int) (h : Hv) : F_is_whole [.int i] h = .ok (.bl true) h := by
  simp [F_is_whole, d_is_whole, startD, N_is_whole]
theorem x_within (i a b : Int) (h : Hv) : F_within [.int i, .int a, .int b] h = .ok (.bl (decide (a ≤ i ∧ i ≤ b))) h := by
  simp [F_within, d_within, startD, N_within, x_is_whole]
  by_cases q : a ≤ i <;> simp [q]
theorem l_common (h : Hv) : ∀ (m a b : Nat), b < m → whileR (dB (dOp fNe (dVar 1) (dC (.int 0)))) (dPar 0 1 (aCons (dVar 1) (aCons (dOp fMod (dVar 0) (dVar 1)) aNil))) m [some (.int a), some (.int b)] h = .nx [some (.int (Nat.gcd a b)), some (.int 0)] h
  | 0, _, _, h => by omega
  | m + 1, a, b, hm => by
    rw [whileR]
    by_cases hb : b = 0
    · subst hb; simp
    · have e : (a : Int).fmod (b : Int) = ((a % b : Nat) : Int) := by rw [Int.fmod_eq_emod_of_nonneg _ (by omega)]; exact_mod_cast rfl
      simp [hb, e]
      rw [show ((a : Int) % (b : Int)) = ((a % b : Nat) : Int) from rfl, l_common h m b (a % b) (by have := Nat.mod_lt a (Nat.pos_of_ne_zero hb); omega)]
      rw [Nat.gcd_comm a b, Nat.gcd_rec b a, Nat.gcd_comm]
theorem x_common (a b : Int) (h : Hv) : F_common [.int a, .int b] h = .ok (.int (Int.gcd a b)) h := by
  have e1 : (if a < 0 then -a else a) = (a.natAbs : Int) := by omega
  have e2 : (if b < 0 then -b else b) = (b.natAbs : Int) := by omega
  simp [F_common, d_common, startD, N_common, e1, e2]
  rw [show ∀ (c : DT) (d : DS) (ρ : Sl), dWhile (fuelI 1) c d ρ h = whileR c d (fuelI 1 ρ) ρ h from fun _ _ _ => rfl]
  rw [show ∀ x, fuelI 1 [x, some (.int (b.natAbs : Int))] = b.natAbs + 2 from fun x => by simp [fuelI]]
  rw [l_common h _ _ _ (by omega)]
  simp [Int.gcd]
theorem fr_bits {n : Nat} {x : Rat} (h : Sm n x) : x.num.natAbs < 2 ^ n ∧ ((x.den : Int)).natAbs < 2 ^ n := h
theorem x_is_fraction (x : Rat) (h : Hv) : F_is_fraction [fr x] h = .ok (.bl true) h := by
  have e : Int.gcd x.num x.den = 1 := x.reduced
  have p : (0 : Int) < x.den := by exact_mod_cast x.den_pos
  simp [F_is_fraction, d_is_fraction, startD, N_is_fraction, fr, x_is_whole, x_common, e, x.den_pos]
theorem n_size {h : Hv} {n sz : Nat} {rows : List Pip} (e : NetAt h n sz rows) : flK 0 "size" (.ref n) h = .ok (.int sz) h := by
  obtain ⟨r, e1, e2⟩ := e.ins
  exact flK_ap e1 rfl
theorem n_rows {h : Hv} {n sz : Nat} {rows : List Pip} (e : NetAt h n sz rows) : ∃ r, flK 0 "rows" (.ref n) h = .ok (.ref r) h ∧ lstAt h r = some (rows.map rowD) := by
  obtain ⟨r, e1, e2⟩ := e.ins
  exact ⟨r, flK_ap e1 rfl, e2⟩
theorem n_place {h : Hv} {n sz : Nat} {rows : List Pip} {F : FD} {a : DA} {ρ : Sl} (e : NetAt h n sz rows) : meK 0 "place" F a ρ (.ref n) h = (a ρ h).bind (caK F (.ref n)) := by
  obtain ⟨r, e1, e2⟩ := e.ins
  exact meK_ap e1 rfl
theorem n_part {h : Hv} {n sz : Nat} {rows : List Pip} {F : FD} {a : DA} {ρ : Sl} (e : NetAt h n sz rows) : meK 0 "part" F a ρ (.ref n) h = (a ρ h).bind (caK F (.ref n)) := by
  obtain ⟨r, e1, e2⟩ := e.ins
  exact meK_ap e1 rfl
theorem n_parts {h : Hv} {n sz : Nat} {rows : List Pip} {F : FD} {a : DA} {ρ : Sl} (e : NetAt h n sz rows) : meK 0 "parts" F a ρ (.ref n) h = (a ρ h).bind (caK F (.ref n)) := by
  obtain ⟨r, e1, e2⟩ := e.ins
  exact meK_ap e1 rfl
theorem n_pipe {h : Hv} {n sz : Nat} {rows : List Pip} {F : FD} {a : DA} {ρ : Sl} (e : NetAt h n sz rows) : meK 0 "pipe" F a ρ (.ref n) h = (a ρ h).bind (caK F (.ref n)) := by
  obtain ⟨r, e1, e2⟩ := e.ins
  exact meK_ap e1 rfl
theorem l_pass {h : Hv} {n sz a : Nat} {rows : List Pip} (e : NetAt h n sz rows) (ks : List Nat) (hl : rows.length + ks.length < 100000) (ρ : Sl) (hρ : ∃ o3 o4 o5 o6, ρ = [some (.ref n), some (.int a), some (.ref h.length), o3, o4, o5, o6]) :
    ∃ o4 o5 o6, (dSeq (dSet 3 (dC (.bl false))) (dFor (diOf (dFld 0 "rows" (dVar 0))) (gT 3 (gsCons (gN 4) (gsCons (gN 5) (gsCons (gN 6) gsNil)))) (dIf (dB (dOp fNe (dOp fDIn (dVar 4) (dVar 2)) (dOp fDIn (dVar 5) (dVar 2)))) (dSeq (dStoreD (dVar 2) (dVar 4) (dC (.bl true)))
    (dSeq (dStoreD (dVar 2) (dVar 5) (dC (.bl true)))
    (dSet 3 (dC (.bl true))))) dNx))) ρ (h ++ [.dK (kd ks)]) = .nx [some (.ref n), some (.int a), some (.ref h.length), some (.bl (rows.foldl grow1 (ks, false)).2), o4, o5, o6] (h ++ [.dK (kd (rows.foldl grow1 (ks, false)).1)]) := by
  obtain ⟨o3, o4, o5, o6, rfl⟩ := hρ
  obtain ⟨r, e1, e2⟩ := n_rows (e.pre (pre_app (t := [.dK (kd ks)])))
  obtain ⟨r', e1', e2'⟩ := n_rows e
  simp [e1, diK_ref e2]
  have key := forK_nx (src := .lst r) (xs := rows.map rowD) (ρ := [some (.ref n), some (.int a), some (.ref h.length), some (.bl false), o4, o5, o6]) (h := h ++ [.dK (kd ks)])
    (t := gT 3 (gsCons (gN 4) (gsCons (gN 5) (gsCons (gN 6) gsNil)))) (b := dIf (dB (dOp fNe (dOp fDIn (dVar 4) (dVar 2)) (dOp fDIn (dVar 5) (dVar 2)))) (dSeq (dStoreD (dVar 2) (dVar 4) (dC (.bl true)))
    (dSeq (dStoreD (dVar 2) (dVar 5) (dC (.bl true)))
    (dSet 3 (dC (.bl true))))) dNx)
    (fun i ρ h' => ∃ s : List Nat × Bool, s = (rows.take i).foldl grow1 (ks, false) ∧ s.1.length ≤ ks.length + 2 * i ∧ (∃ o4 o5 o6, ρ = [some (.ref n), some (.int a), some (.ref h.length), some (.bl s.2), o4, o5, o6]) ∧ h' = h ++ [.dK (kd s.1)])
    ⟨(ks, false), by simp, by simp, ⟨_, _, _, rfl⟩, rfl⟩ (by rw [srcLen_lst e2]) ?_ ?_
  · obtain ⟨ρ', h', q1, s, q2, q3, ⟨p4, p5, p6, q4⟩, q5⟩ := key
    rw [q1, q4, q5]
    rw [List.length_map, List.take_length] at q2
    subst q2
    exact ⟨_, _, _, rfl⟩
  · rintro i ρ h' ⟨s, q2, q3, q4, q5⟩
    subst q5
    obtain ⟨r2, e3, e4⟩ := n_rows (e.pre (pre_app (t := [.dK (kd s.1)])))
    have rr : r2 = r := by
      obtain ⟨z, y1, y2⟩ := e.ins
      have u1 := flK_ap (f := "rows") (get_pre (pre_app (t := [.dK (kd s.1)])) y1) rfl
      have u2 := flK_ap (f := "rows") (get_pre (pre_app (t := [.dK (kd ks)])) y1) rfl
      rw [e3] at u1; rw [e1] at u2
      cases u1; cases u2; rfl
    subst rr
    exact src_lst e4
  · rintro i x ρ h' hx ⟨s, q2, q3, ⟨p4, p5, p6, q4⟩, q5⟩
    subst q4 q5
    have hi := (List.getElem?_eq_some_iff.mp hx).1
    rw [List.getElem?_map] at hx
    cases q : rows[i]? with
    | none => rw [q] at hx; cases hx
    | some w =>
      rw [q] at hx
      cases hx
      have tk : (rows.take (i + 1)).foldl grow1 (ks, false) = grow1 s w := by
        rw [List.take_add_one, q, List.foldl_append, ← q2]; rfl
      have dk : (h ++ [O.dK (kd s.1)])[h.length]? = some (.dK (kd s.1)) := by simp
      have lt : rows.length + ks.length < 100000 := hl
      rw [List.length_map] at hi
      by_cases c : decide (w.1 ∈ s.1) = decide (w.2.1 ∈ s.1)
      · have g1 : grow1 s w = s := by unfold grow1; rw [if_pos c]
        refine ⟨_, _, _, rfl, ?_, s, by rw [tk, g1], by omega, ⟨some (.int w.1), some (.int w.2.1), some (fr w.2.2), rfl⟩, rfl⟩
        simp [rowD, din_ap _ dk, eqD_bl, c]
      · have g1 : grow1 s w = (addK (addK s.1 w.1) w.2.1, true) := by unfold grow1; rw [if_neg c]
        have k1 := addK_len s.1 w.1
        have k2 := addK_len (addK s.1 w.1) w.2.1
        refine ⟨_, _, _, rfl, ?_, grow1 s w, tk.symm, by rw [g1]; show (addK (addK s.1 w.1) w.2.1).length ≤ _; omega, ⟨some (.int w.1), some (.int w.2.1), some (fr w.2.2), rfl⟩, rfl⟩
        simp [rowD, din_ap _ dk, eqD_bl, c]
        rw [sdK3_ap dk (by rw [kd_len]; unfold cap; omega), kd_put]
        simp
        rw [sdK3_ap (kvs := kd (addK s.1 w.1)) (by simp) (by rw [kd_len]; unfold cap; omega), kd_put]
        simp [g1]

theorem l_grow {h : Hv} {n sz a : Nat} {rows : List Pip} (e : NetAt h n sz rows) : ∀ (m : Nat) (ks ks' : List Nat) (o4 o5 o6 : Option D), grow rows m ks = some ks' → rows.length + ks.length + 2 * m * rows.length < 100000 →
    ∃ ρ', whileR (dB (dVar 3)) (dSeq (dSet 3 (dC (.bl false))) (dFor (diOf (dFld 0 "rows" (dVar 0))) (gT 3 (gsCons (gN 4) (gsCons (gN 5) (gsCons (gN 6) gsNil)))) (dIf (dB (dOp fNe (dOp fDIn (dVar 4) (dVar 2)) (dOp fDIn (dVar 5) (dVar 2)))) (dSeq (dStoreD (dVar 2) (dVar 4) (dC (.bl true)))
    (dSeq (dStoreD (dVar 2) (dVar 5) (dC (.bl true)))
    (dSet 3 (dC (.bl true))))) dNx))) (m + 1) [some (.ref n), some (.int a), some (.ref h.length), some (.bl true), o4, o5, o6] (h ++ [.dK (kd ks)]) = .nx ρ' (h ++ [.dK (kd ks')]) ∧ ρ'[2]? = some (some (.ref h.length))
  | 0, _, _, _, _, _, g, _ => by cases g
  | m + 1, ks, ks', o4, o5, o6, g, hl => by
    obtain ⟨p4, p5, p6, q⟩ := l_pass (a := a) e ks (by omega) [some (.ref n), some (.int a), some (.ref h.length), some (.bl true), o4, o5, o6] ⟨_, _, _, _, rfl⟩
    have lenB : ∀ (l : List Pip) (s : List Nat × Bool), (l.foldl grow1 s).1.length ≤ s.1.length + 2 * l.length := by
      intro l
      induction l with
      | nil => intro s; simp
      | cons x r ih =>
        intro s
        have := ih (grow1 s x)
        have := grow1_len s x
        simp only [List.foldl_cons, List.length_cons]
        omega
    have lb := lenB rows (ks, false)
    rw [whileR]
    simp only [b_ap, var_ap, List.getElem?_cons_succ, List.getElem?_cons_zero, getV_some, R.bind_ok, boolV_bl, SR.of_ok, if_true]
    rw [q]
    simp only []
    unfold grow at g
    by_cases c : (rows.foldl grow1 (ks, false)).2 = true
    · rw [if_pos c] at g
      rw [c]
      refine l_grow e m _ ks' p4 p5 p6 g ?_
      have : 2 * (m + 1) * rows.length = 2 * m * rows.length + 2 * rows.length := by
        rw [Nat.mul_add, Nat.add_mul]
      simp only at lb
      omega
    · rw [if_neg c] at g
      cases g
      have c' : (rows.foldl grow1 (ks, false)).2 = false := by simpa using c
      rw [c', whileR]
      refine ⟨[some (.ref n), some (.int a), some (.ref h.length), some (.bl false), p4, p5, p6], ?_, rfl⟩
      simp
theorem x_is_pipe {sz : Nat} {r : Pip} {h : Hv} (p : PipOk sz r) : F_is_pipe [rowD r, iN sz] h = .ok (.bl true) h := by
  obtain ⟨p1, p2, p3, p4, p5, p6⟩ := p
  have a1 : (r.1 : Int) ≤ (sz : Int) - 1 := by omega
  have a2 : (r.2.1 : Int) ≤ (sz : Int) - 1 := by omega
  have a3 : ¬ ((r.1 : Int) = (r.2.1 : Int)) := by omega
  have a4 : (r.2.2.den : Int) ≤ 1000000000 := by omega
  simp [F_is_pipe, d_is_pipe, startD, N_is_pipe, rowD, x_within, a1, a2, a3, x_is_fraction, p4, p5, a4]
theorem x_net_init {h : Hv} {sz r : Nat} {rows : List Pip} (e : lstAt h r = some (rows.map rowD)) (h1 : 1 ≤ sz) (h8 : sz ≤ 8) (hl : rows.length ≤ 28) (ok : ∀ w ∈ rows, PipOk sz w) :
    F_Net_init [.ref h.length, iN sz, .ref r] (h ++ [.ins 0 []]) = .ok .non (h ++ [.ins 0 [("size", iN sz), ("rows", .ref (h.length + 1))], .lst (rows.map rowD)]) := by
  have e1 := lst_pre (pre_app (t := [.ins 0 []])) e
  have g1 : (h ++ [O.ins 0 []])[h.length]? = some (.ins 0 []) := by simp
  have s1 : (h ++ [O.ins 0 []]).set h.length (.ins 0 [("size", iN sz)]) = h ++ [O.ins 0 [("size", iN sz)]] := by
    rw [List.set_append_right _ _ (Nat.le_refl _)]; simp
  have p1 : putD "size" (iN sz) [] = [(("size" : Str), iN sz)] := rfl
  have a2 := list_ref (lst_pre (pre_app (t := [.ins 0 [("size", iN sz)]])) e)
  simp only [List.length_append, List.length_cons, List.length_nil, Nat.zero_add] at a2
  have g2 : (h ++ [O.ins 0 [("size", iN sz)]] ++ [O.lst (rows.map rowD)])[h.length]? = some (.ins 0 [("size", iN sz)]) := by simp
  have s2 : (h ++ [O.ins 0 [("size", iN sz)]] ++ [O.lst (rows.map rowD)]).set h.length (.ins 0 [("size", iN sz), ("rows", .ref (h.length + 1))]) = h ++ [O.ins 0 [("size", iN sz), ("rows", .ref (h.length + 1))], O.lst (rows.map rowD)] := by
    rw [List.append_assoc, List.set_append_right _ _ (Nat.le_refl _)]; simp
  have p2 : putD "rows" (D.ref (h.length + 1)) [(("size" : Str), iN sz)] = [(("size" : Str), iN sz), (("rows" : Str), D.ref (h.length + 1))] := rfl
  have l1 := len_ref e1
  rw [List.length_map] at l1
  have c1 : (1 : Int) ≤ (sz : Int) := by omega
  have c2 : (sz : Int) ≤ 8 := by omega
  have c3 : ¬ ((28 : Int) < (rows.length : Int)) := by omega
  have unit : ∀ l : List Pip, l.foldlM (fun (_ : Unit) (_ : Pip) => some ()) () = some () := by
    intro l
    induction l with
    | nil => rfl
    | cons a r ih => rw [foldlM_none, Option.bind_some, ih]
  obtain ⟨ρ', h', f1, ⟨o3, rfl⟩, f3⟩ := forK_fold (src := .lst r) (t := gN 3) (b := dIf (dNot (dB (dCall F_is_pipe (aCons (dVar 3) (aCons (dVar 1) aNil))))) (dRaise 12) dNx) (h := h ++ [.ins 0 []]) (ρ := [some (.ref h.length), some (iN sz), some (.ref r), none])
    (fun (_ : Unit) ρ h' => (∃ o3, ρ = [some (.ref h.length), some (iN sz), some (.ref r), o3]) ∧ h' = h ++ [.ins 0 []]) (fun _ _ => some ()) rowD rows (s0 := ()) (s1 := ()) ⟨⟨_, rfl⟩, rfl⟩ (by rw [srcLen_lst e1]; simp) (unit rows)
    (fun _ ρ h' i ⟨_, a2⟩ => by rw [a2]; exact src_lst e1) (fun _ w _ ρ h' hw ⟨⟨o3, a1⟩, a2⟩ _ => by
      subst a1 a2
      refine ⟨_, [some (.ref h.length), some (iN sz), some (.ref r), some (rowD w)], _, rfl, ?_, ⟨_, rfl⟩, rfl⟩
      simp [x_is_pipe (ok w hw)])
  subst f3
  simp [F_Net_init, d_Net_init, startD, N_Net_init, x_within, c1, c2, isK_lst e1, l1, c3, diK_ref e1, -isK_ap]
  rw [f1]
  simp
  rw [puK2_ap g1 (by simp), p1, s1]
  simp only [SR.seq_nx, put_ap, call_ap, cons_ap, var_ap, List.getElem?_cons_succ, List.getElem?_cons_zero, getV_some, R.bind_ok, coK1_ap, nil_ap, coK2_ap, SR.of_ok]
  rw [a2]
  simp only [SR.of_ok, puK_ap, var_ap, List.getElem?_cons_zero, getV_some]
  rw [puK2_ap g2 (by simp), p2, s2]
  rfl
theorem x_make_net {h : Hv} {sz r : Nat} {rows : List Pip} (e : lstAt h r = some (rows.map rowD)) (h1 : 1 ≤ sz) (h8 : sz ≤ 8) (hl : rows.length ≤ 28) (ok : ∀ w ∈ rows, PipOk sz w) :
    ∃ h', mkK 0 F_Net_init [iN sz, .ref r] h = .ok (.ref h.length) h' ∧ h <+: h' ∧ NetAt h' h.length sz rows := by
  refine ⟨_, ?_, pre_app (t := [.ins 0 [("size", iN sz), ("rows", .ref (h.length + 1))], .lst (rows.map rowD)]), ⟨h.length + 1, by simp, by rw [lst_get]; simp⟩⟩
  simp [x_net_init e h1 h8 hl ok]
theorem n_pipes {h : Hv} {n sz : Nat} {rows : List Pip} {F : FD} {a : DA} {ρ : Sl} (e : NetAt h n sz rows) : meK 0 "pipes" F a ρ (.ref n) h = (a ρ h).bind (caK F (.ref n)) := by
  obtain ⟨r, e1, e2⟩ := e.ins
  exact meK_ap e1 rfl
theorem x_law_cell_at {ns : List Int} {k : Nat} {h : Hv} : F_law_cell_at [.rol ns, .int (k : Int)] h = .ok (.int (cellAt ns k)) h := by
  have bl : bLen [.rol ns] h = .ok (iN ns.length) h := rfl
  by_cases c : k < ns.length
  · have c1 : (k : Int) < (ns.length : Int) := by omega
    have e : (ns.map D.int)[k]? = some (.int (cellAt ns k)) := by simp [cellAt, c]
    simp [F_law_cell_at, d_law_cell_at, startD, N_law_cell_at, bl, c, ixV_nat e]
  · have e : cellAt ns k = 0 := by unfold cellAt; rw [List.getD_eq_getElem?_getD, List.getElem?_eq_none (by omega)]; rfl
    simp [F_law_cell_at, d_law_cell_at, startD, N_law_cell_at, bl, c, e]
theorem x_law_draw {cell : Int} {k many : Nat} {h : Hv} (hc : cell.natAbs < 2 ^ 2000000) (hk : k ≤ 1000) (hm : 0 < many) : F_law_draw [.int cell, .int (k : Int), .int (many : Int)] h = .ok (iN (drawM cell k many)) h := by
  have v : divC cell 1000003 = true := divC_ok (by decide) (pow_up (m := 20) (by decide) (by decide))
  have m1 : mulC cell 48271 = true := big_mul hc (by decide)
  have m2 : mulC (k : Int) 69621 = true := big_mul (pow_up (m := 10) (by omega) (by decide)) (by decide)
  obtain ⟨q, q1, q2⟩ := fmod_nat (a := cell.fdiv 1000003) (n := 1000003) (by decide)
  rw [show ((1000003 : Nat) : Int) = 1000003 from rfl] at q2
  have m3 : mulC ((cell.fdiv 1000003).fmod 1000003) 40692 = true := by
    rw [q2]; exact big_mul (pow_up (m := 20) (by omega) (by decide)) (by decide)
  have k8 : (k : Int).fmod 8 = ((k % 8 : Nat) : Int) := by rw [Int.fmod_eq_emod_of_nonneg _ (by decide)]; rfl
  have pe : ∃ p : Nat, 0 < p ∧ drawP.getD (k % 8) 1 = p ∧ ([D.int 1000003, .int 1000033, .int 1000037, .int 1000039, .int 1000081, .int 1000099, .int 1000117, .int 1000121] : List D)[k % 8]? = some (iN p) := by
    have hk8 : k % 8 < 8 := Nat.mod_lt _ (by decide)
    generalize k % 8 = j at hk8
    have : j = 0 ∨ j = 1 ∨ j = 2 ∨ j = 3 ∨ j = 4 ∨ j = 5 ∨ j = 6 ∨ j = 7 := by omega
    rcases this with rfl | rfl | rfl | rfl | rfl | rfl | rfl | rfl <;> exact ⟨_, by decide, rfl, rfl⟩
  obtain ⟨p, p0, p1, p2⟩ := pe
  have pn : ¬ ((p : Int) = 0) := by omega
  have mn : ¬ ((many : Int) = 0) := by omega
  have tk := tuK_cap (xs := [D.int 1000003, .int 1000033, .int 1000037, .int 1000039, .int 1000081, .int 1000099, .int 1000117, .int 1000121]) (h := h) (by decide)
  have ix := ixV_nat (h := h) p2
  obtain ⟨r, r1, r2⟩ := fmod_nat (a := (cell * 48271 + (k : Int) * 69621 + (cell.fdiv 1000003).fmod 1000003 * 40692).fmod (p : Int)) (n := many) hm
  have dm : drawM cell k many = r := by unfold drawM; rw [p1, r2]; rfl
  rw [dm]
  unfold F_law_draw d_law_draw
  simp only [run_ap, List.length_cons, List.length_nil, Nat.zero_add, Nat.reduceAdd, if_true, startD, N_law_draw, List.map_cons, List.map_nil, Nat.reduceSub, List.replicate_succ, List.replicate_zero, List.cons_append, List.nil_append, seq_ap, set_ap, tup_ap, cons_ap, con_ap, R.bind_ok, coK1_ap, coK2_ap, nil_ap, tk, SR.of_ok, seK_ap, List.set_cons_succ, List.set_cons_zero, SR.seq_nx,
    op_ap, var_ap, List.getElem?_cons_succ, List.getElem?_cons_zero, getV_some, opK_ap, fMul_ap, m1, m2, m3, fDiv_ap, v, fMod_ap, fAdd_ap, ret_ap, ix_ap, k8, fIx_tup, ix]
  have ix2 : ixV (some ([D.int 1000003, .int 1000033, .int 1000037, .int 1000039, .int 1000081, .int 1000099, .int 1000117, .int 1000121] : List D)) ((k : Int) % 8) h = .ok (iN p) h := ix
  have pn2 : ¬ p = 0 := by omega
  have mn2 : ¬ many = 0 := by omega
  simp [pn, mn, pn2, mn2, fMod_ap, k8, ix2, m3, r2, v]
theorem l_least (h : Hv) (x y : D) : ∀ (m a b : Nat), b < m → whileR (dB (dOp fGt (dVar 3) (dC (.int 0)))) (dPar 2 3 (aCons (dVar 3) (aCons (dOp fMod (dVar 2) (dVar 3)) aNil))) m [some x, some y, some (.int a), some (.int b)] h = .nx [some x, some y, some (.int (Nat.gcd a b)), some (.int 0)] h
  | 0, _, _, h => by omega
  | m + 1, a, b, hm => by
    rw [whileR]
    by_cases hb : b = 0
    · subst hb; simp
    · have e : (a : Int).fmod (b : Int) = ((a % b : Nat) : Int) := by rw [Int.fmod_eq_emod_of_nonneg _ (by omega)]; exact_mod_cast rfl
      have hp : 0 < b := Nat.pos_of_ne_zero hb
      simp [hb, hp, e]
      rw [show ((a : Int) % (b : Int)) = ((a % b : Nat) : Int) from rfl, l_least h x y m b (a % b) (by have := Nat.mod_lt a (Nat.pos_of_ne_zero hb); omega)]
      rw [Nat.gcd_comm a b, Nat.gcd_rec b a, Nat.gcd_comm]
theorem isT_step {t u : DS} {ρ ρ' : Sl} {h h' : Hv} (e : t ρ h = .nx ρ' h') (k : isT (u ρ' h').fin) : isT (dSeq t u ρ h).fin := by
  rw [seq_ap, e, SR.seq_nx]; exact k
end K11

set_option Elab.async false
set_option linter.all false
set_option autoImplicit false
set_option maxRecDepth 100000
set_option pp.maxSteps 60
set_option maxHeartbeats 4000000
namespace K11
open PySem PySem.Spec PyProof.Rows L2 DL
theorem sq {t u : DS} {ρ ρ' : Sl} {h h' : Hv} {X : SR} (e : t ρ h = .nx ρ' h') (k : u ρ' h' = X) : dSeq t u ρ h = X := by
  rw [seq_ap, e, SR.seq_nx]; exact k
theorem t1_ap {f : FT} {o e : DE} {ρ : Sl} {h : Hv} {a b : Str} (h1 : o ρ h = .ok (.str a) h) (h2 : e ρ h = .ok (.str b) h) : dT1 f o e ρ h = f a b h := by
  unfold dT1
  rw [h1]
  simp only [R.bind_ok, h2]
theorem str_ne {a b : Str} (h : a ≠ b) (H : Hv) : fNe (.str a) (.str b) H = .ok (.bl true) H := by
  simp [h]
theorem x_number_in {n : Nat} {h : Hv} (hn : n < 10 ^ 10) : F_number_in [.str (nT n)] h = .ok (.int (n : Int)) h := by
  obtain ⟨l1, l2⟩ := num_len hn
  have ln : bLen [.str (nT n)] h = .ok (.int ((nT n).length : Int)) h := by
    show (match (if (nT n).length ≤ cap then some (nT n).length else none) with | some n => R.ok (D.int n) h | none => R.no) = _
    rw [if_pos (by unfold cap; omega)]
  have st : tStrip (nT n) (Str.ofString "0123456789") h = .ok (.str Str.empty) h := by
    unfold tStrip
    rw [if_pos (by unfold cap; omega), strip_num]
  have c1 : (1 : Int) ≤ ((nT n).length : Int) := by omega
  have c2 : ((nT n).length : Int) ≤ 10 := by omega
  have it : bIntS [.str (nT n)] h = .ok (.int (n : Int)) h := by
    unfold bIntS
    simp only [int_nT hn]
    rw [if_pos (by omega)]
  have e0 : (Str.empty = (Str.ofString "" : Str)) := rfl
  have t1 : ∀ b f, dT1 f (dVar 0) (dC (.str b)) [some (.str (nT n))] h = f (nT n) b h := fun b f => t1_ap rfl rfl
  have z : n = 0 → nT n = (Str.ofString "0" : Str) := fun z => by rw [z]; decide +kernel
  have cF : c_FIGURES = D.str (Str.ofString "0123456789") := rfl
  have fin : ∀ b : Bool, Txt.startswith (nT n) (Str.ofString "0") = b → (b = true → nT n = (Str.ofString "0" : Str)) → F_number_in [.str (nT n)] h = .ok (.int (n : Int)) h := fun b hb hz => by
    have ss : tStarts (nT n) (Str.ofString "0") h = .ok (.bl b) h := by unfold tStarts; rw [hb]
    cases b with
    | false => simp [F_number_in, d_number_in, startD, N_number_in, ln, c1, c2, t1, st, it, ss, e0]
    | true =>
      have dd := eq_true (hz rfl)
      simp [F_number_in, d_number_in, startD, N_number_in, ln, c1, c2, t1, st, it, ss, e0, dd]
  by_cases q : n = 0
  · exact fin _ rfl (fun _ => z q)
  · exact fin false (starts_num (by omega)) (fun z => by cases z)
/-- a fraction's text -/
def fT (x : Rat) : Str := if x.den = 1 then nT x.num.natAbs else nT x.num.natAbs ++ (Str.ofString "/" : Str) ++ nT x.den
theorem slash : TL.tl (Str.ofString "/") = [47] := by decide +kernel
theorem dash : TL.tl (Str.ofString "-") = [45] := by decide +kernel
theorem blank : TL.tl (Str.ofString " ") = [32] := by decide +kernel
theorem newl : TL.tl (Str.ofString "\n") = [10] := by decide +kernel
theorem num_free {n s : Nat} (h : s < 48 ∨ 57 < s) : s ∉ TL.tl (nT n) := by rw [TL.tl_num]; exact TL.numL_free h
theorem x_fraction_in {x : Rat} {h : Hv} (h1 : 1 ≤ x.num) (h2 : x.num < 10 ^ 10) (h3 : x.den < 10 ^ 10) : F_fraction_in [.str (fT x)] h = .ok (fr x) h := by
  have xn : ((x.num.natAbs : Nat) : Int) = x.num := by omega
  have n1 := x_number_in (n := x.num.natAbs) (h := h) (by omega)
  have n2 := x_number_in (n := x.den) (h := h) h3
  rw [xn] at n1
  have t1 : ∀ b f, dT1 f (dVar 0) (dC (.str b)) [some (.str (fT x)), none, none, none, none] h = f (fT x) b h := fun b f => t1_ap rfl rfl
  have isf := x_is_fraction x h
  have ff : fr x = D.tup [.int x.num, .int x.den] := rfl
  have sl : ((Str.ofString "/" : Str).length == 0) = false := by decide +kernel
  have e0 : (Str.empty = (Str.ofString "" : Str)) := rfl
  have sne : ¬ ((Str.ofString "/" : Str) = Str.ofString "") := by decide +kernel
  have dp := x.den_pos
  have nn : ¬ (x.num < 0) := by omega
  have l1 := num_len (n := x.num.natAbs) (by omega)
  have l2 := num_len (n := x.den) h3
  by_cases c : x.den = 1
  · have ft : fT x = nT x.num.natAbs := if_pos c
    have pt : DL.tPart (fT x) (Str.ofString "/") h = .ok (.tup [.str (nT x.num.natAbs), .str Str.empty, .str Str.empty]) h := by
      unfold DL.tPart
      rw [ft, if_pos ⟨sl, by unfold cap; omega⟩, TL.partition_none slash (num_free (by decide))]
    rw [ff, c, show (((1 : Nat)) : Int) = 1 from rfl] at isf
    rw [ff, c]
    simp [F_fraction_in, d_fraction_in, startD, N_fraction_in, t1, pt, n1, e0, nn, isf]
  · have ft : fT x = nT x.num.natAbs ++ (Str.ofString "/" : Str) ++ nT x.den := if_neg c
    have ln : (fT x).length ≤ cap := by
      rw [ft, TL.len_tl, TL.tl_append, TL.tl_append, List.length_append, List.length_append, ← TL.len_tl, ← TL.len_tl, ← TL.len_tl]
      have : (Str.ofString "/" : Str).length = 1 := by decide +kernel
      unfold cap; omega
    have pt : DL.tPart (fT x) (Str.ofString "/") h = .ok (.tup [.str (nT x.num.natAbs), .str (Str.ofString "/"), .str (nT x.den)]) h := by
      unfold DL.tPart
      rw [if_pos ⟨sl, ln⟩, ft, TL.partition_app slash (num_free (by decide))]
    have d2 : ¬ ((x.den : Int) < 2) := by omega
    rw [ff] at isf ⊢
    simp [F_fraction_in, d_fraction_in, startD, N_fraction_in, t1, pt, n1, n2, sne, d2, nn, isf]
theorem fT_tl (x : Rat) : TL.tl (fT x) = if x.den = 1 then TL.numL x.num.natAbs else TL.numL x.num.natAbs ++ [47] ++ TL.numL x.den := by
  unfold fT
  split
  · exact TL.tl_num _
  · rw [TL.tl_append, TL.tl_append, slash, TL.tl_num, TL.tl_num]
theorem fT_free {x : Rat} {s : Nat} (h : s < 47 ∨ 57 < s) : s ∉ TL.tl (fT x) := by
  rw [fT_tl]
  have f : ∀ n, s ∉ TL.numL n := fun n => TL.numL_free (by omega)
  split
  · exact f _
  · simp only [List.mem_append, List.mem_singleton, not_or]
    exact ⟨⟨f _, by omega⟩, f _⟩
/-- a row's text -/
def rT (r : Pip) : Str := nT r.1 ++ (Str.ofString "-" : Str) ++ nT r.2.1 ++ (Str.ofString " " : Str) ++ fT r.2.2
theorem rT_tl (r : Pip) : TL.tl (rT r) = TL.numL r.1 ++ [45] ++ TL.numL r.2.1 ++ [32] ++ TL.tl (fT r.2.2) := by
  unfold rT
  rw [TL.tl_append, TL.tl_append, TL.tl_append, TL.tl_append, dash, blank, TL.tl_num, TL.tl_num]
theorem rT_split (r : Pip) : Txt.split (rT r) (Str.ofString " ") = [nT r.1 ++ (Str.ofString "-" : Str) ++ nT r.2.1, fT r.2.2] := by
  have e : rT r = Txt.join (Str.ofString " ") [nT r.1 ++ (Str.ofString "-" : Str) ++ nT r.2.1, fT r.2.2] := by
    refine TL.ext_tl ?_
    rw [TL.join_eq, TL.tl_join, rT_tl, blank]
    show _ = TL.tl (nT r.1 ++ (Str.ofString "-" : Str) ++ nT r.2.1) ++ ([32] ++ TL.tl (fT r.2.2))
    rw [TL.tl_append, TL.tl_append, dash, TL.tl_num, TL.tl_num]
    simp
  rw [e]
  refine TL.split_join blank (by decide +kernel) (by simp) fun p hp => ?_
  simp only [List.mem_cons, List.not_mem_nil, or_false] at hp
  rcases hp with rfl | rfl
  · rw [TL.tl_append, TL.tl_append, dash, TL.tl_num, TL.tl_num]
    simp only [List.mem_append, List.mem_singleton, not_or]
    exact ⟨⟨TL.numL_free (by decide), by decide⟩, TL.numL_free (by decide)⟩
  · exact fT_free (by decide)
theorem fT_len {x : Rat} (h1 : 1 ≤ x.num) (h2 : x.num < 10 ^ 10) (h3 : x.den < 10 ^ 10) : (fT x).length ≤ 21 := by
  have l1 := (num_len (n := x.num.natAbs) (by omega)).2
  have l2 := (num_len (n := x.den) h3).2
  rw [TL.len_tl, TL.tl_num] at l1 l2
  rw [TL.len_tl, fT_tl]
  split
  · omega
  · simp only [List.length_append, List.length_singleton]; omega
theorem rT_len {r : Pip} (ha : r.1 < 100) (hb : r.2.1 < 100) (h1 : 1 ≤ r.2.2.num) (h2 : r.2.2.num < 10 ^ 10) (h3 : r.2.2.den < 10 ^ 10) : (rT r).length ≤ 50 := by
  have l1 := (num_len (n := r.1) (by omega)).2
  have l2 := (num_len (n := r.2.1) (by omega)).2
  have l3 := fT_len h1 h2 h3
  rw [TL.len_tl, TL.tl_num] at l1 l2
  rw [TL.len_tl] at l3
  rw [TL.len_tl, rT_tl]
  simp only [List.length_append, List.length_singleton]; omega
theorem x_pipe_in {r : Pip} {h : Hv} (ha : r.1 < 100) (hb : r.2.1 < 100) (h1 : 1 ≤ r.2.2.num) (h2 : r.2.2.num < 10 ^ 10) (h3 : r.2.2.den < 10 ^ 10) :
    ∃ h', F_pipe_in [.str (rT r)] h = .ok (rowD r) h' ∧ h <+: h' := by
  have n1 : ∀ h, F_number_in [.str (nT r.1)] h = .ok (iN r.1) h := fun h => x_number_in (by omega)
  have n2 : ∀ h, F_number_in [.str (nT r.2.1)] h = .ok (iN r.2.1) h := fun h => x_number_in (by omega)
  have f1 : ∀ h, F_fraction_in [.str (fT r.2.2)] h = .ok (fr r.2.2) h := fun h => x_fraction_in h1 h2 h3
  have rl := rT_len ha hb h1 h2 h3
  have sl1 : ((Str.ofString " " : Str).length == 0) = false := by decide +kernel
  have sl2 : ((Str.ofString "-" : Str).length == 0) = false := by decide +kernel
  have sne : ¬ ((Str.ofString "-" : Str) = Str.ofString "") := by decide +kernel
  have sp : DL.tSplit (rT r) (Str.ofString " ") h = .ok (.ref h.length) (h ++ [.lst [.str (nT r.1 ++ (Str.ofString "-" : Str) ++ nT r.2.1), .str (fT r.2.2)]]) := by
    unfold DL.tSplit
    rw [if_pos ⟨sl1, by unfold cap; omega⟩, rT_split]; rfl
  have t1 : dT1 tSplit (dVar 0) (dC (.str (Str.ofString " "))) [some (.str (rT r)), none, none, none, none, none] h = DL.tSplit (rT r) (Str.ofString " ") h := t1_ap rfl rfl
  have wl : (nT r.1 ++ (Str.ofString "-" : Str) ++ nT r.2.1).length ≤ cap := by
    have l1 := (num_len (n := r.1) (by omega)).2
    have l2 := (num_len (n := r.2.1) (by omega)).2
    rw [TL.len_tl, TL.tl_num] at l1 l2
    rw [TL.len_tl, TL.tl_append, TL.tl_append, dash, TL.tl_num, TL.tl_num]
    simp only [List.length_append, List.length_singleton]; unfold cap; omega
  generalize hH : h ++ [O.lst [.str (nT r.1 ++ (Str.ofString "-" : Str) ++ nT r.2.1), .str (fT r.2.2)]] = H at *
  have lH : lstAt H h.length = some [.str (nT r.1 ++ (Str.ofString "-" : Str) ++ nT r.2.1), .str (fT r.2.2)] := by rw [← hH]; exact lst_new
  have ln := len_ref lH
  have x0 : ixV (lstAt H h.length) 0 H = .ok (.str (nT r.1 ++ (Str.ofString "-" : Str) ++ nT r.2.1)) H := by rw [lH]; exact ixV_0
  have x1 : ixV (lstAt H h.length) 1 H = .ok (.str (fT r.2.2)) H := by rw [lH]; exact ixV_1
  have pt : DL.tPart (nT r.1 ++ (Str.ofString "-" : Str) ++ nT r.2.1) (Str.ofString "-") H = .ok (.tup [.str (nT r.1), .str (Str.ofString "-"), .str (nT r.2.1)]) H := by
    unfold DL.tPart
    rw [if_pos ⟨sl2, wl⟩, TL.partition_app dash (num_free (by decide))]
  have t2 : dT1 DL.tPart (dIx (dVar 1) (dC (.int 0))) (dC (.str (Str.ofString "-"))) [some (.str (rT r)), some (.ref h.length), none, none, none, none] H = DL.tPart (nT r.1 ++ (Str.ofString "-" : Str) ++ nT r.2.1) (Str.ofString "-") H := t1_ap (by simp [x0]) rfl
  have isn : fIs (fr r.2.2) .non H = .ok (.bl false) H := rfl
  have z1 : ¬ ((r.1 : Int) < 0) := by omega
  have z2 : ¬ ((r.2.1 : Int) < 0) := by omega
  refine ⟨H, ?_, by rw [← hH]; exact pre_app⟩
  simp [F_pipe_in, d_pipe_in, startD, N_pipe_in, t1, sp, ln, t2, pt, x1, f1, n1, n2, sne, isn, z1, z2]
  rfl
theorem sqf {t u : DS} {ρ ρ' : Sl} {h h' : Hv} {X : R D} (e : t ρ h = .nx ρ' h') (k : (u ρ' h').fin = X) : (dSeq t u ρ h).fin = X := by
  rw [seq_ap, e, SR.seq_nx]; exact k
theorem x_net_of {h : Hv} {sz q : Nat} {row : D} {rows : List Pip} (e : lstAt h q = some (rows.map rowD)) (h1 : 1 ≤ sz) (h8 : sz ≤ 8) (hl : rows.length ≤ 28) (ok : ∀ w ∈ rows, PipOk sz w) :
    ∃ h', F_net_of [iN sz, .ref q, row] h = .ok (.ref h.length) h' ∧ h <+: h' ∧ NetAt h' h.length sz rows := by
  obtain ⟨h', w1, w2, w3⟩ := x_make_net e h1 h8 hl ok
  refine ⟨h', ?_, w2, w3⟩
  unfold F_net_of d_net_of
  rw [run_ap, if_pos (show [iN sz, D.ref q, row].length = 3 from rfl)]
  have b : dSet 3 (dMake 0 F_Net_init (aCons (dVar 0) (aCons (dVar 1) aNil))) (startD N_net_of [iN sz, .ref q, row]) h = .nx [some (iN sz), some (.ref q), some row, some (.ref h.length)] h' := by
    simp [startD, N_net_of, w1, -mkK_ap]
  unfold dTryR
  rw [b]
  simp
def plT (p : Nat) : Str := (Str.ofString "places " : Str) ++ nT p
/-- a net's text -/
def netT (p : Nat) (rows : List Pip) : Str := Txt.join (Str.ofString "\n") (plT p :: rows.map rT)
theorem places_tl : TL.tl (Str.ofString "places ") = [112, 108, 97, 99, 101, 115, 32] := by decide +kernel
theorem netT_split {p : Nat} {rows : List Pip} : Txt.split (netT p rows) (Str.ofString "\n") = plT p :: rows.map rT := by
  refine TL.split_join newl (by decide +kernel) (by simp) fun t ht => ?_
  rcases List.mem_cons.mp ht with rfl | ht
  · unfold plT
    rw [TL.tl_append, places_tl, TL.tl_num]
    simp only [List.mem_append, not_or]
    exact ⟨by decide, TL.numL_free (by decide)⟩
  · obtain ⟨r, _, rfl⟩ := List.mem_map.mp ht
    rw [rT_tl]
    simp only [List.mem_append, List.mem_singleton, not_or]
    exact ⟨⟨⟨⟨TL.numL_free (by decide), by decide⟩, TL.numL_free (by decide)⟩, by decide⟩, fT_free (by decide)⟩
theorem plT_part (p : Nat) : Txt.partition (plT p) (Str.ofString " ") = (Str.ofString "places", Str.ofString " ", nT p) := by
  have e : plT p = (Str.ofString "places" : Str) ++ (Str.ofString " " : Str) ++ nT p := by
    refine TL.ext_tl ?_
    unfold plT
    rw [TL.tl_append, TL.tl_append, TL.tl_append, places_tl, blank]
    rw [show TL.tl (Str.ofString "places") = [112, 108, 97, 99, 101, 115] from by decide +kernel]
    rfl
  rw [e]
  exact TL.partition_app blank (by rw [show TL.tl (Str.ofString "places") = [112, 108, 97, 99, 101, 115] from by decide +kernel]; decide)
theorem range1_go (m : Nat) : (List.range' 1 m).foldlM (fun (j k : Nat) => if k = j + 1 then some (j + 1) else none) 0 = some m := by
  induction m with
  | zero => rfl
  | succ n ih =>
    rw [List.range'_1_concat, List.foldlM_append, ih]
    simp [Nat.add_comm]
theorem x_read {p : Nat} {rows : List Pip} {h : Hv} (p1 : 1 ≤ p) (p8 : p ≤ 8) (hl : rows.length ≤ 28) (ok : ∀ w ∈ rows, PipOk p w) (tl : (netT p rows).length ≤ cap) :
    ∃ h' n, F_read [.str (netT p rows)] h = .ok (.ref n) h' ∧ h <+: h' ∧ NetAt h' n p rows := by
  have n1 : ∀ h, F_number_in [.str (nT p)] h = .ok (iN p) h := fun h => x_number_in (by omega)
  have nl : ((Str.ofString "\n" : Str).length == 0) = false := by decide +kernel
  have bl : ((Str.ofString " " : Str).length == 0) = false := by decide +kernel
  have sp : DL.tSplit (netT p rows) (Str.ofString "\n") h = .ok (.ref h.length) (h ++ [.lst ((plT p :: rows.map rT).map D.str)]) := by
    unfold DL.tSplit
    rw [if_pos ⟨nl, tl⟩, netT_split]
  have t1 : dT1 DL.tSplit (dVar 0) (dC (.str (Str.ofString "\n"))) [some (.str (netT p rows)), none, none, none, none, none, none, none, none] h = DL.tSplit (netT p rows) (Str.ofString "\n") h := t1_ap rfl rfl
  unfold F_read d_read
  rw [run_ap, if_pos (show [D.str (netT p rows)].length = 1 from rfl)]
  simp only [startD, N_read, List.map_cons, List.map_nil, List.length_cons, List.length_nil, Nat.zero_add, Nat.reduceAdd, Nat.reduceSub, List.replicate_succ, List.replicate_zero, List.cons_append, List.nil_append]
  generalize hA : h ++ [O.lst ((plT p :: rows.map rT).map D.str)] = A at sp
  have lA : lstAt A h.length = some ((plT p :: rows.map rT).map D.str) := by rw [← hA]; exact lst_new
  have hpA : h <+: A := by rw [← hA]; exact pre_app
  have x0 : ixV (lstAt A h.length) 0 A = .ok (.str (plT p)) A := by rw [lA]; exact ixV_0
  have pl : (plT p).length ≤ cap := by
    have l := (num_len (n := p) (by omega)).2
    rw [TL.len_tl, TL.tl_num] at l
    unfold plT
    rw [TL.len_tl, TL.tl_append, places_tl, TL.tl_num, List.length_append]
    have : ([112, 108, 97, 99, 101, 115, 32] : List Nat).length = 7 := rfl
    unfold cap; omega
  have pt : DL.tPart (plT p) (Str.ofString " ") A = .ok (.tup [.str (Str.ofString "places"), .str (Str.ofString " "), .str (nT p)]) A := by
    unfold DL.tPart
    rw [if_pos ⟨bl, pl⟩, plT_part]
  have t2 : dT1 DL.tPart (dIx (dVar 1) (dC (.int 0))) (dC (.str (Str.ofString " "))) [some (.str (netT p rows)), some (.ref h.length), none, none, none, none, none, none, none] A = DL.tPart (plT p) (Str.ofString " ") A := t1_ap (by simp [x0]) rfl
  have sne : ¬ ((Str.ofString " " : Str) = Str.ofString "") := by decide +kernel
  have lB : lstAt (A ++ [O.lst []]) A.length = some (([] : List Pip).map rowD) := lst_new
  obtain ⟨B, b1, b2, b3⟩ := x_net_of (row := .int 1) lB p1 p8 (by simp) (by simp)
  have AB : A <+: B := pre_app.trans b2
  obtain ⟨ρ', H, f1, nt, o7, o8, rfl, f2, f3, f4⟩ := forK_fold (src := .rng 1 rows.length) (t := gN 7) (b := (dSeq (dSet 8 (dCall F_pipe_in (aCons (dIx (dVar 1) (dVar 7)) aNil)))
    (dSeq (dIf (dB (dOp fIs (dVar 8) (dC .non))) (dRow 16 (dOp fAdd (dVar 7) (dC (.int 1)))) dNx)
    (dSeq (dDrop (dMl mAppend (dVar 5) (aCons (dVar 8) aNil)))
    (dSet 6 (dCall F_net_of (aCons (dFld 0 "size" (dVar 6)) (aCons (dVar 5) (aCons (dOp fAdd (dVar 7) (dC (.int 1))) aNil))))))))) (h := B) (ρ := [some (.str (netT p rows)), some (.ref h.length), some (.str (Str.ofString "places")), some (.str (Str.ofString " ")), some (.str (nT p)), some (.ref A.length), some (.ref (A ++ [O.lst []]).length), none, none])
    (fun (j : Nat) ρ h' => ∃ nt o7 o8, ρ = [some (.str (netT p rows)), some (.ref h.length), some (.str (Str.ofString "places")), some (.str (Str.ofString " ")), some (.str (nT p)), some (.ref A.length), some (.ref nt), o7, o8] ∧ A <+: h' ∧ lstAt h' A.length = some ((rows.take j).map rowD) ∧ NetAt h' nt p (rows.take j)) (fun (j k : Nat) => if k = j + 1 then some (j + 1) else none) iN (List.range' 1 rows.length) (s0 := 0) (s1 := rows.length)
    ⟨_, _, _, rfl, AB, lst_pre b2 lB, b3⟩ (by simp [srcLen]) (range1_go rows.length) (fun _ _ _ _ _ => srcU) (fun j k j' ρ h' hk ⟨nt, o7, o8, a1, a2, a3, a4⟩ g => by
      subst a1
      by_cases c : k = j + 1
      · subst c
        rw [if_pos rfl] at g; cases g
        have jl : j < rows.length := by have := List.mem_range'_1.mp hk; omega
        have rj : rows[j]? = some rows[j] := List.getElem?_eq_getElem jl
        have rm := List.mem_of_getElem? rj
        have ok1 := ok _ rm
        have x1 := ixV_ref (i := j + 1) (y := .str (rT rows[j])) (lst_pre a2 lA) (by rw [List.map_cons, List.getElem?_cons_succ, List.getElem?_map, List.getElem?_map, rj]; rfl)
        have tk : rows.take (j + 1) = rows.take j ++ [rows[j]] := by rw [List.take_succ, rj]; rfl
        generalize rows[j] = r at *
        obtain ⟨h2, c1, c2⟩ := x_pipe_in (r := r) (h := h') (by have := ok1.1; omega) (by have := ok1.2.1; omega) ok1.2.2.2.1 (by have := ok1.2.2.2.2.1; omega) (by have := ok1.2.2.2.2.2; omega)
        have l2 := lst_pre c2 a3
        have len2 : ((rows.take j).map rowD).length < cap := by
          rw [List.length_map, List.length_take]; unfold cap; omega
        have l3 : lstAt (h2.set A.length (.lst ((rows.take j).map rowD ++ [rowD r]))) A.length = some ((rows.take (j + 1)).map rowD) := by
          rw [lst_set_eq (lst_lt l2), tk]; simp
        have sz : flK 0 "size" (.ref nt) (h2.set A.length (.lst ((rows.take j).map rowD ++ [rowD r]))) = .ok (iN p) (h2.set A.length (.lst ((rows.take j).map rowD ++ [rowD r]))) := by
          obtain ⟨q, e1, _⟩ := (a4.pre c2).ins
          have ne : A.length ≠ nt := fun z => by
            have := lst_get.mp l2
            rw [z, e1] at this; cases this
          exact flK_ap (by rw [List.getElem?_set_ne ne]; exact e1) rfl
        have p3 : A <+: h2.set A.length (.lst ((rows.take j).map rowD ++ [rowD r])) := pre_set (a2.trans c2) (Nat.le_refl _)
        have ap := append_ap (h := h2) (n := A.length) (ys := (rows.take j).map rowD) (y := rowD r) len2
        generalize h2.set A.length (.lst ((rows.take j).map rowD ++ [rowD r])) = h3 at *
        obtain ⟨h4, w1, w2, w3⟩ := x_net_of (row := .int (((j + 1 : Nat) : Int) + 1)) l3 p1 p8 (by rw [List.length_take]; omega) (fun w hw => ok w (List.mem_of_mem_take hw))
        refine ⟨_, [some (.str (netT p rows)), some (.ref h.length), some (.str (Str.ofString "places")), some (.str (Str.ofString " ")), some (.str (nT p)), some (.ref A.length), some (.ref h3.length), some (iN (j + 1)), some (rowD r)], h4, rfl, ?_, _, _, _, rfl, p3.trans w2, lst_pre w2 l3, w3⟩
        have isn : fIs (rowD r) .non h2 = .ok (.bl false) h2 := rfl
        simp only [List.set_cons_succ, List.set_cons_zero]
        refine sq (ρ' := [some (.str (netT p rows)), some (.ref h.length), some (.str (Str.ofString "places")), some (.str (Str.ofString " ")), some (.str (nT p)), some (.ref A.length), some (.ref nt), some (iN (j + 1)), some (rowD r)]) (h' := h2) (by simp only [set_ap, call_ap, cons_ap, ix_ap, var_ap, List.getElem?_cons_succ, List.getElem?_cons_zero, getV_some, R.bind_ok, opK_ap, fIx_ref, x1, coK1_ap, nil_ap, coK2_ap, c1, SR.of_ok, seK_ap, List.set_cons_succ, List.set_cons_zero]) ?_
        refine sq (ρ' := [some (.str (netT p rows)), some (.ref h.length), some (.str (Str.ofString "places")), some (.str (Str.ofString " ")), some (.str (nT p)), some (.ref A.length), some (.ref nt), some (iN (j + 1)), some (rowD r)]) (h' := h2) (by simp [isn]) ?_
        refine sq (ρ' := [some (.str (netT p rows)), some (.ref h.length), some (.str (Str.ofString "places")), some (.str (Str.ofString " ")), some (.str (nT p)), some (.ref A.length), some (.ref nt), some (iN (j + 1)), some (rowD r)]) (h' := h3) (by simp only [drop_ap, ml_ap, var_ap, List.getElem?_cons_succ, List.getElem?_cons_zero, getV_some, R.bind_ok, mlK_ap l2, cons_ap, coK1_ap, nil_ap, coK2_ap, mlK2_ap l2, ap, SR.of_ok, drK_ap]) ?_
        simp only [set_ap, call_ap, cons_ap, fld_ap, op_ap, con_ap, var_ap, List.getElem?_cons_succ, List.getElem?_cons_zero, getV_some, R.bind_ok, opK_ap, sz, fAdd_ap, coK1_ap, nil_ap, coK2_ap, w1, SR.of_ok, seK_ap, List.set_cons_succ, List.set_cons_zero]
      · rw [if_neg c] at g; cases g)
  have ln := len_ref (lst_pre AB lA)
  rw [List.length_map, List.length_cons, List.length_map] at ln
  rw [List.take_length] at f4
  refine ⟨H, nt, ?_, hpA.trans f2, f4⟩
  refine sqf (ρ' := [some (.str (netT p rows)), some (.ref h.length), none, none, none, none, none, none, none]) (h' := A) (by simp [t1, sp]) ?_
  refine sqf (ρ' := [some (.str (netT p rows)), some (.ref h.length), some (.str (Str.ofString "places")), some (.str (Str.ofString " ")), some (.str (nT p)), none, none, none, none]) (h' := A) (by simp [t2, pt]) ?_
  refine sqf (ρ' := [some (.str (netT p rows)), some (.ref h.length), some (.str (Str.ofString "places")), some (.str (Str.ofString " ")), some (.str (nT p)), none, none, none, none]) (h' := A) (by simp [sne]) ?_
  refine sqf (ρ' := [some (.str (netT p rows)), some (.ref h.length), some (.str (Str.ofString "places")), some (.str (Str.ofString " ")), some (.str (nT p)), some (.ref A.length), none, none, none]) (h' := A ++ [.lst []]) (by simp) ?_
  refine sqf (ρ' := [some (.str (netT p rows)), some (.ref h.length), some (.str (Str.ofString "places")), some (.str (Str.ofString " ")), some (.str (nT p)), some (.ref A.length), some (.ref (A ++ [O.lst []]).length), none, none]) (h' := B) (by
    simp only [set_ap, call_ap, cons_ap, var_ap, con_ap, List.getElem?_cons_succ, List.getElem?_cons_zero, getV_some, R.bind_ok, coK1_ap, nil_ap, coK2_ap, n1, b1, SR.of_ok, seK_ap, List.set_cons_succ, List.set_cons_zero]) ?_
  refine sqf (h' := H) (by
    have rg : rg2K2 (.int 1) (.int ((rows.length + 1 : Nat) : Int)) B = .ok (.rng 1 rows.length) B := rg2K2_nat (m := 1) (n := rows.length + 1) (by omega) (by omega)
    simp only [for_ap, rng2_ap, con_ap, R.bind_ok, rg2K_ap, call_ap, cons_ap, var_ap, List.getElem?_cons_succ, List.getElem?_cons_zero, getV_some, coK1_ap, nil_ap, coK2_ap, ln, rg, SR.of_ok]
    exact f1) ?_
  simp
theorem row_ap {c : Nat} {e : DE} {ρ : Sl} {h h' : Hv} {k : Int} (e1 : e ρ h = .ok (.int k) h') : dRow c e ρ h = .ex (.row c k) ρ h' := by
  unfold dRow; rw [e1]; rfl
theorem sqx {t u : DS} {ρ ρ' : Sl} {h h' : Hv} {e : Ex} (e1 : t ρ h = .ex e ρ' h') : (dSeq t u ρ h).fin = .ex e h' := by
  rw [seq_ap, e1, SR.seq_ex]; rfl
theorem sqx' {t u : DS} {ρ ρ' : Sl} {h h' : Hv} {e : Ex} (e1 : t ρ h = .ex e ρ' h') : dSeq t u ρ h = .ex e ρ' h' := by
  rw [seq_ap, e1, SR.seq_ex]
/-- a loop that a turn's exception ends -/
theorem for_ex {src : Src} {t : DG} {b : DS} {xs : List D} (I : Nat → Sl → Hv → Prop) (E : Ex → Hv → Prop) (hs : ∀ i ρ h, I i ρ h → srcAt h src i = some xs[i]?) (n : Nat) (hn : n < xs.length)
    (st : ∀ i x ρ h, i < n → xs[i]? = some x → I i ρ h → ∃ ρ1 ρ' h', t x ρ = some ρ1 ∧ b ρ1 h = .nx ρ' h' ∧ I (i + 1) ρ' h')
    (ex : ∀ x ρ h, xs[n]? = some x → I n ρ h → ∃ ρ1 ρ' e h', t x ρ = some ρ1 ∧ b ρ1 h = .ex e ρ' h' ∧ E e h') :
    ∀ (m i : Nat) (ρ : Sl) (h : Hv), n < m + i → i ≤ n → I i ρ h → ∃ ρ' e h', loopR src t b m i ρ h = .ex e ρ' h' ∧ E e h'
  | 0, i, ρ, h, hm, hi, _ => by omega
  | m + 1, i, ρ, h, hm, hi, hI => by
    unfold loopR
    rw [hs i ρ h hI, List.getElem?_eq_getElem (show i < xs.length by omega)]
    by_cases q : i = n
    · subst q
      obtain ⟨ρ1, ρ', e, h', e1, e2, e3⟩ := ex _ ρ h (List.getElem?_eq_getElem hn) hI
      simp only [e1, e2]
      exact ⟨ρ', e, h', rfl, e3⟩
    · obtain ⟨ρ1, ρ', h', e1, e2, e3⟩ := st i _ ρ h (by omega) (List.getElem?_eq_getElem (show i < xs.length by omega)) hI
      simp only [e1, e2]
      exact for_ex I E hs n hn st ex m (i + 1) ρ' h' (by omega) (by omega) e3
theorem forK_ex {src : Src} {t : DG} {b : DS} {ρ : Sl} {h : Hv} {xs : List D} (I : Nat → Sl → Hv → Prop) (E : Ex → Hv → Prop) (h0 : I 0 ρ h) (hl : srcLen h src = xs.length) (hs : ∀ i ρ h, I i ρ h → srcAt h src i = some xs[i]?) (n : Nat) (hn : n < xs.length)
    (st : ∀ i x ρ h, i < n → xs[i]? = some x → I i ρ h → ∃ ρ1 ρ' h', t x ρ = some ρ1 ∧ b ρ1 h = .nx ρ' h' ∧ I (i + 1) ρ' h')
    (ex : ∀ x ρ h, xs[n]? = some x → I n ρ h → ∃ ρ1 ρ' e h', t x ρ = some ρ1 ∧ b ρ1 h = .ex e ρ' h' ∧ E e h') : ∃ ρ' e h', forK t b ρ src h = .ex e ρ' h' ∧ E e h' := by
  unfold forK
  exact for_ex I E hs n hn st ex _ 0 ρ h (by omega) (by omega) h0
theorem x_is_pipe_not {sz : Nat} {r : Pip} {h : Hv} (p : ¬ PipOk sz r) : F_is_pipe [rowD r, iN sz] h = .ok (.bl false) h := by
  by_cases p1 : r.1 < sz
  · have a1 : (r.1 : Int) ≤ (sz : Int) - 1 := by omega
    by_cases p2 : r.2.1 < sz
    · have a2 : (r.2.1 : Int) ≤ (sz : Int) - 1 := by omega
      by_cases p3 : r.1 = r.2.1
      · have a3 : ((r.1 : Int) = (r.2.1 : Int)) := by omega
        simp [F_is_pipe, d_is_pipe, startD, N_is_pipe, rowD, x_within, a1, a2, a3]
      · have a3 : ¬ ((r.1 : Int) = (r.2.1 : Int)) := by omega
        by_cases p4 : 1 ≤ r.2.2.num
        · by_cases p5 : r.2.2.num ≤ 1000000000
          · have a4 : ¬ ((r.2.2.den : Int) ≤ 1000000000) := fun z => p ⟨p1, p2, p3, p4, p5, by omega⟩
            simp [F_is_pipe, d_is_pipe, startD, N_is_pipe, rowD, x_within, a1, a2, a3, x_is_fraction, p4, p5, a4]
          · simp [F_is_pipe, d_is_pipe, startD, N_is_pipe, rowD, x_within, a1, a2, a3, x_is_fraction, p4, p5]
        · simp [F_is_pipe, d_is_pipe, startD, N_is_pipe, rowD, x_within, a1, a2, a3, x_is_fraction, p4]
    · have a2 : ¬ ((r.2.1 : Int) ≤ (sz : Int) - 1) := by omega
      simp [F_is_pipe, d_is_pipe, startD, N_is_pipe, rowD, x_within, a1, a2]
  · have a1 : ¬ ((r.1 : Int) ≤ (sz : Int) - 1) := by omega
    simp [F_is_pipe, d_is_pipe, startD, N_is_pipe, rowD, x_within, a1]
theorem x_make_no {h : Hv} {q : D} {z : Int} (z0 : ¬ (1 ≤ z ∧ z ≤ 8)) : mkK 0 F_Net_init [.int z, q] h = .ex (.own 12 none) (h ++ [.ins 0 []]) := by
  have c : decide (1 ≤ z ∧ z ≤ 8) = false := decide_eq_false z0
  rw [mkK_ap]
  have w : F_Net_init [.ref h.length, .int z, q] (h ++ [.ins 0 []]) = .ex (.own 12 none) (h ++ [.ins 0 []]) := by
    simp only [F_Net_init, d_Net_init, run_ap, startD, N_Net_init, List.map_cons, List.map_nil, List.length_cons, List.length_nil, Nat.zero_add, Nat.reduceAdd, Nat.reduceSub, List.replicate_succ, List.replicate_zero, List.cons_append, List.nil_append, if_true]
    refine sqx (ρ' := [some (.ref h.length), some (.int z), some q, none]) ?_
    simp only [if_ap, or_ap, not_ap, b_ap, call_ap, cons_ap, var_ap, con_ap, List.getElem?_cons_succ, List.getElem?_cons_zero, getV_some, R.bind_ok, coK1_ap, nil_ap, coK2_ap, x_within, c, boolV_bl, notK_ap, Bool.not_false, orK_ap, if_true, SR.of_ok, ifK_ap, raise_ap]
  rw [w]; rfl
theorem x_make_bad {h : Hv} {sz r : Nat} {rows : List Pip} {w : Pip} (e : lstAt h r = some ((rows ++ [w]).map rowD)) (h1 : 1 ≤ sz) (h8 : sz ≤ 8) (hl : rows.length ≤ 28) (ok : ∀ w ∈ rows, PipOk sz w) (bad : ¬ PipOk sz w ∨ rows.length = 28) :
    mkK 0 F_Net_init [iN sz, .ref r] h = .ex (.own 12 none) (h ++ [.ins 0 []]) := by
  have e1 := lst_pre (pre_app (t := [.ins 0 []])) e
  have l1 := len_ref e1
  rw [List.length_map, List.length_append] at l1
  have c1 : (1 : Int) ≤ (sz : Int) := by omega
  have c2 : (sz : Int) ≤ 8 := by omega
  have key : F_Net_init [.ref h.length, iN sz, .ref r] (h ++ [.ins 0 []]) = .ex (.own 12 none) (h ++ [.ins 0 []]) := by
    by_cases l28 : rows.length = 28
    · have c3 : (28 : Int) < ((rows.length + 1 : Nat) : Int) := by omega
      simp only [F_Net_init, d_Net_init, run_ap, startD, N_Net_init, List.map_cons, List.map_nil, List.length_cons, List.length_nil, Nat.zero_add, Nat.reduceAdd, Nat.reduceSub, List.replicate_succ, List.replicate_zero, List.cons_append, List.nil_append, if_true]
      refine sqx (ρ' := [some (.ref h.length), some (iN sz), some (.ref r), none]) ?_
      simp only [List.length_cons, List.length_nil, Nat.zero_add] at l1
      simp [x_within, c1, c2, isK_lst e1, l1, l28, -isK_ap]
    · have bad : ¬ PipOk sz w := by
        rcases bad with z | z
        · exact z
        · exact absurd z l28
      have c3 : ¬ ((28 : Int) < ((rows.length + 1 : Nat) : Int)) := by omega
      obtain ⟨ρ', e', h', f1, f2, f3⟩ := forK_ex (src := .lst r) (t := gN 3) (b := dIf (dNot (dB (dCall F_is_pipe (aCons (dVar 3) (aCons (dVar 1) aNil))))) (dRaise 12) dNx) (h := h ++ [.ins 0 []]) (ρ := [some (.ref h.length), some (iN sz), some (.ref r), none]) (xs := (rows ++ [w]).map rowD)
        (fun _ ρ h' => (∃ o3, ρ = [some (.ref h.length), some (iN sz), some (.ref r), o3]) ∧ h' = h ++ [.ins 0 []]) (fun e h' => e = .own 12 none ∧ h' = h ++ [.ins 0 []]) ⟨⟨_, rfl⟩, rfl⟩ (by rw [srcLen_lst e1])
        (fun i ρ h' ⟨_, a2⟩ => by rw [a2]; exact src_lst e1) rows.length (by simp) (fun i x ρ h' hi hx ⟨⟨o3, a1⟩, a2⟩ => by
          subst a1 a2
          have hx' : (rows.map rowD)[i]? = some x := by
            rw [List.map_append, List.getElem?_append_left (by rw [List.length_map]; exact hi)] at hx
            exact hx
          rw [List.getElem?_map] at hx'
          obtain ⟨v, hv, rfl⟩ := Option.map_eq_some_iff.mp hx'
          refine ⟨_, [some (.ref h.length), some (iN sz), some (.ref r), some (rowD v)], _, rfl, ?_, ⟨_, rfl⟩, rfl⟩
          simp [x_is_pipe (ok v (List.mem_of_getElem? hv))]) (fun x ρ h' hx ⟨⟨o3, a1⟩, a2⟩ => by
          subst a1 a2
          have : x = rowD w := by
            rw [List.map_append, List.getElem?_append_right (by rw [List.length_map]; exact Nat.le_refl _), List.length_map, Nat.sub_self] at hx
            exact (Option.some.inj hx).symm
          subst this
          refine ⟨_, [some (.ref h.length), some (iN sz), some (.ref r), some (rowD w)], .own 12 none, _, rfl, ?_, rfl, rfl⟩
          simp [x_is_pipe_not bad])
      subst f2 f3
      simp only [F_Net_init, d_Net_init, run_ap, startD, N_Net_init, List.map_cons, List.map_nil, List.length_cons, List.length_nil, Nat.zero_add, Nat.reduceAdd, Nat.reduceSub, List.replicate_succ, List.replicate_zero, List.cons_append, List.nil_append, if_true]
      simp only [List.length_cons, List.length_nil, Nat.zero_add] at l1
      refine sqf (ρ' := [some (.ref h.length), some (iN sz), some (.ref r), none]) (h' := h ++ [.ins 0 []]) (by simp [x_within, c1, c2, isK_lst e1, l1, c3, -isK_ap]; omega) ?_
      refine sqx (ρ' := ρ') ?_
      rw [for_ap]
      simp only [di_ap, var_ap, List.getElem?_cons_succ, List.getElem?_cons_zero, getV_some, R.bind_ok, diK_ref e1, SR.of_ok]
      exact f1
  rw [mkK_ap, key]; rfl
theorem x_net_of_bad {h h' : Hv} {x y : D} {k : Int} (w : mkK 0 F_Net_init [x, y] h = .ex (.own 12 none) h') : F_net_of [x, y, .int k] h = .ex (.row 16 k) h' := by
  unfold F_net_of d_net_of
  rw [run_ap, if_pos (show [x, y, D.int k].length = 3 from rfl)]
  have b : dSet 3 (dMake 0 F_Net_init (aCons (dVar 0) (aCons (dVar 1) aNil))) (startD N_net_of [x, y, .int k]) h = .ex (.own 12 none) [some x, some y, some (.int k), none] h' := by
    simp [startD, N_net_of, w, -mkK_ap]
  unfold dTryR
  rw [b]
  simp only [if_true]
  rw [row_ap (h' := h') (k := k) rfl]
  rfl
end K11

set_option Elab.async false
set_option linter.all false
set_option autoImplicit false
set_option maxRecDepth 100000
set_option pp.maxSteps 60
set_option maxHeartbeats 4000000
namespace K11
open PySem PySem.Spec PyProof.Rows L2 DL
theorem fMul_neg {h : Hv} : (dNeg (dC (.int 1))) [] h = .ok (.int (-1)) h := rfl
/-- what is no number -/
def NoNum (t : Str) : Prop := t.length ≤ cap ∧ (¬ (1 ≤ t.length ∧ t.length ≤ 10) ∨ Txt.stripChars t (Str.ofString "0123456789") ≠ Str.empty ∨ (Txt.startswith t (Str.ofString "0") = true ∧ t ≠ (Str.ofString "0" : Str)))
instance (t : Str) : Decidable (NoNum t) := by unfold NoNum; infer_instance
theorem x_no_number {t : Str} {h : Hv} (z : NoNum t) : F_number_in [.str t] h = .ok (.int (-1)) h := by
  obtain ⟨ln, z⟩ := z
  have lb : bLen [.str t] h = .ok (.int (t.length : Int)) h := by
    show (match (if t.length ≤ cap then some t.length else none) with | some n => R.ok (D.int n) h | none => R.no) = _
    rw [if_pos ln]
  have st : tStrip t (Str.ofString "0123456789") h = .ok (.str (Txt.stripChars t (Str.ofString "0123456789"))) h := by
    unfold tStrip
    rw [if_pos ln]
  have ss : tStarts t (Str.ofString "0") h = .ok (.bl (Txt.startswith t (Str.ofString "0"))) h := by unfold tStarts; rfl
  have t1 : ∀ b f, dT1 f (dVar 0) (dC (.str b)) [some (.str t)] h = f t b h := fun b f => t1_ap rfl rfl
  have cF : c_FIGURES = D.str (Str.ofString "0123456789") := rfl
  have e0 : (Str.empty = (Str.ofString "" : Str)) := rfl
  rw [e0] at z
  unfold F_number_in d_number_in
  rw [run_ap, if_pos (show [D.str t].length = 1 from rfl)]
  simp only [startD, N_number_in, List.map_cons, List.map_nil, List.length_cons, List.length_nil, Nat.zero_add, Nat.reduceAdd, Nat.reduceSub, List.replicate_zero, List.append_nil]
  have key : (dOr (dNot (dB (dChain fLe fLe (dC (.int 1)) (dCall bLen (aCons (dVar 0) aNil)) (dC (.int 10))))) (dOr (dB (dOp fNe (dT1 tStrip (dVar 0) (dC c_FIGURES)) (dC (.str "")))) (dAnd (dB (dT1 tStarts (dVar 0) (dC (.str "0")))) (dB (dOp fNe (dVar 0) (dC (.str "0"))))))) [some (.str t)] h = .ok true h := by
    by_cases c : 1 ≤ t.length ∧ t.length ≤ 10
    · have c1 : (1 : Int) ≤ (t.length : Int) := by omega
      have c2 : (t.length : Int) ≤ 10 := by omega
      by_cases d : Txt.stripChars t (Str.ofString "0123456789") = (Str.ofString "" : Str)
      · have z3 : Txt.startswith t (Str.ofString "0") = true ∧ t ≠ (Str.ofString "0" : Str) := by
          rcases z with z | z | z
          · exact absurd c z
          · exact absurd d z
          · exact z
        simp [lb, t1, st, ss, c1, c2, d, z3.1, z3.2]
      · simp [lb, t1, st, c1, c2, d]
    · by_cases c1 : (1 : Int) ≤ (t.length : Int)
      · have c2 : ¬ ((t.length : Int) ≤ 10) := by omega
        simp [lb, c1, c2]
      · simp [lb, c1]
  rw [seq_ap, if_ap, key]
  rfl
theorem x_num_at {t : Str} {n : Nat} {h : Hv} (e : t = nT n) (hn : n < 10 ^ 10) : F_number_in [.str t] h = .ok (.int (n : Int)) h := by
  rw [e]; exact x_number_in hn
theorem x_is_frac (a b : Int) (h : Hv) : F_is_fraction [.tup [.int a, .int b]] h = .ok (.bl (decide (0 < b) && decide (Int.gcd a b = 1))) h := by
  by_cases c : 0 < b
  · simp [F_is_fraction, d_is_fraction, startD, N_is_fraction, x_is_whole, x_common, c]
    omega
  · simp [F_is_fraction, d_is_fraction, startD, N_is_fraction, x_is_whole, x_common, c]
/-- a fraction's text without a stroke -/
theorem x_frac_one {v : Str} {i : Int} {h : Hv} (ln : v.length ≤ cap) (pt : Txt.partition v (Str.ofString "/") = (v, Str.empty, Str.empty)) (n1 : ∀ h, F_number_in [.str v] h = .ok (.int i) h) :
    F_fraction_in [.str v] h = .ok (if i < 0 then .non else .tup [.int i, .int 1]) h := by
  have t1 : ∀ b f, dT1 f (dVar 0) (dC (.str b)) [some (.str v), none, none, none, none] h = f v b h := fun b f => t1_ap rfl rfl
  have sl : ((Str.ofString "/" : Str).length == 0) = false := by decide +kernel
  have e0 : (Str.empty = (Str.ofString "" : Str)) := rfl
  have p : DL.tPart v (Str.ofString "/") h = .ok (.tup [.str v, .str Str.empty, .str Str.empty]) h := by
    unfold DL.tPart
    rw [if_pos ⟨sl, ln⟩, pt]
  have isf := x_is_frac i 1 h
  rw [show (decide ((0 : Int) < 1) && decide (Int.gcd i 1 = 1)) = true from by simp] at isf
  by_cases c : i < 0
  · simp [F_fraction_in, d_fraction_in, startD, N_fraction_in, t1, p, n1, e0, c]
  · simp [F_fraction_in, d_fraction_in, startD, N_fraction_in, t1, p, n1, e0, c, isf]
theorem x_frac_two {v a b : Str} {i j : Int} {h : Hv} (ln : v.length ≤ cap) (pt : Txt.partition v (Str.ofString "/") = (a, Str.ofString "/", b)) (n1 : ∀ h, F_number_in [.str a] h = .ok (.int i) h) (n2 : ∀ h, F_number_in [.str b] h = .ok (.int j) h) :
    F_fraction_in [.str v] h = .ok (if j < 2 ∨ i < 0 ∨ Int.gcd i j ≠ 1 then .non else .tup [.int i, .int j]) h := by
  have t1 : ∀ b f, dT1 f (dVar 0) (dC (.str b)) [some (.str v), none, none, none, none] h = f v b h := fun b f => t1_ap rfl rfl
  have sl : ((Str.ofString "/" : Str).length == 0) = false := by decide +kernel
  have sne : ¬ ((Str.ofString "/" : Str) = Str.ofString "") := by decide +kernel
  have p : DL.tPart v (Str.ofString "/") h = .ok (.tup [.str a, .str (Str.ofString "/"), .str b]) h := by
    unfold DL.tPart
    rw [if_pos ⟨sl, ln⟩, pt]
  have isf := x_is_frac i j h
  by_cases c : j < 2
  · simp [F_fraction_in, d_fraction_in, startD, N_fraction_in, t1, p, n1, n2, sne, c]
  · by_cases d : i < 0
    · simp [F_fraction_in, d_fraction_in, startD, N_fraction_in, t1, p, n1, n2, sne, c, d]
    · have j0 : 0 < j := by omega
      by_cases f : Int.gcd i j = 1
      · rw [show (decide (0 < j) && decide (Int.gcd i j = 1)) = true from by simp [j0, f]] at isf
        simp [F_fraction_in, d_fraction_in, startD, N_fraction_in, t1, p, n1, n2, sne, c, d, isf, f]
      · rw [show (decide (0 < j) && decide (Int.gcd i j = 1)) = false from by simp [f]] at isf
        simp [F_fraction_in, d_fraction_in, startD, N_fraction_in, t1, p, n1, n2, sne, c, d, isf, f]
theorem x_pipe_one {t : Str} {ws : List Str} {h : Hv} (ln : t.length ≤ cap) (s : Txt.split t (Str.ofString " ") = ws) (n : ws.length ≠ 2) : ∃ h', F_pipe_in [.str t] h = .ok .non h' ∧ h <+: h' := by
  have sl1 : ((Str.ofString " " : Str).length == 0) = false := by decide +kernel
  have sp : DL.tSplit t (Str.ofString " ") h = .ok (.ref h.length) (h ++ [.lst (ws.map D.str)]) := by
    unfold DL.tSplit
    rw [if_pos ⟨sl1, ln⟩, s]
  have t1 : dT1 tSplit (dVar 0) (dC (.str (Str.ofString " "))) [some (.str t), none, none, none, none, none] h = DL.tSplit t (Str.ofString " ") h := t1_ap rfl rfl
  have l2 := len_ref (lst_new (h := h) (xs := ws.map D.str))
  rw [List.length_map] at l2
  have n' : ¬ ((ws.length : Int) = 2) := by omega
  refine ⟨_, ?_, pre_app (t := [.lst (ws.map D.str)])⟩
  simp [F_pipe_in, d_pipe_in, startD, N_pipe_in, t1, sp, l2, n']
theorem x_pipe_two {t u v one d other : Str} {i j : Int} {x : D} {h : Hv} (ln : t.length ≤ cap) (s : Txt.split t (Str.ofString " ") = [u, v]) (lu : u.length ≤ cap) (pt : Txt.partition u (Str.ofString "-") = (one, d, other))
    (f1 : ∀ h, F_fraction_in [.str v] h = .ok x h) (n1 : ∀ h, F_number_in [.str one] h = .ok (.int i) h) (n2 : ∀ h, F_number_in [.str other] h = .ok (.int j) h) (b : Bool) (isn : ∀ h, fIs x .non h = .ok (.bl b) h) :
    ∃ h', F_pipe_in [.str t] h = .ok (if d = (Str.ofString "" : Str) ∨ b = true ∨ i < 0 ∨ j < 0 then .non else .tup [.int i, .int j, x]) h' ∧ h <+: h' := by
  have sl1 : ((Str.ofString " " : Str).length == 0) = false := by decide +kernel
  have sl2 : ((Str.ofString "-" : Str).length == 0) = false := by decide +kernel
  have sp : DL.tSplit t (Str.ofString " ") h = .ok (.ref h.length) (h ++ [.lst [.str u, .str v]]) := by
    unfold DL.tSplit
    rw [if_pos ⟨sl1, ln⟩, s]; rfl
  have t1 : dT1 tSplit (dVar 0) (dC (.str (Str.ofString " "))) [some (.str t), none, none, none, none, none] h = DL.tSplit t (Str.ofString " ") h := t1_ap rfl rfl
  generalize hH : h ++ [O.lst [.str u, .str v]] = H at *
  have lH : lstAt H h.length = some [.str u, .str v] := by rw [← hH]; exact lst_new
  have l2 := len_ref lH
  have x0 : ixV (lstAt H h.length) 0 H = .ok (.str u) H := by rw [lH]; exact ixV_0
  have x1 : ixV (lstAt H h.length) 1 H = .ok (.str v) H := by rw [lH]; exact ixV_1
  have p : DL.tPart u (Str.ofString "-") H = .ok (.tup [.str one, .str d, .str other]) H := by
    unfold DL.tPart
    rw [if_pos ⟨sl2, lu⟩, pt]
  have t2 : dT1 DL.tPart (dIx (dVar 1) (dC (.int 0))) (dC (.str (Str.ofString "-"))) [some (.str t), some (.ref h.length), none, none, none, none] H = DL.tPart u (Str.ofString "-") H := t1_ap (by simp [x0]) rfl
  have isn := isn H
  refine ⟨H, ?_, by rw [← hH]; exact pre_app⟩
  by_cases c : d = (Str.ofString "" : Str)
  · simp [F_pipe_in, d_pipe_in, startD, N_pipe_in, t1, sp, l2, t2, p, x1, f1, c]
  · cases b with
    | true => simp [F_pipe_in, d_pipe_in, startD, N_pipe_in, t1, sp, l2, t2, p, x1, f1, c, isn]
    | false =>
      by_cases z1 : i < 0
      · simp [F_pipe_in, d_pipe_in, startD, N_pipe_in, t1, sp, l2, t2, p, x1, f1, n1, n2, c, isn, z1]
      · by_cases z2 : j < 0
        · simp [F_pipe_in, d_pipe_in, startD, N_pipe_in, t1, sp, l2, t2, p, x1, f1, n1, n2, c, isn, z1, z2]
        · simp [F_pipe_in, d_pipe_in, startD, N_pipe_in, t1, sp, l2, t2, p, x1, f1, n1, n2, c, isn, z1, z2]
end K11

set_option Elab.async false
set_option linter.all false
set_option autoImplicit false
set_option maxRecDepth 100000
set_option pp.maxSteps 60
set_option maxHeartbeats 4000000
namespace K11
open PySem PySem.Spec PyProof.Rows L2 DL
theorem od_0 (h : Hv) : ∃ h', F_pipe_in [.str (Str.ofString "" : Str)] h = .ok .non h' ∧ h <+: h' := x_pipe_one (ws := [(Str.ofString "" : Str)]) (by decide +kernel) (by decide +kernel) (by decide)
theorem od_1 (h : Hv) : ∃ h', F_pipe_in [.str (Str.ofString "0-1" : Str)] h = .ok .non h' ∧ h <+: h' := x_pipe_one (ws := [(Str.ofString "0-1" : Str)]) (by decide +kernel) (by decide +kernel) (by decide)
theorem od_2 (h : Hv) : ∃ h', F_pipe_in [.str (Str.ofString "0-1 " : Str)] h = .ok .non h' ∧ h <+: h' := by
  have w := x_pipe_two (t := (Str.ofString "0-1 " : Str)) (u := (Str.ofString "0-1" : Str)) (v := (Str.ofString "" : Str)) (one := (Str.ofString "0" : Str)) (d := (Str.ofString "-" : Str)) (other := (Str.ofString "1" : Str)) (i := 0) (j := 1) (x := .non) (h := h) (by decide +kernel) (by decide +kernel) (by decide +kernel) (by decide +kernel) (by exact (fun h => (x_frac_one (i := -1) (by decide +kernel) (by decide +kernel) (fun _ => x_no_number (by decide +kernel))).trans rfl)) (fun _ => x_num_at (n := 0) (by decide +kernel) (by decide)) (fun _ => x_num_at (n := 1) (by decide +kernel) (by decide)) true (fun _ => rfl)
  rw [if_pos (by decide +kernel)] at w
  exact w
theorem od_3 (h : Hv) : ∃ h', F_pipe_in [.str (Str.ofString " 0-1 1" : Str)] h = .ok .non h' ∧ h <+: h' := x_pipe_one (ws := [(Str.ofString "" : Str), (Str.ofString "0-1" : Str), (Str.ofString "1" : Str)]) (by decide +kernel) (by decide +kernel) (by decide)
theorem od_4 (h : Hv) : ∃ h', F_pipe_in [.str (Str.ofString "0-1  1" : Str)] h = .ok .non h' ∧ h <+: h' := x_pipe_one (ws := [(Str.ofString "0-1" : Str), (Str.ofString "" : Str), (Str.ofString "1" : Str)]) (by decide +kernel) (by decide +kernel) (by decide)
theorem od_5 (h : Hv) : ∃ h', F_pipe_in [.str (Str.ofString "0-1 1 " : Str)] h = .ok .non h' ∧ h <+: h' := x_pipe_one (ws := [(Str.ofString "0-1" : Str), (Str.ofString "1" : Str), (Str.ofString "" : Str)]) (by decide +kernel) (by decide +kernel) (by decide)
theorem od_6 (h : Hv) : ∃ h', F_pipe_in [.str (Str.ofString "0 1 1" : Str)] h = .ok .non h' ∧ h <+: h' := x_pipe_one (ws := [(Str.ofString "0" : Str), (Str.ofString "1" : Str), (Str.ofString "1" : Str)]) (by decide +kernel) (by decide +kernel) (by decide)
theorem od_7 (h : Hv) : ∃ h', F_pipe_in [.str (Str.ofString "0-0 1" : Str)] h = .ok (.tup [.int 0, .int 0, (.tup [.int 1, .int 1])]) h' ∧ h <+: h' := by
  have w := x_pipe_two (t := (Str.ofString "0-0 1" : Str)) (u := (Str.ofString "0-0" : Str)) (v := (Str.ofString "1" : Str)) (one := (Str.ofString "0" : Str)) (d := (Str.ofString "-" : Str)) (other := (Str.ofString "0" : Str)) (i := 0) (j := 0) (x := (.tup [.int 1, .int 1])) (h := h) (by decide +kernel) (by decide +kernel) (by decide +kernel) (by decide +kernel) (by exact (fun h => (x_frac_one (i := 1) (by decide +kernel) (by decide +kernel) (fun _ => x_num_at (n := 1) (by decide +kernel) (by decide))).trans rfl)) (fun _ => x_num_at (n := 0) (by decide +kernel) (by decide)) (fun _ => x_num_at (n := 0) (by decide +kernel) (by decide)) false (fun _ => rfl)
  rw [if_neg (by decide +kernel)] at w
  exact w
theorem od_8 (h : Hv) : ∃ h', F_pipe_in [.str (Str.ofString "0-2 1" : Str)] h = .ok (.tup [.int 0, .int 2, (.tup [.int 1, .int 1])]) h' ∧ h <+: h' := by
  have w := x_pipe_two (t := (Str.ofString "0-2 1" : Str)) (u := (Str.ofString "0-2" : Str)) (v := (Str.ofString "1" : Str)) (one := (Str.ofString "0" : Str)) (d := (Str.ofString "-" : Str)) (other := (Str.ofString "2" : Str)) (i := 0) (j := 2) (x := (.tup [.int 1, .int 1])) (h := h) (by decide +kernel) (by decide +kernel) (by decide +kernel) (by decide +kernel) (by exact (fun h => (x_frac_one (i := 1) (by decide +kernel) (by decide +kernel) (fun _ => x_num_at (n := 1) (by decide +kernel) (by decide))).trans rfl)) (fun _ => x_num_at (n := 0) (by decide +kernel) (by decide)) (fun _ => x_num_at (n := 2) (by decide +kernel) (by decide)) false (fun _ => rfl)
  rw [if_neg (by decide +kernel)] at w
  exact w
theorem od_9 (h : Hv) : ∃ h', F_pipe_in [.str (Str.ofString "2-0 1" : Str)] h = .ok (.tup [.int 2, .int 0, (.tup [.int 1, .int 1])]) h' ∧ h <+: h' := by
  have w := x_pipe_two (t := (Str.ofString "2-0 1" : Str)) (u := (Str.ofString "2-0" : Str)) (v := (Str.ofString "1" : Str)) (one := (Str.ofString "2" : Str)) (d := (Str.ofString "-" : Str)) (other := (Str.ofString "0" : Str)) (i := 2) (j := 0) (x := (.tup [.int 1, .int 1])) (h := h) (by decide +kernel) (by decide +kernel) (by decide +kernel) (by decide +kernel) (by exact (fun h => (x_frac_one (i := 1) (by decide +kernel) (by decide +kernel) (fun _ => x_num_at (n := 1) (by decide +kernel) (by decide))).trans rfl)) (fun _ => x_num_at (n := 2) (by decide +kernel) (by decide)) (fun _ => x_num_at (n := 0) (by decide +kernel) (by decide)) false (fun _ => rfl)
  rw [if_neg (by decide +kernel)] at w
  exact w
theorem od_10 (h : Hv) : ∃ h', F_pipe_in [.str (Str.ofString "-1 1" : Str)] h = .ok .non h' ∧ h <+: h' := by
  have w := x_pipe_two (t := (Str.ofString "-1 1" : Str)) (u := (Str.ofString "-1" : Str)) (v := (Str.ofString "1" : Str)) (one := (Str.ofString "" : Str)) (d := (Str.ofString "-" : Str)) (other := (Str.ofString "1" : Str)) (i := -1) (j := 1) (x := (.tup [.int 1, .int 1])) (h := h) (by decide +kernel) (by decide +kernel) (by decide +kernel) (by decide +kernel) (by exact (fun h => (x_frac_one (i := 1) (by decide +kernel) (by decide +kernel) (fun _ => x_num_at (n := 1) (by decide +kernel) (by decide))).trans rfl)) (fun _ => x_no_number (by decide +kernel)) (fun _ => x_num_at (n := 1) (by decide +kernel) (by decide)) false (fun _ => rfl)
  rw [if_pos (by decide +kernel)] at w
  exact w
theorem od_11 (h : Hv) : ∃ h', F_pipe_in [.str (Str.ofString "0- 1" : Str)] h = .ok .non h' ∧ h <+: h' := by
  have w := x_pipe_two (t := (Str.ofString "0- 1" : Str)) (u := (Str.ofString "0-" : Str)) (v := (Str.ofString "1" : Str)) (one := (Str.ofString "0" : Str)) (d := (Str.ofString "-" : Str)) (other := (Str.ofString "" : Str)) (i := 0) (j := -1) (x := (.tup [.int 1, .int 1])) (h := h) (by decide +kernel) (by decide +kernel) (by decide +kernel) (by decide +kernel) (by exact (fun h => (x_frac_one (i := 1) (by decide +kernel) (by decide +kernel) (fun _ => x_num_at (n := 1) (by decide +kernel) (by decide))).trans rfl)) (fun _ => x_num_at (n := 0) (by decide +kernel) (by decide)) (fun _ => x_no_number (by decide +kernel)) false (fun _ => rfl)
  rw [if_pos (by decide +kernel)] at w
  exact w
theorem od_12 (h : Hv) : ∃ h', F_pipe_in [.str (Str.ofString "01-1 1" : Str)] h = .ok .non h' ∧ h <+: h' := by
  have w := x_pipe_two (t := (Str.ofString "01-1 1" : Str)) (u := (Str.ofString "01-1" : Str)) (v := (Str.ofString "1" : Str)) (one := (Str.ofString "01" : Str)) (d := (Str.ofString "-" : Str)) (other := (Str.ofString "1" : Str)) (i := -1) (j := 1) (x := (.tup [.int 1, .int 1])) (h := h) (by decide +kernel) (by decide +kernel) (by decide +kernel) (by decide +kernel) (by exact (fun h => (x_frac_one (i := 1) (by decide +kernel) (by decide +kernel) (fun _ => x_num_at (n := 1) (by decide +kernel) (by decide))).trans rfl)) (fun _ => x_no_number (by decide +kernel)) (fun _ => x_num_at (n := 1) (by decide +kernel) (by decide)) false (fun _ => rfl)
  rw [if_pos (by decide +kernel)] at w
  exact w
theorem od_13 (h : Hv) : ∃ h', F_pipe_in [.str (Str.ofString "0-1 0" : Str)] h = .ok (.tup [.int 0, .int 1, (.tup [.int 0, .int 1])]) h' ∧ h <+: h' := by
  have w := x_pipe_two (t := (Str.ofString "0-1 0" : Str)) (u := (Str.ofString "0-1" : Str)) (v := (Str.ofString "0" : Str)) (one := (Str.ofString "0" : Str)) (d := (Str.ofString "-" : Str)) (other := (Str.ofString "1" : Str)) (i := 0) (j := 1) (x := (.tup [.int 0, .int 1])) (h := h) (by decide +kernel) (by decide +kernel) (by decide +kernel) (by decide +kernel) (by exact (fun h => (x_frac_one (i := 0) (by decide +kernel) (by decide +kernel) (fun _ => x_num_at (n := 0) (by decide +kernel) (by decide))).trans rfl)) (fun _ => x_num_at (n := 0) (by decide +kernel) (by decide)) (fun _ => x_num_at (n := 1) (by decide +kernel) (by decide)) false (fun _ => rfl)
  rw [if_neg (by decide +kernel)] at w
  exact w
theorem od_14 (h : Hv) : ∃ h', F_pipe_in [.str (Str.ofString "0-1 01" : Str)] h = .ok .non h' ∧ h <+: h' := by
  have w := x_pipe_two (t := (Str.ofString "0-1 01" : Str)) (u := (Str.ofString "0-1" : Str)) (v := (Str.ofString "01" : Str)) (one := (Str.ofString "0" : Str)) (d := (Str.ofString "-" : Str)) (other := (Str.ofString "1" : Str)) (i := 0) (j := 1) (x := .non) (h := h) (by decide +kernel) (by decide +kernel) (by decide +kernel) (by decide +kernel) (by exact (fun h => (x_frac_one (i := -1) (by decide +kernel) (by decide +kernel) (fun _ => x_no_number (by decide +kernel))).trans rfl)) (fun _ => x_num_at (n := 0) (by decide +kernel) (by decide)) (fun _ => x_num_at (n := 1) (by decide +kernel) (by decide)) true (fun _ => rfl)
  rw [if_pos (by decide +kernel)] at w
  exact w
theorem od_15 (h : Hv) : ∃ h', F_pipe_in [.str (Str.ofString "0-1 1000000001" : Str)] h = .ok (.tup [.int 0, .int 1, (.tup [.int 1000000001, .int 1])]) h' ∧ h <+: h' := by
  have w := x_pipe_two (t := (Str.ofString "0-1 1000000001" : Str)) (u := (Str.ofString "0-1" : Str)) (v := (Str.ofString "1000000001" : Str)) (one := (Str.ofString "0" : Str)) (d := (Str.ofString "-" : Str)) (other := (Str.ofString "1" : Str)) (i := 0) (j := 1) (x := (.tup [.int 1000000001, .int 1])) (h := h) (by decide +kernel) (by decide +kernel) (by decide +kernel) (by decide +kernel) (by exact (fun h => (x_frac_one (i := 1000000001) (by decide +kernel) (by decide +kernel) (fun _ => x_num_at (n := 1000000001) (by decide +kernel) (by decide))).trans rfl)) (fun _ => x_num_at (n := 0) (by decide +kernel) (by decide)) (fun _ => x_num_at (n := 1) (by decide +kernel) (by decide)) false (fun _ => rfl)
  rw [if_neg (by decide +kernel)] at w
  exact w
theorem od_16 (h : Hv) : ∃ h', F_pipe_in [.str (Str.ofString "0-1 2/4" : Str)] h = .ok .non h' ∧ h <+: h' := by
  have w := x_pipe_two (t := (Str.ofString "0-1 2/4" : Str)) (u := (Str.ofString "0-1" : Str)) (v := (Str.ofString "2/4" : Str)) (one := (Str.ofString "0" : Str)) (d := (Str.ofString "-" : Str)) (other := (Str.ofString "1" : Str)) (i := 0) (j := 1) (x := .non) (h := h) (by decide +kernel) (by decide +kernel) (by decide +kernel) (by decide +kernel) (by exact (fun h => (x_frac_two (a := (Str.ofString "2" : Str)) (b := (Str.ofString "4" : Str)) (i := 2) (j := 4) (by decide +kernel) (by decide +kernel) (fun _ => x_num_at (n := 2) (by decide +kernel) (by decide)) (fun _ => x_num_at (n := 4) (by decide +kernel) (by decide))).trans (by rw [if_pos (by decide)]))) (fun _ => x_num_at (n := 0) (by decide +kernel) (by decide)) (fun _ => x_num_at (n := 1) (by decide +kernel) (by decide)) true (fun _ => rfl)
  rw [if_pos (by decide +kernel)] at w
  exact w
theorem od_17 (h : Hv) : ∃ h', F_pipe_in [.str (Str.ofString "0-1 3/1" : Str)] h = .ok .non h' ∧ h <+: h' := by
  have w := x_pipe_two (t := (Str.ofString "0-1 3/1" : Str)) (u := (Str.ofString "0-1" : Str)) (v := (Str.ofString "3/1" : Str)) (one := (Str.ofString "0" : Str)) (d := (Str.ofString "-" : Str)) (other := (Str.ofString "1" : Str)) (i := 0) (j := 1) (x := .non) (h := h) (by decide +kernel) (by decide +kernel) (by decide +kernel) (by decide +kernel) (by exact (fun h => (x_frac_two (a := (Str.ofString "3" : Str)) (b := (Str.ofString "1" : Str)) (i := 3) (j := 1) (by decide +kernel) (by decide +kernel) (fun _ => x_num_at (n := 3) (by decide +kernel) (by decide)) (fun _ => x_num_at (n := 1) (by decide +kernel) (by decide))).trans (by rw [if_pos (by decide)]))) (fun _ => x_num_at (n := 0) (by decide +kernel) (by decide)) (fun _ => x_num_at (n := 1) (by decide +kernel) (by decide)) true (fun _ => rfl)
  rw [if_pos (by decide +kernel)] at w
  exact w
theorem od_18 (h : Hv) : ∃ h', F_pipe_in [.str (Str.ofString "0-1 1/1000000001" : Str)] h = .ok (.tup [.int 0, .int 1, (.tup [.int 1, .int 1000000001])]) h' ∧ h <+: h' := by
  have w := x_pipe_two (t := (Str.ofString "0-1 1/1000000001" : Str)) (u := (Str.ofString "0-1" : Str)) (v := (Str.ofString "1/1000000001" : Str)) (one := (Str.ofString "0" : Str)) (d := (Str.ofString "-" : Str)) (other := (Str.ofString "1" : Str)) (i := 0) (j := 1) (x := (.tup [.int 1, .int 1000000001])) (h := h) (by decide +kernel) (by decide +kernel) (by decide +kernel) (by decide +kernel) (by exact (fun h => (x_frac_two (a := (Str.ofString "1" : Str)) (b := (Str.ofString "1000000001" : Str)) (i := 1) (j := 1000000001) (by decide +kernel) (by decide +kernel) (fun _ => x_num_at (n := 1) (by decide +kernel) (by decide)) (fun _ => x_num_at (n := 1000000001) (by decide +kernel) (by decide))).trans (by rw [if_neg (by decide)]))) (fun _ => x_num_at (n := 0) (by decide +kernel) (by decide)) (fun _ => x_num_at (n := 1) (by decide +kernel) (by decide)) false (fun _ => rfl)
  rw [if_neg (by decide +kernel)] at w
  exact w
theorem od_19 (h : Hv) : ∃ h', F_pipe_in [.str (Str.ofString "0-1 1/0" : Str)] h = .ok .non h' ∧ h <+: h' := by
  have w := x_pipe_two (t := (Str.ofString "0-1 1/0" : Str)) (u := (Str.ofString "0-1" : Str)) (v := (Str.ofString "1/0" : Str)) (one := (Str.ofString "0" : Str)) (d := (Str.ofString "-" : Str)) (other := (Str.ofString "1" : Str)) (i := 0) (j := 1) (x := .non) (h := h) (by decide +kernel) (by decide +kernel) (by decide +kernel) (by decide +kernel) (by exact (fun h => (x_frac_two (a := (Str.ofString "1" : Str)) (b := (Str.ofString "0" : Str)) (i := 1) (j := 0) (by decide +kernel) (by decide +kernel) (fun _ => x_num_at (n := 1) (by decide +kernel) (by decide)) (fun _ => x_num_at (n := 0) (by decide +kernel) (by decide))).trans (by rw [if_pos (by decide)]))) (fun _ => x_num_at (n := 0) (by decide +kernel) (by decide)) (fun _ => x_num_at (n := 1) (by decide +kernel) (by decide)) true (fun _ => rfl)
  rw [if_pos (by decide +kernel)] at w
  exact w
theorem od_20 (h : Hv) : ∃ h', F_pipe_in [.str (Str.ofString "0-1 -1" : Str)] h = .ok .non h' ∧ h <+: h' := by
  have w := x_pipe_two (t := (Str.ofString "0-1 -1" : Str)) (u := (Str.ofString "0-1" : Str)) (v := (Str.ofString "-1" : Str)) (one := (Str.ofString "0" : Str)) (d := (Str.ofString "-" : Str)) (other := (Str.ofString "1" : Str)) (i := 0) (j := 1) (x := .non) (h := h) (by decide +kernel) (by decide +kernel) (by decide +kernel) (by decide +kernel) (by exact (fun h => (x_frac_one (i := -1) (by decide +kernel) (by decide +kernel) (fun _ => x_no_number (by decide +kernel))).trans rfl)) (fun _ => x_num_at (n := 0) (by decide +kernel) (by decide)) (fun _ => x_num_at (n := 1) (by decide +kernel) (by decide)) true (fun _ => rfl)
  rw [if_pos (by decide +kernel)] at w
  exact w
theorem od_21 (h : Hv) : ∃ h', F_pipe_in [.str (Str.ofString "0-1 +1" : Str)] h = .ok .non h' ∧ h <+: h' := by
  have w := x_pipe_two (t := (Str.ofString "0-1 +1" : Str)) (u := (Str.ofString "0-1" : Str)) (v := (Str.ofString "+1" : Str)) (one := (Str.ofString "0" : Str)) (d := (Str.ofString "-" : Str)) (other := (Str.ofString "1" : Str)) (i := 0) (j := 1) (x := .non) (h := h) (by decide +kernel) (by decide +kernel) (by decide +kernel) (by decide +kernel) (by exact (fun h => (x_frac_one (i := -1) (by decide +kernel) (by decide +kernel) (fun _ => x_no_number (by decide +kernel))).trans rfl)) (fun _ => x_num_at (n := 0) (by decide +kernel) (by decide)) (fun _ => x_num_at (n := 1) (by decide +kernel) (by decide)) true (fun _ => rfl)
  rw [if_pos (by decide +kernel)] at w
  exact w
theorem od_22 (h : Hv) : ∃ h', F_pipe_in [.str (Str.ofString "0-1\t1" : Str)] h = .ok .non h' ∧ h <+: h' := x_pipe_one (ws := [(Str.ofString "0-1\t1" : Str)]) (by decide +kernel) (by decide +kernel) (by decide)
theorem od_23 (h : Hv) : ∃ h', F_pipe_in [.str (Str.ofString "0-1 1\t" : Str)] h = .ok .non h' ∧ h <+: h' := by
  have w := x_pipe_two (t := (Str.ofString "0-1 1\t" : Str)) (u := (Str.ofString "0-1" : Str)) (v := (Str.ofString "1\t" : Str)) (one := (Str.ofString "0" : Str)) (d := (Str.ofString "-" : Str)) (other := (Str.ofString "1" : Str)) (i := 0) (j := 1) (x := .non) (h := h) (by decide +kernel) (by decide +kernel) (by decide +kernel) (by decide +kernel) (by exact (fun h => (x_frac_one (i := -1) (by decide +kernel) (by decide +kernel) (fun _ => x_no_number (by decide +kernel))).trans rfl)) (fun _ => x_num_at (n := 0) (by decide +kernel) (by decide)) (fun _ => x_num_at (n := 1) (by decide +kernel) (by decide)) true (fun _ => rfl)
  rw [if_pos (by decide +kernel)] at w
  exact w
theorem od_24 (h : Hv) : ∃ h', F_pipe_in [.str (Str.ofString "x-1 1" : Str)] h = .ok .non h' ∧ h <+: h' := by
  have w := x_pipe_two (t := (Str.ofString "x-1 1" : Str)) (u := (Str.ofString "x-1" : Str)) (v := (Str.ofString "1" : Str)) (one := (Str.ofString "x" : Str)) (d := (Str.ofString "-" : Str)) (other := (Str.ofString "1" : Str)) (i := -1) (j := 1) (x := (.tup [.int 1, .int 1])) (h := h) (by decide +kernel) (by decide +kernel) (by decide +kernel) (by decide +kernel) (by exact (fun h => (x_frac_one (i := 1) (by decide +kernel) (by decide +kernel) (fun _ => x_num_at (n := 1) (by decide +kernel) (by decide))).trans rfl)) (fun _ => x_no_number (by decide +kernel)) (fun _ => x_num_at (n := 1) (by decide +kernel) (by decide)) false (fun _ => rfl)
  rw [if_pos (by decide +kernel)] at w
  exact w
theorem od_25 (h : Hv) : ∃ h', F_pipe_in [.str (Str.ofString "0-1 1.5" : Str)] h = .ok .non h' ∧ h <+: h' := by
  have w := x_pipe_two (t := (Str.ofString "0-1 1.5" : Str)) (u := (Str.ofString "0-1" : Str)) (v := (Str.ofString "1.5" : Str)) (one := (Str.ofString "0" : Str)) (d := (Str.ofString "-" : Str)) (other := (Str.ofString "1" : Str)) (i := 0) (j := 1) (x := .non) (h := h) (by decide +kernel) (by decide +kernel) (by decide +kernel) (by decide +kernel) (by exact (fun h => (x_frac_one (i := -1) (by decide +kernel) (by decide +kernel) (fun _ => x_no_number (by decide +kernel))).trans rfl)) (fun _ => x_num_at (n := 0) (by decide +kernel) (by decide)) (fun _ => x_num_at (n := 1) (by decide +kernel) (by decide)) true (fun _ => rfl)
  rw [if_pos (by decide +kernel)] at w
  exact w
theorem od_26 (h : Hv) : ∃ h', F_pipe_in [.str (Str.ofString "0-1-1 1" : Str)] h = .ok .non h' ∧ h <+: h' := by
  have w := x_pipe_two (t := (Str.ofString "0-1-1 1" : Str)) (u := (Str.ofString "0-1-1" : Str)) (v := (Str.ofString "1" : Str)) (one := (Str.ofString "0" : Str)) (d := (Str.ofString "-" : Str)) (other := (Str.ofString "1-1" : Str)) (i := 0) (j := -1) (x := (.tup [.int 1, .int 1])) (h := h) (by decide +kernel) (by decide +kernel) (by decide +kernel) (by decide +kernel) (by exact (fun h => (x_frac_one (i := 1) (by decide +kernel) (by decide +kernel) (fun _ => x_num_at (n := 1) (by decide +kernel) (by decide))).trans rfl)) (fun _ => x_num_at (n := 0) (by decide +kernel) (by decide)) (fun _ => x_no_number (by decide +kernel)) false (fun _ => rfl)
  rw [if_pos (by decide +kernel)] at w
  exact w
theorem od_27 (h : Hv) : ∃ h', F_pipe_in [.str (Str.ofString "0-1 1/2/3" : Str)] h = .ok .non h' ∧ h <+: h' := by
  have w := x_pipe_two (t := (Str.ofString "0-1 1/2/3" : Str)) (u := (Str.ofString "0-1" : Str)) (v := (Str.ofString "1/2/3" : Str)) (one := (Str.ofString "0" : Str)) (d := (Str.ofString "-" : Str)) (other := (Str.ofString "1" : Str)) (i := 0) (j := 1) (x := .non) (h := h) (by decide +kernel) (by decide +kernel) (by decide +kernel) (by decide +kernel) (by exact (fun h => (x_frac_two (a := (Str.ofString "1" : Str)) (b := (Str.ofString "2/3" : Str)) (i := 1) (j := -1) (by decide +kernel) (by decide +kernel) (fun _ => x_num_at (n := 1) (by decide +kernel) (by decide)) (fun _ => x_no_number (by decide +kernel))).trans (by rw [if_pos (by decide)]))) (fun _ => x_num_at (n := 0) (by decide +kernel) (by decide)) (fun _ => x_num_at (n := 1) (by decide +kernel) (by decide)) true (fun _ => rfl)
  rw [if_pos (by decide +kernel)] at w
  exact w
theorem od_28 (h : Hv) : ∃ h', F_pipe_in [.str (Str.ofString "0-1 /2" : Str)] h = .ok .non h' ∧ h <+: h' := by
  have w := x_pipe_two (t := (Str.ofString "0-1 /2" : Str)) (u := (Str.ofString "0-1" : Str)) (v := (Str.ofString "/2" : Str)) (one := (Str.ofString "0" : Str)) (d := (Str.ofString "-" : Str)) (other := (Str.ofString "1" : Str)) (i := 0) (j := 1) (x := .non) (h := h) (by decide +kernel) (by decide +kernel) (by decide +kernel) (by decide +kernel) (by exact (fun h => (x_frac_two (a := (Str.ofString "" : Str)) (b := (Str.ofString "2" : Str)) (i := -1) (j := 2) (by decide +kernel) (by decide +kernel) (fun _ => x_no_number (by decide +kernel)) (fun _ => x_num_at (n := 2) (by decide +kernel) (by decide))).trans (by rw [if_pos (by decide)]))) (fun _ => x_num_at (n := 0) (by decide +kernel) (by decide)) (fun _ => x_num_at (n := 1) (by decide +kernel) (by decide)) true (fun _ => rfl)
  rw [if_pos (by decide +kernel)] at w
  exact w
theorem od_29 (h : Hv) : ∃ h', F_pipe_in [.str (Str.ofString "0-1 1/" : Str)] h = .ok .non h' ∧ h <+: h' := by
  have w := x_pipe_two (t := (Str.ofString "0-1 1/" : Str)) (u := (Str.ofString "0-1" : Str)) (v := (Str.ofString "1/" : Str)) (one := (Str.ofString "0" : Str)) (d := (Str.ofString "-" : Str)) (other := (Str.ofString "1" : Str)) (i := 0) (j := 1) (x := .non) (h := h) (by decide +kernel) (by decide +kernel) (by decide +kernel) (by decide +kernel) (by exact (fun h => (x_frac_two (a := (Str.ofString "1" : Str)) (b := (Str.ofString "" : Str)) (i := 1) (j := -1) (by decide +kernel) (by decide +kernel) (fun _ => x_num_at (n := 1) (by decide +kernel) (by decide)) (fun _ => x_no_number (by decide +kernel))).trans (by rw [if_pos (by decide)]))) (fun _ => x_num_at (n := 0) (by decide +kernel) (by decide)) (fun _ => x_num_at (n := 1) (by decide +kernel) (by decide)) true (fun _ => rfl)
  rw [if_pos (by decide +kernel)] at w
  exact w
theorem od_30 (h : Hv) : ∃ h', F_pipe_in [.str (Str.ofString "0-1 1/02" : Str)] h = .ok .non h' ∧ h <+: h' := by
  have w := x_pipe_two (t := (Str.ofString "0-1 1/02" : Str)) (u := (Str.ofString "0-1" : Str)) (v := (Str.ofString "1/02" : Str)) (one := (Str.ofString "0" : Str)) (d := (Str.ofString "-" : Str)) (other := (Str.ofString "1" : Str)) (i := 0) (j := 1) (x := .non) (h := h) (by decide +kernel) (by decide +kernel) (by decide +kernel) (by decide +kernel) (by exact (fun h => (x_frac_two (a := (Str.ofString "1" : Str)) (b := (Str.ofString "02" : Str)) (i := 1) (j := -1) (by decide +kernel) (by decide +kernel) (fun _ => x_num_at (n := 1) (by decide +kernel) (by decide)) (fun _ => x_no_number (by decide +kernel))).trans (by rw [if_pos (by decide)]))) (fun _ => x_num_at (n := 0) (by decide +kernel) (by decide)) (fun _ => x_num_at (n := 1) (by decide +kernel) (by decide)) true (fun _ => rfl)
  rw [if_pos (by decide +kernel)] at w
  exact w
theorem od_31 (h : Hv) : ∃ h', F_pipe_in [.str (Str.ofString "0-01 1" : Str)] h = .ok .non h' ∧ h <+: h' := by
  have w := x_pipe_two (t := (Str.ofString "0-01 1" : Str)) (u := (Str.ofString "0-01" : Str)) (v := (Str.ofString "1" : Str)) (one := (Str.ofString "0" : Str)) (d := (Str.ofString "-" : Str)) (other := (Str.ofString "01" : Str)) (i := 0) (j := -1) (x := (.tup [.int 1, .int 1])) (h := h) (by decide +kernel) (by decide +kernel) (by decide +kernel) (by decide +kernel) (by exact (fun h => (x_frac_one (i := 1) (by decide +kernel) (by decide +kernel) (fun _ => x_num_at (n := 1) (by decide +kernel) (by decide))).trans rfl)) (fun _ => x_num_at (n := 0) (by decide +kernel) (by decide)) (fun _ => x_no_number (by decide +kernel)) false (fun _ => rfl)
  rw [if_pos (by decide +kernel)] at w
  exact w
theorem od_32 (h : Hv) : ∃ h', F_pipe_in [.str (Str.ofString "0-1 1_0" : Str)] h = .ok .non h' ∧ h <+: h' := by
  have w := x_pipe_two (t := (Str.ofString "0-1 1_0" : Str)) (u := (Str.ofString "0-1" : Str)) (v := (Str.ofString "1_0" : Str)) (one := (Str.ofString "0" : Str)) (d := (Str.ofString "-" : Str)) (other := (Str.ofString "1" : Str)) (i := 0) (j := 1) (x := .non) (h := h) (by decide +kernel) (by decide +kernel) (by decide +kernel) (by decide +kernel) (by exact (fun h => (x_frac_one (i := -1) (by decide +kernel) (by decide +kernel) (fun _ => x_no_number (by decide +kernel))).trans rfl)) (fun _ => x_num_at (n := 0) (by decide +kernel) (by decide)) (fun _ => x_num_at (n := 1) (by decide +kernel) (by decide)) true (fun _ => rfl)
  rw [if_pos (by decide +kernel)] at w
  exact w
end K11

set_option Elab.async false
set_option linter.all false
set_option autoImplicit false
set_option maxRecDepth 100000
set_option pp.maxSteps 60
set_option maxHeartbeats 4000000
namespace K11
open PySem PySem.Spec PyProof.Rows L2 DL
theorem fold_tl : ∀ (l : List (Array Nat)) (acc : Array Nat), (l.foldl (· ++ ·) acc).toList = acc.toList ++ (l.map Array.toList).flatten
  | [], acc => by simp
  | a :: l, acc => by
    rw [List.foldl_cons, fold_tl l, Array.toList_append, List.map_cons, List.flatten_cons, List.append_assoc]
theorem nines_tl : TL.tl (Txt.mul (Str.ofString "9") 4000) = List.replicate 4000 57 := by
  have e : Txt.mul (Str.ofString "9") 4000 = ⟨(List.replicate 4000 (Str.ofString "9").cps).foldl (· ++ ·) #[]⟩ := by
    unfold Txt.mul
    rw [if_neg (by decide), if_neg (by decide +kernel)]
    rfl
  rw [e]
  show ((List.replicate 4000 (Str.ofString "9").cps).foldl (· ++ ·) #[]).toList = _
  rw [fold_tl, List.map_replicate, show (Str.ofString "9").cps.toList = [57] from by decide +kernel]
  have : ∀ n : Nat, (List.replicate n [57]).flatten = List.replicate n 57 := fun n => by
    induction n with
    | zero => rfl
    | succ n ih => rw [List.replicate_succ, List.flatten_cons, ih, List.replicate_succ]; rfl
  rw [this]
  rfl
abbrev nines : Str := Txt.mul (Str.ofString "9") 4000
abbrev longR : Str := (Str.ofString "0-1 " : Str) ++ nines
theorem nines_len : nines.length = 4000 := by rw [TL.len_tl, nines_tl, List.length_replicate]
theorem zo_tl : TL.tl (Str.ofString "0-1 ") = [48, 45, 49, 32] := by decide +kernel
theorem long_len : longR.length = 4004 := by
  rw [TL.len_tl, TL.tl_append, nines_tl, zo_tl, List.length_append, List.length_replicate]; rfl
theorem od_long (h : Hv) : ∃ h', F_pipe_in [.str longR] h = .ok .non h' ∧ h <+: h' := by
  have nf : ∀ s : Nat, s ≠ 57 → s ∉ TL.tl nines := fun s hs hm => by
    rw [nines_tl] at hm
    exact hs (List.eq_of_mem_replicate hm)
  have sp : Txt.split longR (Str.ofString " ") = [(Str.ofString "0-1" : Str), nines] := by
    have e : longR = Txt.join (Str.ofString " ") [(Str.ofString "0-1" : Str), nines] := by
      refine TL.ext_tl ?_
      rw [TL.join_eq, TL.tl_join, TL.tl_append, zo_tl, blank]
      show _ = TL.tl (Str.ofString "0-1") ++ ([32] ++ TL.tl nines)
      rw [show TL.tl (Str.ofString "0-1") = [48, 45, 49] from by decide +kernel]
      rfl
    rw [e]
    refine TL.split_join blank (by decide +kernel) (by simp) fun p hp => ?_
    simp only [List.mem_cons, List.not_mem_nil, or_false] at hp
    rcases hp with rfl | rfl
    · decide +kernel
    · exact nf _ (by decide)
  have nn : NoNum nines := ⟨by rw [nines_len]; decide, .inl fun z => by rw [nines_len] at z; omega⟩
  have w := x_pipe_two (t := longR) (i := 0) (j := 1) (x := .non) (h := h) (by rw [long_len]; decide) sp (by decide +kernel) (show Txt.partition (Str.ofString "0-1") (Str.ofString "-") = (Str.ofString "0", Str.ofString "-", Str.ofString "1") from by decide +kernel)
    (fun h => (x_frac_one (i := -1) (by rw [nines_len]; decide) (TL.partition_none slash (nf _ (by decide))) (fun _ => x_no_number nn)).trans rfl) (fun _ => x_num_at (n := 0) (by decide +kernel) (by decide)) (fun _ => x_num_at (n := 1) (by decide +kernel) (by decide)) true (fun _ => rfl)
  rw [if_pos (.inr (.inl rfl))] at w
  exact w
/-- rows that make no net of two places -/
def Spoilt (t : Str) : Prop := (∀ h, ∃ h', F_pipe_in [.str t] h = .ok .non h' ∧ h <+: h') ∨ ∃ w : Pip, ¬ PipOk 2 w ∧ ∀ h, ∃ h', F_pipe_in [.str t] h = .ok (rowD w) h' ∧ h <+: h'
theorem x_read_bad {a : List Pip} {t text : Str} {rest : List Str} {h : Hv} (et : Txt.split text (Str.ofString "\n") = plT 2 :: (a.map rT ++ t :: rest)) (tl : text.length ≤ cap) (hr : rest.length ≤ 1000) (hl : a.length ≤ 28) (ok : ∀ w ∈ a, PipOk 2 w)
    (bad : (∀ h, ∃ h', F_pipe_in [.str t] h = .ok .non h' ∧ h <+: h') ∨ ∃ w : Pip, (¬ PipOk 2 w ∨ a.length = 28) ∧ ∀ h, ∃ h', F_pipe_in [.str t] h = .ok (rowD w) h' ∧ h <+: h') :
    ∃ h', F_read [.str text] h = .ex (.row 16 ((a.length + 2 : Nat) : Int)) h' ∧ h <+: h' := by
  have n1 : ∀ h, F_number_in [.str (nT 2)] h = .ok (iN 2) h := fun h => x_number_in (by omega)
  have nl : ((Str.ofString "\n" : Str).length == 0) = false := by decide +kernel
  have bl : ((Str.ofString " " : Str).length == 0) = false := by decide +kernel
  generalize hL : plT 2 :: (a.map rT ++ t :: rest) = L at et
  have sp : DL.tSplit text (Str.ofString "\n") h = .ok (.ref h.length) (h ++ [.lst (L.map D.str)]) := by
    unfold DL.tSplit
    rw [if_pos ⟨nl, tl⟩, et]
  have t1 : dT1 DL.tSplit (dVar 0) (dC (.str (Str.ofString "\n"))) [some (.str text), none, none, none, none, none, none, none, none] h = DL.tSplit text (Str.ofString "\n") h := t1_ap rfl rfl
  unfold F_read d_read
  rw [run_ap, if_pos (show [D.str text].length = 1 from rfl)]
  simp only [startD, N_read, List.map_cons, List.map_nil, List.length_cons, List.length_nil, Nat.zero_add, Nat.reduceAdd, Nat.reduceSub, List.replicate_succ, List.replicate_zero, List.cons_append, List.nil_append]
  generalize hA : h ++ [O.lst (L.map D.str)] = A at sp
  have lA : lstAt A h.length = some (L.map D.str) := by rw [← hA]; exact lst_new
  have hpA : h <+: A := by rw [← hA]; exact pre_app
  have x0 : ixV (lstAt A h.length) 0 A = .ok (.str (plT 2)) A := by rw [lA, ← hL]; exact ixV_0
  have pl : (plT 2).length ≤ cap := by decide +kernel
  have pt : DL.tPart (plT 2) (Str.ofString " ") A = .ok (.tup [.str (Str.ofString "places"), .str (Str.ofString " "), .str (nT 2)]) A := by
    unfold DL.tPart
    rw [if_pos ⟨bl, pl⟩, plT_part]
  have t2 : dT1 DL.tPart (dIx (dVar 1) (dC (.int 0))) (dC (.str (Str.ofString " "))) [some (.str text), some (.ref h.length), none, none, none, none, none, none, none] A = DL.tPart (plT 2) (Str.ofString " ") A := t1_ap (by simp [x0]) rfl
  have sne : ¬ ((Str.ofString " " : Str) = Str.ofString "") := by decide +kernel
  have lB : lstAt (A ++ [O.lst []]) A.length = some (([] : List Pip).map rowD) := lst_new
  obtain ⟨B, b1, b2, b3⟩ := x_net_of (sz := 2) (row := .int 1) lB (by decide) (by decide) (by simp) (by simp)
  have AB : A <+: B := pre_app.trans b2
  have LL : L.length = a.length + 1 + rest.length + 1 := by rw [← hL]; simp; omega
  obtain ⟨ρ', e', H, f1, f2, f3⟩ := forK_ex (src := .rng 1 (a.length + 1 + rest.length)) (t := gN 7) (b := (dSeq (dSet 8 (dCall F_pipe_in (aCons (dIx (dVar 1) (dVar 7)) aNil)))
    (dSeq (dIf (dB (dOp fIs (dVar 8) (dC .non))) (dRow 16 (dOp fAdd (dVar 7) (dC (.int 1)))) dNx)
    (dSeq (dDrop (dMl mAppend (dVar 5) (aCons (dVar 8) aNil)))
    (dSet 6 (dCall F_net_of (aCons (dFld 0 "size" (dVar 6)) (aCons (dVar 5) (aCons (dOp fAdd (dVar 7) (dC (.int 1))) aNil))))))))) (h := B) (ρ := [some (.str text), some (.ref h.length), some (.str (Str.ofString "places")), some (.str (Str.ofString " ")), some (.str (nT 2)), some (.ref A.length), some (.ref (A ++ [O.lst []]).length), none, none])
    (xs := (List.range' 1 (a.length + 1 + rest.length)).map iN)
    (fun (j : Nat) ρ h' => ∃ nt o7 o8, ρ = [some (.str text), some (.ref h.length), some (.str (Str.ofString "places")), some (.str (Str.ofString " ")), some (.str (nT 2)), some (.ref A.length), some (.ref nt), o7, o8] ∧ A <+: h' ∧ lstAt h' A.length = some ((a.take j).map rowD) ∧ NetAt h' nt 2 (a.take j))
    (fun e h' => e = .row 16 ((a.length + 2 : Nat) : Int) ∧ h <+: h')
    ⟨_, _, _, rfl, AB, lst_pre b2 lB, b3⟩ (by simp [srcLen]) (fun _ _ _ _ => srcU) a.length (by simp; omega) (fun j x ρ h' jl hx ⟨nt, o7, o8, a1, a2, a3, a4⟩ => by
      subst a1
      have hx : x = iN (j + 1) := by
        rw [List.getElem?_map, List.getElem?_range' (by omega)] at hx
        have := (Option.some.inj hx).symm
        rw [this]
        simp only [iN]
        congr 1
        omega
      subst hx
      have rj : a[j]? = some a[j] := List.getElem?_eq_getElem jl
      have ok1 := ok _ (List.mem_of_getElem? rj)
      have x1 := ixV_ref (i := j + 1) (y := .str (rT a[j])) (lst_pre a2 lA) (by rw [← hL, List.map_cons, List.getElem?_cons_succ, List.map_append, List.getElem?_append_left (by simp; exact jl), List.getElem?_map, List.getElem?_map, rj]; rfl)
      have tk : a.take (j + 1) = a.take j ++ [a[j]] := by rw [List.take_succ, rj]; rfl
      have okj : ∀ w ∈ a.take (j + 1), PipOk 2 w := fun w hw => ok w (List.mem_of_mem_take hw)
      generalize a[j] = r at *
      obtain ⟨h2, c1, c2⟩ := x_pipe_in (r := r) (h := h') (by have := ok1.1; omega) (by have := ok1.2.1; omega) ok1.2.2.2.1 (by have := ok1.2.2.2.2.1; omega) (by have := ok1.2.2.2.2.2; omega)
      have l2 := lst_pre c2 a3
      have len2 : ((a.take j).map rowD).length < cap := by
        rw [List.length_map, List.length_take]; unfold cap; omega
      have l3 : lstAt (h2.set A.length (.lst ((a.take j).map rowD ++ [rowD r]))) A.length = some ((a.take (j + 1)).map rowD) := by
        rw [lst_set_eq (lst_lt l2), tk]; simp
      have sz : flK 0 "size" (.ref nt) (h2.set A.length (.lst ((a.take j).map rowD ++ [rowD r]))) = .ok (iN 2) (h2.set A.length (.lst ((a.take j).map rowD ++ [rowD r]))) := by
        obtain ⟨q, e1, _⟩ := (a4.pre c2).ins
        have ne : A.length ≠ nt := fun z => by
          have := lst_get.mp l2
          rw [z, e1] at this; cases this
        exact flK_ap (by rw [List.getElem?_set_ne ne]; exact e1) rfl
      have p3 : A <+: h2.set A.length (.lst ((a.take j).map rowD ++ [rowD r])) := pre_set (a2.trans c2) (Nat.le_refl _)
      have ap := append_ap (h := h2) (n := A.length) (ys := (a.take j).map rowD) (y := rowD r) len2
      generalize h2.set A.length (.lst ((a.take j).map rowD ++ [rowD r])) = h3 at *
      obtain ⟨h4, w1, w2, w3⟩ := x_net_of (sz := 2) (row := .int (((j + 1 : Nat) : Int) + 1)) l3 (by decide) (by decide) (by rw [List.length_take]; omega) okj
      refine ⟨[some (.str text), some (.ref h.length), some (.str (Str.ofString "places")), some (.str (Str.ofString " ")), some (.str (nT 2)), some (.ref A.length), some (.ref nt), some (iN (j + 1)), o8], [some (.str text), some (.ref h.length), some (.str (Str.ofString "places")), some (.str (Str.ofString " ")), some (.str (nT 2)), some (.ref A.length), some (.ref h3.length), some (iN (j + 1)), some (rowD r)], h4, rfl, ?_, _, _, _, rfl, p3.trans w2, lst_pre w2 l3, w3⟩
      have isn : fIs (rowD r) .non h2 = .ok (.bl false) h2 := rfl
      refine sq (ρ' := [some (.str text), some (.ref h.length), some (.str (Str.ofString "places")), some (.str (Str.ofString " ")), some (.str (nT 2)), some (.ref A.length), some (.ref nt), some (iN (j + 1)), some (rowD r)]) (h' := h2) (by simp only [set_ap, call_ap, cons_ap, ix_ap, var_ap, List.getElem?_cons_succ, List.getElem?_cons_zero, getV_some, R.bind_ok, opK_ap, fIx_ref, x1, coK1_ap, nil_ap, coK2_ap, c1, SR.of_ok, seK_ap, List.set_cons_succ, List.set_cons_zero]) ?_
      refine sq (ρ' := [some (.str text), some (.ref h.length), some (.str (Str.ofString "places")), some (.str (Str.ofString " ")), some (.str (nT 2)), some (.ref A.length), some (.ref nt), some (iN (j + 1)), some (rowD r)]) (h' := h2) (by simp [isn]) ?_
      refine sq (ρ' := [some (.str text), some (.ref h.length), some (.str (Str.ofString "places")), some (.str (Str.ofString " ")), some (.str (nT 2)), some (.ref A.length), some (.ref nt), some (iN (j + 1)), some (rowD r)]) (h' := h3) (by simp only [drop_ap, ml_ap, var_ap, List.getElem?_cons_succ, List.getElem?_cons_zero, getV_some, R.bind_ok, mlK_ap l2, cons_ap, coK1_ap, nil_ap, coK2_ap, mlK2_ap l2, ap, SR.of_ok, drK_ap]) ?_
      simp only [set_ap, call_ap, cons_ap, fld_ap, op_ap, con_ap, var_ap, List.getElem?_cons_succ, List.getElem?_cons_zero, getV_some, R.bind_ok, opK_ap, sz, fAdd_ap, coK1_ap, nil_ap, coK2_ap, w1, SR.of_ok, seK_ap, List.set_cons_succ, List.set_cons_zero])
    (fun x ρ h' hx ⟨nt, o7, o8, a1, a2, a3, a4⟩ => by
      subst a1
      rw [List.take_length] at a3 a4
      have hx : x = iN (a.length + 1) := by
        rw [List.getElem?_map, List.getElem?_range' (by omega)] at hx
        have := (Option.some.inj hx).symm
        rw [this]
        simp only [iN]
        congr 1
        omega
      subst hx
      have x1 := ixV_ref (i := a.length + 1) (y := .str t) (lst_pre a2 lA) (by rw [← hL, List.map_cons, List.getElem?_cons_succ, List.map_append, List.getElem?_append_right (by simp)]; simp)
      have e2 : (((a.length + 1 : Nat) : Int)) + 1 = ((a.length + 2 : Nat) : Int) := by omega
      rcases bad with bad | ⟨w, bw, bad⟩
      · obtain ⟨h2, c1, c2⟩ := bad h'
        refine ⟨[some (.str text), some (.ref h.length), some (.str (Str.ofString "places")), some (.str (Str.ofString " ")), some (.str (nT 2)), some (.ref A.length), some (.ref nt), some (iN (a.length + 1)), o8], [some (.str text), some (.ref h.length), some (.str (Str.ofString "places")), some (.str (Str.ofString " ")), some (.str (nT 2)), some (.ref A.length), some (.ref nt), some (iN (a.length + 1)), some .non], _, h2, rfl, ?_, rfl, hpA.trans (a2.trans c2)⟩
        refine sq (ρ' := [some (.str text), some (.ref h.length), some (.str (Str.ofString "places")), some (.str (Str.ofString " ")), some (.str (nT 2)), some (.ref A.length), some (.ref nt), some (iN (a.length + 1)), some .non]) (h' := h2) (by simp only [set_ap, call_ap, cons_ap, ix_ap, var_ap, List.getElem?_cons_succ, List.getElem?_cons_zero, getV_some, R.bind_ok, opK_ap, fIx_ref, x1, coK1_ap, nil_ap, coK2_ap, c1, SR.of_ok, seK_ap, List.set_cons_succ, List.set_cons_zero]) ?_
        refine sqx' ?_
        have isn : fIs .non .non h2 = .ok (.bl true) h2 := rfl
        simp only [if_ap, b_ap, op_ap, var_ap, con_ap, List.getElem?_cons_succ, List.getElem?_cons_zero, getV_some, R.bind_ok, opK_ap, isn, boolV_bl, SR.of_ok, ifK_ap, if_true]
        exact row_ap (by simp only [op_ap, var_ap, con_ap, List.getElem?_cons_succ, List.getElem?_cons_zero, getV_some, R.bind_ok, opK_ap, fAdd_ap, e2])
      · obtain ⟨h2, c1, c2⟩ := bad h'
        have l2 := lst_pre c2 a3
        have len2 : (a.map rowD).length < cap := by
          rw [List.length_map]; unfold cap; omega
        have l3 : lstAt (h2.set A.length (.lst (a.map rowD ++ [rowD w]))) A.length = some ((a ++ [w]).map rowD) := by
          rw [lst_set_eq (lst_lt l2)]; simp
        have sz : flK 0 "size" (.ref nt) (h2.set A.length (.lst (a.map rowD ++ [rowD w]))) = .ok (iN 2) (h2.set A.length (.lst (a.map rowD ++ [rowD w]))) := by
          obtain ⟨q, e1, _⟩ := (a4.pre c2).ins
          have ne : A.length ≠ nt := fun z => by
            have := lst_get.mp l2
            rw [z, e1] at this; cases this
          exact flK_ap (by rw [List.getElem?_set_ne ne]; exact e1) rfl
        have p3 : A <+: h2.set A.length (.lst (a.map rowD ++ [rowD w])) := pre_set (a2.trans c2) (Nat.le_refl _)
        have ap := append_ap (h := h2) (n := A.length) (ys := a.map rowD) (y := rowD w) len2
        generalize h2.set A.length (.lst (a.map rowD ++ [rowD w])) = h3 at *
        have w1 := x_net_of_bad (k := ((a.length + 2 : Nat) : Int)) (x_make_bad l3 (by decide) (by decide) hl ok bw)
        refine ⟨[some (.str text), some (.ref h.length), some (.str (Str.ofString "places")), some (.str (Str.ofString " ")), some (.str (nT 2)), some (.ref A.length), some (.ref nt), some (iN (a.length + 1)), o8], [some (.str text), some (.ref h.length), some (.str (Str.ofString "places")), some (.str (Str.ofString " ")), some (.str (nT 2)), some (.ref A.length), some (.ref nt), some (iN (a.length + 1)), some (rowD w)], _, h3 ++ [.ins 0 []], rfl, ?_, rfl, (hpA.trans p3).trans pre_app⟩
        have isn : fIs (rowD w) .non h2 = .ok (.bl false) h2 := rfl
        refine sq (ρ' := [some (.str text), some (.ref h.length), some (.str (Str.ofString "places")), some (.str (Str.ofString " ")), some (.str (nT 2)), some (.ref A.length), some (.ref nt), some (iN (a.length + 1)), some (rowD w)]) (h' := h2) (by simp only [set_ap, call_ap, cons_ap, ix_ap, var_ap, List.getElem?_cons_succ, List.getElem?_cons_zero, getV_some, R.bind_ok, opK_ap, fIx_ref, x1, coK1_ap, nil_ap, coK2_ap, c1, SR.of_ok, seK_ap, List.set_cons_succ, List.set_cons_zero]) ?_
        refine sq (ρ' := [some (.str text), some (.ref h.length), some (.str (Str.ofString "places")), some (.str (Str.ofString " ")), some (.str (nT 2)), some (.ref A.length), some (.ref nt), some (iN (a.length + 1)), some (rowD w)]) (h' := h2) (by simp [isn]) ?_
        refine sq (ρ' := [some (.str text), some (.ref h.length), some (.str (Str.ofString "places")), some (.str (Str.ofString " ")), some (.str (nT 2)), some (.ref A.length), some (.ref nt), some (iN (a.length + 1)), some (rowD w)]) (h' := h3) (by simp only [drop_ap, ml_ap, var_ap, List.getElem?_cons_succ, List.getElem?_cons_zero, getV_some, R.bind_ok, mlK_ap l2, cons_ap, coK1_ap, nil_ap, coK2_ap, mlK2_ap l2, ap, SR.of_ok, drK_ap]) ?_
        simp only [set_ap, call_ap, cons_ap, fld_ap, op_ap, con_ap, var_ap, List.getElem?_cons_succ, List.getElem?_cons_zero, getV_some, R.bind_ok, opK_ap, sz, fAdd_ap, coK1_ap, nil_ap, coK2_ap, e2, w1, SR.of_ex, R.bind_ex])
  subst f2
  have ln := len_ref (lst_pre AB lA)
  rw [List.length_map, LL] at ln
  refine ⟨H, ?_, f3⟩
  refine sqf (ρ' := [some (.str text), some (.ref h.length), none, none, none, none, none, none, none]) (h' := A) (by simp [t1, sp]) ?_
  refine sqf (ρ' := [some (.str text), some (.ref h.length), some (.str (Str.ofString "places")), some (.str (Str.ofString " ")), some (.str (nT 2)), none, none, none, none]) (h' := A) (by simp [t2, pt]) ?_
  refine sqf (ρ' := [some (.str text), some (.ref h.length), some (.str (Str.ofString "places")), some (.str (Str.ofString " ")), some (.str (nT 2)), none, none, none, none]) (h' := A) (by simp [sne]) ?_
  refine sqf (ρ' := [some (.str text), some (.ref h.length), some (.str (Str.ofString "places")), some (.str (Str.ofString " ")), some (.str (nT 2)), some (.ref A.length), none, none, none]) (h' := A ++ [.lst []]) (by simp) ?_
  refine sqf (ρ' := [some (.str text), some (.ref h.length), some (.str (Str.ofString "places")), some (.str (Str.ofString " ")), some (.str (nT 2)), some (.ref A.length), some (.ref (A ++ [O.lst []]).length), none, none]) (h' := B) (by
    simp only [set_ap, call_ap, cons_ap, var_ap, con_ap, List.getElem?_cons_succ, List.getElem?_cons_zero, getV_some, R.bind_ok, coK1_ap, nil_ap, coK2_ap, n1, b1, SR.of_ok, seK_ap, List.set_cons_succ, List.set_cons_zero]) ?_
  refine sqx (ρ' := ρ') ?_
  have rg : rg2K2 (.int 1) (.int ((a.length + 1 + rest.length + 1 : Nat) : Int)) B = .ok (.rng 1 (a.length + 1 + rest.length)) B := rg2K2_nat (m := 1) (n := a.length + 1 + rest.length + 1) (by omega) (by omega)
  simp only [for_ap, rng2_ap, con_ap, R.bind_ok, rg2K_ap, call_ap, cons_ap, var_ap, List.getElem?_cons_succ, List.getElem?_cons_zero, getV_some, coK1_ap, nil_ap, coK2_ap, ln, rg, SR.of_ok]
  exact f1
end K11

set_option Elab.async false
set_option linter.all false
set_option autoImplicit false
set_option maxRecDepth 100000
set_option pp.maxSteps 60
set_option maxHeartbeats 4000000
namespace K11
open PySem PySem.Spec PyProof.Rows L2 DL
/-- a row's text, not too long -/
def Ln (s : Str) : Prop := 10 ∉ TL.tl s ∧ s.length ≤ 5000
instance (t : Str) : Decidable (Ln t) := by unfold Ln; infer_instance
def HeadBad (t : Str) : Prop := ∃ word blank number : Str, Txt.partition t (Str.ofString " ") = (word, blank, number) ∧ (word ≠ (Str.ofString "places" : Str) ∨ blank = (Str.ofString "" : Str) ∨ ∃ z : Int, ¬ (1 ≤ z ∧ z ≤ 8) ∧ ∀ h, F_number_in [.str number] h = .ok (.int z) h)
theorem long_ln : Ln longR := by
  refine ⟨?_, by rw [long_len]; decide⟩
  rw [TL.tl_append, nines_tl, zo_tl, List.mem_append]
  rintro (z | z)
  · revert z; decide
  · exact absurd (List.eq_of_mem_replicate z) (by decide)
def od0 : List Str := [Str.ofString "", Str.ofString "0-1", Str.ofString "0-1 ", Str.ofString " 0-1 1", Str.ofString "0-1  1", Str.ofString "0-1 1 ", Str.ofString "0 1 1", Str.ofString "0-0 1", Str.ofString "0-2 1", Str.ofString "2-0 1", Str.ofString "-1 1"]
def od1 : List Str := [Str.ofString "0- 1", Str.ofString "01-1 1"]
def od2 : List Str := [Str.ofString "0-1 0", Str.ofString "0-1 01", Str.ofString "0-1 1000000001", Str.ofString "0-1 2/4", Str.ofString "0-1 3/1", Str.ofString "0-1 1/1000000001"]
def od3 : List Str := [Str.ofString "0-1 1/0", Str.ofString "0-1 -1", Str.ofString "0-1 +1"]
def od4 : List Str := [Str.ofString "0-1\t1", Str.ofString "0-1 1\t", Str.ofString "x-1 1", Str.ofString "0-1 1.5"]
def od5 : List Str := [Str.ofString "0-1-1 1", Str.ofString "0-1 1/2/3", Str.ofString "0-1 /2", Str.ofString "0-1 1/"]
def odM : List Str := [Str.ofString "0-1 1/02", Str.ofString "0-01 1", Str.ofString "0-1 1_0", longR]
def odds : List Str := od0 ++ od1 ++ od2 ++ od3 ++ od4 ++ od5 ++ odM
theorem odds_len : odds.length = 34 := by rfl
theorem odds_bad : ∀ t ∈ odds, Ln t ∧ Spoilt t := by
  intro t ht
  have hm : t = (Str.ofString "") ∨ t = (Str.ofString "0-1") ∨ t = (Str.ofString "0-1 ") ∨ t = (Str.ofString " 0-1 1") ∨ t = (Str.ofString "0-1  1") ∨ t = (Str.ofString "0-1 1 ") ∨ t = (Str.ofString "0 1 1") ∨ t = (Str.ofString "0-0 1") ∨ t = (Str.ofString "0-2 1") ∨ t = (Str.ofString "2-0 1") ∨ t = (Str.ofString "-1 1") ∨ t = (Str.ofString "0- 1") ∨ t = (Str.ofString "01-1 1") ∨ t = (Str.ofString "0-1 0") ∨ t = (Str.ofString "0-1 01") ∨ t = (Str.ofString "0-1 1000000001") ∨ t = (Str.ofString "0-1 2/4") ∨ t = (Str.ofString "0-1 3/1") ∨ t = (Str.ofString "0-1 1/1000000001") ∨ t = (Str.ofString "0-1 1/0") ∨ t = (Str.ofString "0-1 -1") ∨ t = (Str.ofString "0-1 +1") ∨ t = (Str.ofString "0-1\t1") ∨ t = (Str.ofString "0-1 1\t") ∨ t = (Str.ofString "x-1 1") ∨ t = (Str.ofString "0-1 1.5") ∨ t = (Str.ofString "0-1-1 1") ∨ t = (Str.ofString "0-1 1/2/3") ∨ t = (Str.ofString "0-1 /2") ∨ t = (Str.ofString "0-1 1/") ∨ t = (Str.ofString "0-1 1/02") ∨ t = (Str.ofString "0-01 1") ∨ t = (Str.ofString "0-1 1_0") ∨ t = longR := by
    simpa [odds, od0, od1, od2, od3, od4, od5, odM] using ht
  rcases hm with rfl | rfl | rfl | rfl | rfl | rfl | rfl | rfl | rfl | rfl | rfl | rfl | rfl | rfl | rfl | rfl | rfl | rfl | rfl | rfl | rfl | rfl | rfl | rfl | rfl | rfl | rfl | rfl | rfl | rfl | rfl | rfl | rfl | rfl
  · exact ⟨by decide +kernel, .inl od_0⟩
  · exact ⟨by decide +kernel, .inl od_1⟩
  · exact ⟨by decide +kernel, .inl od_2⟩
  · exact ⟨by decide +kernel, .inl od_3⟩
  · exact ⟨by decide +kernel, .inl od_4⟩
  · exact ⟨by decide +kernel, .inl od_5⟩
  · exact ⟨by decide +kernel, .inl od_6⟩
  · exact ⟨by decide +kernel, .inr ⟨(0, 0, (⟨1, 1, by decide, by decide⟩ : Rat)), by unfold PipOk; decide, od_7⟩⟩
  · exact ⟨by decide +kernel, .inr ⟨(0, 2, (⟨1, 1, by decide, by decide⟩ : Rat)), by unfold PipOk; decide, od_8⟩⟩
  · exact ⟨by decide +kernel, .inr ⟨(2, 0, (⟨1, 1, by decide, by decide⟩ : Rat)), by unfold PipOk; decide, od_9⟩⟩
  · exact ⟨by decide +kernel, .inl od_10⟩
  · exact ⟨by decide +kernel, .inl od_11⟩
  · exact ⟨by decide +kernel, .inl od_12⟩
  · exact ⟨by decide +kernel, .inr ⟨(0, 1, (⟨0, 1, by decide, by decide⟩ : Rat)), by unfold PipOk; decide, od_13⟩⟩
  · exact ⟨by decide +kernel, .inl od_14⟩
  · exact ⟨by decide +kernel, .inr ⟨(0, 1, (⟨1000000001, 1, by decide, by decide⟩ : Rat)), by unfold PipOk; decide, od_15⟩⟩
  · exact ⟨by decide +kernel, .inl od_16⟩
  · exact ⟨by decide +kernel, .inl od_17⟩
  · exact ⟨by decide +kernel, .inr ⟨(0, 1, (⟨1, 1000000001, by decide, by decide⟩ : Rat)), by unfold PipOk; decide, od_18⟩⟩
  · exact ⟨by decide +kernel, .inl od_19⟩
  · exact ⟨by decide +kernel, .inl od_20⟩
  · exact ⟨by decide +kernel, .inl od_21⟩
  · exact ⟨by decide +kernel, .inl od_22⟩
  · exact ⟨by decide +kernel, .inl od_23⟩
  · exact ⟨by decide +kernel, .inl od_24⟩
  · exact ⟨by decide +kernel, .inl od_25⟩
  · exact ⟨by decide +kernel, .inl od_26⟩
  · exact ⟨by decide +kernel, .inl od_27⟩
  · exact ⟨by decide +kernel, .inl od_28⟩
  · exact ⟨by decide +kernel, .inl od_29⟩
  · exact ⟨by decide +kernel, .inl od_30⟩
  · exact ⟨by decide +kernel, .inl od_31⟩
  · exact ⟨by decide +kernel, .inl od_32⟩
  · exact ⟨long_ln, .inl od_long⟩
def hd0 : List Str := [Str.ofString "places", Str.ofString "places ", Str.ofString "places 0", Str.ofString "places 9", Str.ofString "places 02", Str.ofString "places x", Str.ofString "Places 2", Str.ofString " places 2", Str.ofString "places  2"]
def hd1 : List Str := [Str.ofString "places 2 ", Str.ofString "places\t2", Str.ofString "2", Str.ofString "places 2_"]
theorem heads_bad : ∀ t ∈ hd0 ++ hd1, Ln t ∧ HeadBad t := by
  intro t ht
  have hm : t = (Str.ofString "places") ∨ t = (Str.ofString "places ") ∨ t = (Str.ofString "places 0") ∨ t = (Str.ofString "places 9") ∨ t = (Str.ofString "places 02") ∨ t = (Str.ofString "places x") ∨ t = (Str.ofString "Places 2") ∨ t = (Str.ofString " places 2") ∨ t = (Str.ofString "places  2") ∨ t = (Str.ofString "places 2 ") ∨ t = (Str.ofString "places\t2") ∨ t = (Str.ofString "2") ∨ t = (Str.ofString "places 2_") := by
    simpa [hd0, hd1] using ht
  rcases hm with rfl | rfl | rfl | rfl | rfl | rfl | rfl | rfl | rfl | rfl | rfl | rfl | rfl
  · exact ⟨by decide +kernel, Str.ofString "places", Str.ofString "", Str.ofString "", by decide +kernel, .inr (.inl (by decide +kernel))⟩
  · exact ⟨by decide +kernel, Str.ofString "places", Str.ofString " ", Str.ofString "", by decide +kernel, .inr (.inr ⟨-1, by decide, (fun _ => x_no_number (by decide +kernel))⟩)⟩
  · exact ⟨by decide +kernel, Str.ofString "places", Str.ofString " ", Str.ofString "0", by decide +kernel, .inr (.inr ⟨0, by decide, (fun _ => x_num_at (n := 0) (by decide +kernel) (by decide))⟩)⟩
  · exact ⟨by decide +kernel, Str.ofString "places", Str.ofString " ", Str.ofString "9", by decide +kernel, .inr (.inr ⟨9, by decide, (fun _ => x_num_at (n := 9) (by decide +kernel) (by decide))⟩)⟩
  · exact ⟨by decide +kernel, Str.ofString "places", Str.ofString " ", Str.ofString "02", by decide +kernel, .inr (.inr ⟨-1, by decide, (fun _ => x_no_number (by decide +kernel))⟩)⟩
  · exact ⟨by decide +kernel, Str.ofString "places", Str.ofString " ", Str.ofString "x", by decide +kernel, .inr (.inr ⟨-1, by decide, (fun _ => x_no_number (by decide +kernel))⟩)⟩
  · exact ⟨by decide +kernel, Str.ofString "Places", Str.ofString " ", Str.ofString "2", by decide +kernel, .inl (by decide +kernel)⟩
  · exact ⟨by decide +kernel, Str.ofString "", Str.ofString " ", Str.ofString "places 2", by decide +kernel, .inl (by decide +kernel)⟩
  · exact ⟨by decide +kernel, Str.ofString "places", Str.ofString " ", Str.ofString " 2", by decide +kernel, .inr (.inr ⟨-1, by decide, (fun _ => x_no_number (by decide +kernel))⟩)⟩
  · exact ⟨by decide +kernel, Str.ofString "places", Str.ofString " ", Str.ofString "2 ", by decide +kernel, .inr (.inr ⟨-1, by decide, (fun _ => x_no_number (by decide +kernel))⟩)⟩
  · exact ⟨by decide +kernel, Str.ofString "places\t2", Str.ofString "", Str.ofString "", by decide +kernel, .inl (by decide +kernel)⟩
  · exact ⟨by decide +kernel, Str.ofString "2", Str.ofString "", Str.ofString "", by decide +kernel, .inl (by decide +kernel)⟩
  · exact ⟨by decide +kernel, Str.ofString "places", Str.ofString " ", Str.ofString "2_", by decide +kernel, .inr (.inr ⟨-1, by decide, (fun _ => x_no_number (by decide +kernel))⟩)⟩
theorem x_read_head {t text : Str} {rest : List Str} {h : Hv} (et : Txt.split text (Str.ofString "\n") = t :: rest) (tl : text.length ≤ cap) (lt : t.length ≤ cap) (bad : HeadBad t) :
    ∃ h', F_read [.str text] h = .ex (.row 16 1) h' ∧ h <+: h' := by
  obtain ⟨word, blank, number, pt, bad⟩ := bad
  have nl : ((Str.ofString "\n" : Str).length == 0) = false := by decide +kernel
  have bl : ((Str.ofString " " : Str).length == 0) = false := by decide +kernel
  have sp : DL.tSplit text (Str.ofString "\n") h = .ok (.ref h.length) (h ++ [.lst ((t :: rest).map D.str)]) := by
    unfold DL.tSplit
    rw [if_pos ⟨nl, tl⟩, et]
  have t1 : dT1 DL.tSplit (dVar 0) (dC (.str (Str.ofString "\n"))) [some (.str text), none, none, none, none, none, none, none, none] h = DL.tSplit text (Str.ofString "\n") h := t1_ap rfl rfl
  unfold F_read d_read
  rw [run_ap, if_pos (show [D.str text].length = 1 from rfl)]
  simp only [startD, N_read, List.map_cons, List.map_nil, List.length_cons, List.length_nil, Nat.zero_add, Nat.reduceAdd, Nat.reduceSub, List.replicate_succ, List.replicate_zero, List.cons_append, List.nil_append]
  generalize hA : h ++ [O.lst ((t :: rest).map D.str)] = A at sp
  have lA : lstAt A h.length = some ((t :: rest).map D.str) := by rw [← hA]; exact lst_new
  have hpA : h <+: A := by rw [← hA]; exact pre_app
  have x0 : ixV (lstAt A h.length) 0 A = .ok (.str t) A := by rw [lA]; exact ixV_0
  have pt : DL.tPart t (Str.ofString " ") A = .ok (.tup [.str word, .str blank, .str number]) A := by
    unfold DL.tPart
    rw [if_pos ⟨bl, lt⟩, pt]
  have t2 : dT1 DL.tPart (dIx (dVar 1) (dC (.int 0))) (dC (.str (Str.ofString " "))) [some (.str text), some (.ref h.length), none, none, none, none, none, none, none] A = DL.tPart t (Str.ofString " ") A := t1_ap (by simp [x0]) rfl
  have raises : word ≠ (Str.ofString "places" : Str) ∨ blank = (Str.ofString "" : Str) →
      (dIf (dOr (dB (dOp fNe (dVar 2) (dC (.str "places")))) (dB (dOp fEq (dVar 3) (dC (.str ""))))) (dRow 16 (dC (.int 1))) dNx) [some (.str text), some (.ref h.length), some (.str word), some (.str blank), some (.str number), none, none, none, none] A = .ex (.row 16 1) [some (.str text), some (.ref h.length), some (.str word), some (.str blank), some (.str number), none, none, none, none] A := fun z => by
    have r : ∀ (ρ : Sl) (h : Hv), dRow 16 (dC (.int 1)) ρ h = .ex (.row 16 1) ρ h := fun _ _ => row_ap (k := 1) rfl
    by_cases c : word = (Str.ofString "places" : Str)
    · have d : blank = (Str.ofString "" : Str) := z.elim (absurd c) id
      simp [c, d, r]
    · simp [c, r]
  by_cases q : word ≠ (Str.ofString "places" : Str) ∨ blank = (Str.ofString "" : Str)
  · refine ⟨A, ?_, hpA⟩
    refine sqf (ρ' := [some (.str text), some (.ref h.length), none, none, none, none, none, none, none]) (h' := A) (by simp [t1, sp]) ?_
    refine sqf (ρ' := [some (.str text), some (.ref h.length), some (.str word), some (.str blank), some (.str number), none, none, none, none]) (h' := A) (by simp [t2, pt]) ?_
    exact sqx (raises q)
  · obtain ⟨z, z1, z2⟩ : ∃ z : Int, ¬ (1 ≤ z ∧ z ≤ 8) ∧ ∀ h, F_number_in [.str number] h = .ok (.int z) h := by
      rcases bad with b | b | b
      · exact absurd (.inl b) q
      · exact absurd (.inr b) q
      · exact b
    have c1 : word = (Str.ofString "places" : Str) := Classical.byContradiction fun c => q (.inl c)
    have c2 : ¬ blank = (Str.ofString "" : Str) := fun c => q (.inr c)
    have w1 := x_net_of_bad (k := 1) (x_make_no (h := A ++ [.lst []]) (q := .ref A.length) z1)
    refine ⟨_, ?_, (hpA.trans (pre_app (t := [.lst []]))).trans (pre_app (t := [.ins 0 []]))⟩
    refine sqf (ρ' := [some (.str text), some (.ref h.length), none, none, none, none, none, none, none]) (h' := A) (by simp [t1, sp]) ?_
    refine sqf (ρ' := [some (.str text), some (.ref h.length), some (.str word), some (.str blank), some (.str number), none, none, none, none]) (h' := A) (by simp [t2, pt]) ?_
    refine sqf (ρ' := [some (.str text), some (.ref h.length), some (.str word), some (.str blank), some (.str number), none, none, none, none]) (h' := A) (by simp [c1, c2]) ?_
    refine sqf (ρ' := [some (.str text), some (.ref h.length), some (.str word), some (.str blank), some (.str number), some (.ref A.length), none, none, none]) (h' := A ++ [.lst []]) (by simp) ?_
    refine sqx (ρ' := [some (.str text), some (.ref h.length), some (.str word), some (.str blank), some (.str number), some (.ref A.length), none, none, none]) ?_
    simp only [set_ap, call_ap, cons_ap, var_ap, con_ap, List.getElem?_cons_succ, List.getElem?_cons_zero, getV_some, R.bind_ok, coK1_ap, nil_ap, coK2_ap, z2, w1, SR.of_ex]
theorem x_refused_bad {text : Str} {k : Int} {h h' : Hv} (e : F_read [.str text] h = .ex (.row 16 k) h') : ∃ h2, F_law_refused [.str text] h = .ok (.int k) h2 ∧ h' <+: h2 := by
  have hn : hn_law_refused k h' = .rt (.int k) (h' ++ [.lst [.bl false, .bl false, .bl false], .lst [.bl false, .bl false], .lst [.bl false, .bl false, .bl false, .bl false, .bl false]]) := by
    unfold hn_law_refused hs_law_refused
    exact refS2_is (by decide) (by decide) (by decide)
  refine ⟨h' ++ [.lst [.bl false, .bl false, .bl false], .lst [.bl false, .bl false], .lst [.bl false, .bl false, .bl false, .bl false, .bl false]], ?_, pre_app⟩
  unfold F_law_refused d_law_refused
  rw [run_ap, if_pos (show [D.str text].length = 1 from rfl)]
  have b : dDrop (dCall F_read (aCons (dVar 0) aNil)) (startD N_law_refused [.str text]) h = .ex (.row 16 k) [some (.str text), none, none] h' := by
    simp only [startD, N_law_refused, List.map_cons, List.map_nil, List.length_cons, List.length_nil, Nat.zero_add, Nat.reduceAdd, Nat.reduceSub, List.replicate_succ, List.replicate_zero, List.cons_append, List.nil_append, drop_ap, call_ap, cons_ap, var_ap, List.getElem?_cons_zero, getV_some, R.bind_ok, coK1_ap, nil_ap, coK2_ap, e, SR.of_ex]
  have c : dTryC 16 (dDrop (dCall F_read (aCons (dVar 0) aNil))) hn_law_refused (startD N_law_refused [.str text]) h = .rt (.int k) (h' ++ [.lst [.bl false, .bl false, .bl false], .lst [.bl false, .bl false], .lst [.bl false, .bl false, .bl false, .bl false, .bl false]]) := by
    unfold dTryC
    rw [b]
    exact hn
  rw [seq_ap, c, SR.seq_rt]; rfl
theorem x_refused_ok {text : Str} {x : D} {h h' : Hv} (e : F_read [.str text] h = .ok x h') : F_law_refused [.str text] h = .ok (.int 0) h' := by
  unfold F_law_refused d_law_refused
  rw [run_ap, if_pos (show [D.str text].length = 1 from rfl)]
  have b : dDrop (dCall F_read (aCons (dVar 0) aNil)) (startD N_law_refused [.str text]) h = .nx [some (.str text), none, none] h' := by
    simp only [startD, N_law_refused, List.map_cons, List.map_nil, List.length_cons, List.length_nil, Nat.zero_add, Nat.reduceAdd, Nat.reduceSub, List.replicate_succ, List.replicate_zero, List.cons_append, List.nil_append, drop_ap, call_ap, cons_ap, var_ap, List.getElem?_cons_zero, getV_some, R.bind_ok, coK1_ap, nil_ap, coK2_ap, e, SR.of_ok, drK_ap]
  have c : dTryC 16 (dDrop (dCall F_read (aCons (dVar 0) aNil))) hn_law_refused (startD N_law_refused [.str text]) h = .nx [some (.str text), none, none] h' := by
    unfold dTryC
    rw [b]
  rw [seq_ap, c, SR.seq_nx]; rfl
/-! ### joined rows -/
theorem lines {L : List Str} (ne : L ≠ []) (hl : L.length ≤ 100) (ln : ∀ s ∈ L, Ln s) :
    (L.map (·.length)).sum + L.length * (Str.ofString "\n" : Str).length ≤ cap ∧ Txt.split (Txt.join (Str.ofString "\n") L) (Str.ofString "\n") = L ∧ (Txt.join (Str.ofString "\n") L).length ≤ cap := by
  have l1 : (Str.ofString "\n" : Str).length = 1 := by decide +kernel
  have key : ∀ l : List Str, (∀ s ∈ l, Ln s) → (l.map (·.length)).sum ≤ 5000 * l.length := fun l => by
    induction l with
    | nil => intro _; simp
    | cons r l ih =>
      intro h
      have := (h r (by simp)).2
      have := ih (fun w hw => h w (List.mem_cons_of_mem _ hw))
      simp only [List.map_cons, List.sum_cons, List.length_cons]
      omega
  have k := key L ln
  have s : (L.map (·.length)).sum + L.length * (Str.ofString "\n" : Str).length ≤ cap := by
    rw [l1]; unfold cap; omega
  have j : ∀ (y : Str) (l : List Str), (Str.join y l).length ≤ (l.map (·.length)).sum + l.length * y.length := fun y l => by
    rw [TL.len_tl, TL.tl_join]
    induction l with
    | nil => simp [TL.joinL]
    | cons a r ih =>
      cases r with
      | nil => simp [TL.joinL, TL.len_tl]
      | cons b r =>
        have e : TL.joinL (TL.tl y) ((a :: b :: r).map TL.tl) = TL.tl a ++ (TL.tl y ++ TL.joinL (TL.tl y) ((b :: r).map TL.tl)) := rfl
        rw [e, List.length_append, List.length_append, ← TL.len_tl, ← TL.len_tl]
        simp only [List.map_cons, List.sum_cons, List.length_cons] at ih ⊢
        have : (r.length + 1 + 1) * y.length = (r.length + 1) * y.length + y.length := Nat.succ_mul _ _
        omega
  refine ⟨s, TL.split_join newl (by decide +kernel) ne fun t ht => (ln t ht).1, ?_⟩
  rw [TL.join_eq]
  exact Nat.le_trans (j _ _) s
theorem join_ap {L : List Str} {o e : DE} {ρ : Sl} {h h' : Hv} {n : Nat} (h1 : o ρ h = .ok (.str (Str.ofString "\n")) h) (h2 : e ρ h = .ok (.ref n) h') (l : lstAt h' n = some (L.map D.str)) (c : (L.map (·.length)).sum + L.length * (Str.ofString "\n" : Str).length ≤ cap) :
    dJoin o e ρ h = .ok (.str (Txt.join (Str.ofString "\n") L)) h' := by
  have so : ∀ ys : List Str, strsOf (ys.map D.str) = some ys := fun ys => by
    induction ys with
    | nil => rfl
    | cons y r ih => rw [List.map_cons, strsOf, ih]; rfl
  unfold dJoin
  rw [h1]
  simp only [R.bind_ok, h2, l, so]
  rw [if_pos c]
theorem pl_ln : Ln (plT 2) := by decide +kernel
theorem rT_ln {r : Pip} (ok : PipOk 2 r) : Ln (rT r) := by
  refine ⟨?_, Nat.le_trans (rT_len (by have := ok.1; omega) (by have := ok.2.1; omega) ok.2.2.2.1 (by have := ok.2.2.2.2.1; omega) (by have := ok.2.2.2.2.2; omega)) (by decide)⟩
  rw [rT_tl]
  simp only [List.mem_append, List.mem_singleton, not_or]
  exact ⟨⟨⟨⟨TL.numL_free (by decide), by decide⟩, TL.numL_free (by decide)⟩, by decide⟩, fT_free (by decide)⟩
theorem ref_bad {a : List Pip} {t : Str} {rest L : List Str} {h : Hv} (eL : L = plT 2 :: (a.map rT ++ t :: rest)) (lt : Ln t) (lr : ∀ s ∈ rest, Ln s) (hr : rest.length ≤ 50) (hl : a.length ≤ 28) (ok : ∀ w ∈ a, PipOk 2 w)
    (bad : (∀ h, ∃ h', F_pipe_in [.str t] h = .ok .non h' ∧ h <+: h') ∨ ∃ w : Pip, (¬ PipOk 2 w ∨ a.length = 28) ∧ ∀ h, ∃ h', F_pipe_in [.str t] h = .ok (rowD w) h' ∧ h <+: h') :
    ((L.map (·.length)).sum + L.length * (Str.ofString "\n" : Str).length ≤ cap) ∧ ∃ h2, F_law_refused [.str (Txt.join (Str.ofString "\n") L)] h = .ok (.int ((a.length + 2 : Nat) : Int)) h2 ∧ h <+: h2 := by
  subst eL
  obtain ⟨l1, l2, l3⟩ := lines (L := plT 2 :: (a.map rT ++ t :: rest)) (by simp) (by simp; omega) (fun s hs => by
    simp only [List.mem_cons, List.mem_append, List.mem_map] at hs
    rcases hs with rfl | ⟨r, hr, rfl⟩ | rfl | hs
    · exact pl_ln
    · exact rT_ln (ok r hr)
    · exact lt
    · exact lr s hs)
  obtain ⟨h', e1, e2⟩ := x_read_bad (h := h) l2 l3 (by omega) hl ok bad
  obtain ⟨h2, e3, e4⟩ := x_refused_bad e1
  exact ⟨l1, h2, e3, e2.trans e4⟩
theorem ref_head {t : Str} {rest L : List Str} {h : Hv} (eL : L = t :: rest) (lt : Ln t) (lr : ∀ s ∈ rest, Ln s) (hr : rest.length ≤ 50) (bad : HeadBad t) :
    ((L.map (·.length)).sum + L.length * (Str.ofString "\n" : Str).length ≤ cap) ∧ ∃ h2, F_law_refused [.str (Txt.join (Str.ofString "\n") L)] h = .ok (.int 1) h2 ∧ h <+: h2 := by
  subst eL
  obtain ⟨l1, l2, l3⟩ := lines (L := t :: rest) (by simp) (by simp; omega) (fun s hs => by
    rcases List.mem_cons.mp hs with rfl | hs
    · exact lt
    · exact lr s hs)
  obtain ⟨h', e1, e2⟩ := x_read_head (h := h) l2 l3 (Nat.le_trans lt.2 (by decide)) bad
  obtain ⟨h2, e3, e4⟩ := x_refused_bad e1
  exact ⟨l1, h2, e3, e2.trans e4⟩
theorem ref_good {a : List Pip} {L : List Str} {h : Hv} (eL : L = plT 2 :: a.map rT) (hl : a.length ≤ 28) (ok : ∀ w ∈ a, PipOk 2 w) :
    ((L.map (·.length)).sum + L.length * (Str.ofString "\n" : Str).length ≤ cap) ∧ ∃ h2, F_law_refused [.str (Txt.join (Str.ofString "\n") L)] h = .ok (.int 0) h2 ∧ h <+: h2 := by
  subst eL
  obtain ⟨l1, l2, l3⟩ := lines (L := plT 2 :: a.map rT) (by simp) (by simp; omega) (fun s hs => by
    simp only [List.mem_cons, List.mem_map] at hs
    rcases hs with rfl | ⟨r, hr, rfl⟩
    · exact pl_ln
    · exact rT_ln (ok r hr))
  obtain ⟨h2, n, e1, e2, _⟩ := x_read (p := 2) (rows := a) (h := h) (by decide) (by decide) hl ok l3
  exact ⟨l1, h2, x_refused_ok e1, e2⟩
end K11

set_option Elab.async false
set_option linter.all false
set_option autoImplicit false
set_option maxRecDepth 100000
set_option pp.maxSteps 60
set_option maxHeartbeats 4000000
namespace K11
open PySem PySem.Spec PyProof.Rows L2 DL
theorem cut_to {xs : List D} {k : Nat} (h : k ≤ xs.length) : DL.cutD xs none (some (k : Int)) = xs.take k := by
  unfold DL.cutD
  rw [HT.sIx_none, HT.sIx_nat, List.drop_zero, Nat.sub_zero, Nat.min_eq_left h]
theorem cut_from {xs : List D} {k : Nat} (h : k ≤ xs.length) : DL.cutD xs (some (k : Int)) none = xs.drop k := by
  unfold DL.cutD
  rw [HT.sIx_none, HT.sIx_nat, Nat.min_eq_left h, List.take_of_length_le (by simp)]
theorem str_nat {n : Nat} {h : Hv} (hn : n < 10 ^ 10) : bStr [.int (n : Int)] h = .ok (.str (nT n)) h := by
  show (if ((n : Int)).natAbs.log2 < 1920 then R.ok (D.str (toString ((n : Nat) : Int))) h else R.no) = _
  rw [if_pos (log_lt (n := 1920) (Nat.lt_of_lt_of_le (by rw [Int.natAbs_natCast]; exact hn) (by decide : 10 ^ 10 ≤ 2 ^ 1920)) (by decide))]
theorem add_str {a b : Str} {h : Hv} (c : a.length + b.length ≤ cap) : fAdd (.str a) (.str b) h = .ok (.str (a ++ b)) h := by
  show (if a.length + b.length ≤ cap then R.ok (D.str (a ++ b)) h else R.no) = _
  rw [if_pos c]
theorem len_add (a b : Str) : (a ++ b).length = a.length + b.length := by
  rw [TL.len_tl, TL.tl_append, List.length_append, ← TL.len_tl, ← TL.len_tl]
theorem const_lst {ys : List Str} {h : Hv} (c : ys.length ≤ cap) : lsK (ys.map D.str) h = .ok (.ref h.length) (h ++ [.lst (ys.map D.str)]) := lsK_ap (by rw [List.length_map]; exact c)
/-- a list, and the same again and more -/
theorem add_lst {ρ : Sl} {h : Hv} {q : Nat} {xs ys : List Str} {dx dl : DE} (e : dx ρ h = .ok (.ref q) h) (l : lstAt h q = some (xs.map D.str)) (hd : ∀ h, dl ρ h = .ok (.ref h.length) (h ++ [.lst (ys.map D.str)])) (c : xs.length + ys.length ≤ cap) :
    ∃ h' q', dOp fAdd dx dl ρ h = .ok (.ref q') h' ∧ lstAt h' q' = some ((xs ++ ys).map D.str) ∧ h <+: h' := by
  have ad := add_ref (lst_pre (pre_app (t := [.lst (ys.map D.str)])) l) (lst_new (h := h) (xs := ys.map D.str)) (by simpa using c)
  refine ⟨h ++ [O.lst (ys.map D.str)] ++ [O.lst (xs.map D.str ++ ys.map D.str)], (h ++ [O.lst (ys.map D.str)]).length, ?_, ?_, pre_app.trans pre_app⟩
  · rw [op_ap, e, R.bind_ok, opK_ap, hd, R.bind_ok, ad]
  · rw [lst_new, List.map_append]
theorem more_any {N : Str} {h : Hv} (m : ∀ h, fMulS (.str (Str.ofString "9")) (.int 4000) h = .ok (.str N) h) (l : N.length ≤ 4000) :
    F_law_more [] h = .ok (.ref h.length) (h ++ [.lst [.str (Str.ofString "0-1 1/02"), .str (Str.ofString "0-01 1"), .str (Str.ofString "0-1 1_0"), .str ((Str.ofString "0-1 " : Str) ++ N)]]) := by
  have a : ∀ h, fAdd (.str (Str.ofString "0-1 ")) (.str N) h = .ok (.str ((Str.ofString "0-1 " : Str) ++ N)) h := fun h => by
    have l4 : (Str.ofString "0-1 " : Str).length = 4 := by decide +kernel
    exact add_str (by rw [l4]; unfold cap; omega)
  unfold F_law_more d_law_more
  rw [run_ap, if_pos (show ([] : List D).length = 0 from rfl)]
  generalize hs : (Str.ofString "0-1 " : Str) ++ N = S at *
  simp only [ret_ap, lst_ap, cons_ap, con_ap, R.bind_ok, coK1_ap, op_ap, opK_ap, m, a, nil_ap, coK2_ap]
  rw [lsK_ap (xs := [_, _, _, _]) (show (4 : Nat) ≤ cap by decide)]
  rfl
theorem x_law_more {h : Hv} : ∃ h' q, F_law_more [] h = .ok (.ref q) h' ∧ lstAt h' q = some (odM.map D.str) ∧ h <+: h' := by
  have m : ∀ h, fMulS (.str (Str.ofString "9")) (.int 4000) h = .ok (.str nines) h := fun h => by
    unfold fMulS
    have l1 : (Str.ofString "9" : Str).length = 1 := by decide +kernel
    exact if_pos ⟨by decide, by decide, by rw [l1]; decide⟩
  exact ⟨_, _, more_any m (by rw [nines_len]; exact Nat.le_refl _), lst_new, pre_app⟩
theorem x_law_bad_pipe {w : Nat} {h : Hv} (hw : w < 34) : ∃ h' t, F_law_bad_pipe [iN w] h = .ok (.str t) h' ∧ t ∈ odds ∧ h <+: h' := by
  unfold F_law_bad_pipe d_law_bad_pipe
  rw [run_ap, if_pos (show [iN w].length = 1 from rfl)]
  simp only [startD, N_law_bad_pipe, List.map_cons, List.map_nil, List.length_cons, List.length_nil, Nat.zero_add, Nat.reduceAdd, Nat.reduceSub, List.replicate_succ, List.replicate_zero, List.cons_append, List.nil_append]
  generalize hA : h ++ [O.lst (od0.map D.str)] = A
  have lA : lstAt A h.length = some (od0.map D.str) := by rw [← hA]; exact lst_new
  have pA : h <+: A := by rw [← hA]; exact pre_app
  obtain ⟨B, q1, b1, b2, b3⟩ := add_lst (ρ := [some (iN w), some (.ref h.length)]) (h := A) (dx := dVar 1) (ys := od1) (dl := dLst (aCons (dC (.str "0- 1")) (aCons (dC (.str "01-1 1")) aNil))) rfl lA (fun h => rfl) (by decide)
  obtain ⟨C, q2, c1, c2, c3⟩ := add_lst (ρ := [some (iN w), some (.ref q1)]) (h := B) (dx := dVar 1) (ys := od2) (dl := dLst (aCons (dC (.str "0-1 0")) (aCons (dC (.str "0-1 01")) (aCons (dC (.str "0-1 1000000001")) (aCons (dC (.str "0-1 2/4")) (aCons (dC (.str "0-1 3/1")) (aCons (dC (.str "0-1 1/1000000001")) aNil))))))) rfl b2 (fun h => rfl) (by decide)
  obtain ⟨E, q3, e1, e2, e3⟩ := add_lst (ρ := [some (iN w), some (.ref q2)]) (h := C) (dx := dVar 1) (ys := od3) (dl := dLst (aCons (dC (.str "0-1 1/0")) (aCons (dC (.str "0-1 -1")) (aCons (dC (.str "0-1 +1")) aNil)))) rfl c2 (fun h => rfl) (by decide)
  obtain ⟨G, q4, g1, g2, g3⟩ := add_lst (ρ := [some (iN w), some (.ref q3)]) (h := E) (dx := dVar 1) (ys := od4) (dl := dLst (aCons (dC (.str "0-1\t1")) (aCons (dC (.str "0-1 1\t")) (aCons (dC (.str "x-1 1")) (aCons (dC (.str "0-1 1.5")) aNil))))) rfl e2 (fun h => rfl) (by decide)
  obtain ⟨H, q5, h1, h2, h3⟩ := add_lst (ρ := [some (iN w), some (.ref q4)]) (h := G) (dx := dVar 1) (ys := od5) (dl := dLst (aCons (dC (.str "0-1-1 1")) (aCons (dC (.str "0-1 1/2/3")) (aCons (dC (.str "0-1 /2")) (aCons (dC (.str "0-1 1/")) aNil))))) rfl g2 (fun h => rfl) (by decide)
  obtain ⟨I, q6, i1, i2, i3⟩ := x_law_more (h := H)
  have ad := add_ref (lst_pre i3 h2) i2 (by simp only [List.length_map]; decide)
  have l : lstAt (I ++ [O.lst (odds.map D.str)]) I.length = some (odds.map D.str) := lst_new
  have gx : odds[w]? = some (odds[w]'(by rw [odds_len]; exact hw)) := List.getElem?_eq_getElem _
  have ix := ixV_ref (i := w) (y := .str (odds[w]'(by rw [odds_len]; exact hw))) l (by rw [List.getElem?_map, gx]; rfl)
  refine ⟨_, _, ?_, List.getElem_mem (by rw [odds_len]; exact hw), ((((((pA.trans b3).trans c3).trans e3).trans g3).trans h3).trans i3).trans (pre_app (t := [.lst (odds.map D.str)]))⟩
  refine sqf (ρ' := [some (iN w), some (.ref h.length)]) (h' := A) (by rw [← hA]; rfl) ?_
  refine sqf (ρ' := [some (iN w), some (.ref q1)]) (h' := B) (by rw [set_ap, b1]; rfl) ?_
  refine sqf (ρ' := [some (iN w), some (.ref q2)]) (h' := C) (by rw [set_ap, c1]; rfl) ?_
  refine sqf (ρ' := [some (iN w), some (.ref q3)]) (h' := E) (by rw [set_ap, e1]; rfl) ?_
  refine sqf (ρ' := [some (iN w), some (.ref q4)]) (h' := G) (by rw [set_ap, g1]; rfl) ?_
  rw [ret_ap, ix_ap, op_ap, h1, R.bind_ok, opK_ap, call_ap, nil_ap, R.bind_ok, i1, R.bind_ok, ad, R.bind_ok, opK_ap, var_ap]
  simp only [List.getElem?_cons_zero, getV_some, R.bind_ok, fIx_ref]
  rw [← List.map_append]
  rw [show (((((od0 ++ od1) ++ od2) ++ od3) ++ od4) ++ od5) ++ odM = odds from rfl, ix]
  rfl
theorem x_law_bad_head {w : Nat} {h : Hv} (hw : w < 13) : ∃ h' t, F_law_bad_head [iN w] h = .ok (.str t) h' ∧ t ∈ hd0 ++ hd1 ∧ h <+: h' := by
  unfold F_law_bad_head d_law_bad_head
  rw [run_ap, if_pos (show [iN w].length = 1 from rfl)]
  simp only [startD, N_law_bad_head, List.map_cons, List.map_nil, List.length_cons, List.length_nil, Nat.zero_add, Nat.reduceAdd, Nat.reduceSub, List.replicate_succ, List.replicate_zero, List.cons_append, List.nil_append]
  generalize hA : h ++ [O.lst (hd0.map D.str)] = A
  have lA : lstAt A h.length = some (hd0.map D.str) := by rw [← hA]; exact lst_new
  have pA : h <+: A := by rw [← hA]; exact pre_app
  obtain ⟨H, q5, h1, h2, h3⟩ := add_lst (ρ := [some (iN w), some (.ref h.length)]) (h := A) (dx := dVar 1) (ys := hd1) (dl := dLst (aCons (dC (.str "places 2 ")) (aCons (dC (.str "places\t2")) (aCons (dC (.str "2")) (aCons (dC (.str "places 2_")) aNil))))) rfl lA (fun h => rfl) (by decide)
  have hl : w < (hd0 ++ hd1).length := hw
  have gx : (hd0 ++ hd1)[w]? = some (hd0 ++ hd1)[w] := List.getElem?_eq_getElem hl
  have ix := ixV_ref (i := w) (y := .str (hd0 ++ hd1)[w]) h2 (by rw [List.getElem?_map, gx]; rfl)
  refine ⟨_, _, ?_, List.getElem_mem hl, pA.trans h3⟩
  refine sqf (ρ' := [some (iN w), some (.ref h.length)]) (h' := A) (by rw [← hA]; rfl) ?_
  rw [ret_ap, ix_ap, h1, R.bind_ok, opK_ap, var_ap]
  simp only [List.getElem?_cons_zero, getV_some, R.bind_ok, fIx_ref]
  rw [ix]
  rfl
/-! ### the rows drawn -/
def pipeK (cell : Int) (k : Nat) : Pip := (k % 2, 1 - k % 2, (((1 + drawM cell k 1000 : Nat) : Int) : Rat))
theorem int_rat (n : Int) : ((n : Rat)).num = n ∧ ((n : Rat)).den = 1 := ⟨rfl, rfl⟩
theorem pipeK_ok (cell : Int) (k : Nat) : PipOk 2 (pipeK cell k) := by
  have := drawM_lt (cell := cell) (k := k) (many := 1000) (by decide)
  have h2 : k % 2 < 2 := Nat.mod_lt _ (by decide)
  refine ⟨h2, show 1 - k % 2 < 2 by omega, show k % 2 ≠ 1 - k % 2 by omega, ?_, ?_, show (1 : Nat) ≤ 1000000000 by decide⟩
  · show 1 ≤ ((1 + drawM cell k 1000 : Nat) : Int); omega
  · show ((1 + drawM cell k 1000 : Nat) : Int) ≤ 1000000000; omega
theorem rT_int (a b n : Nat) : rT (a, b, (((n : Nat) : Int) : Rat)) = nT a ++ (Str.ofString "-" : Str) ++ nT b ++ (Str.ofString " " : Str) ++ nT n := by
  unfold rT
  have : fT (((n : Nat) : Int) : Rat) = nT n := by
    unfold fT
    rw [if_pos (show ((((n : Nat) : Int) : Rat)).den = 1 from rfl)]
    rfl
  rw [this]
theorem pipeK_rT (cell : Int) (k : Nat) : rT (pipeK cell k) = (if k % 2 = 0 then (Str.ofString "0-1 " : Str) else (Str.ofString "1-0 " : Str)) ++ nT (1 + drawM cell k 1000) := by
  unfold pipeK
  rw [rT_int]
  have : k % 2 = 0 ∨ k % 2 = 1 := by omega
  rcases this with z | z
  · rw [z, if_pos rfl, show nT 0 ++ (Str.ofString "-" : Str) ++ nT (1 - 0) ++ (Str.ofString " " : Str) = (Str.ofString "0-1 " : Str) from by decide +kernel]
  · rw [z, if_neg (by decide), show nT 1 ++ (Str.ofString "-" : Str) ++ nT (1 - 1) ++ (Str.ofString " " : Str) = (Str.ofString "1-0 " : Str) from by decide +kernel]
end K11

set_option Elab.async false
set_option linter.all false
set_option autoImplicit false
set_option maxRecDepth 100000
set_option pp.maxSteps 60
set_option maxHeartbeats 4000000
namespace K11
open PySem PySem.Spec PyProof.Rows L2 DL
theorem spoilt_or {a : List Pip} {t : Str} (s : Spoilt t) : (∀ h, ∃ h', F_pipe_in [.str t] h = .ok .non h' ∧ h <+: h') ∨ ∃ w : Pip, (¬ PipOk 2 w ∨ a.length = 28) ∧ ∀ h, ∃ h', F_pipe_in [.str t] h = .ok (rowD w) h' ∧ h <+: h' := by
  rcases s with s | ⟨w, w1, w2⟩
  · exact .inl s
  · exact .inr ⟨w, .inl w1, w2⟩
theorem what_ln : Ln (Str.ofString "what") := by decide +kernel
theorem put_in {a : List Pip} {t : Str} {p : Nat} (hp : 1 ≤ p) (hl : p ≤ a.length + 1) : ((plT 2 :: a.map rT).take p ++ [t]) ++ (plT 2 :: a.map rT).drop p = plT 2 :: ((a.take (p - 1)).map rT ++ t :: (a.drop (p - 1)).map rT) := by
  obtain ⟨q, rfl⟩ : ∃ q, p = q + 1 := ⟨p - 1, by omega⟩
  simp [List.map_take, List.map_drop]
theorem refD {e : DE} {ρ : Sl} {h h' : Hv} {n : Nat} {L : List Str} {r : Int} (h2e : e ρ h = .ok (.ref n) h') (l : lstAt h' n = some (L.map D.str))
    (R1 : ((L.map (·.length)).sum + L.length * (Str.ofString "\n" : Str).length ≤ cap) ∧ ∃ h2, F_law_refused [.str (Txt.join (Str.ofString "\n") L)] h' = .ok (.int r) h2 ∧ h' <+: h2) :
    ∃ h2, dCall F_law_refused (aCons (dJoin (dC (.str (Str.ofString "\n"))) e) aNil) ρ h = .ok (.int r) h2 ∧ h' <+: h2 := by
  obtain ⟨c, h2, r1, r2⟩ := R1
  refine ⟨h2, ?_, r2⟩
  rw [call_ap, cons_ap, join_ap (con_ap ..) h2e l c]
  simp only [R.bind_ok, coK1_ap, nil_ap, coK2_ap, r1]
theorem ref_if {E y : DE} {ρ : Sl} {h h2 : Hv} {r : Int} (e : E ρ h = .ok (.int r) h2) (y1 : y ρ h2 = .ok (.int r) h2) : dIf (dB (dOp fNe E y)) (dRet (dC (.bl false))) dNx ρ h = .nx ρ h2 := by
  simp [e, y1]
theorem cell_bits {ns : List Int} (hb : ∀ z ∈ ns, Builtin.Int.intBits z ≤ 1048576) (k : Nat) : (cellAt ns k).natAbs < 2 ^ 2000000 := by
  unfold cellAt
  rw [List.getD_eq_getElem?_getD]
  cases z : ns[k]? with
  | none => exact Nat.pow_pos (by decide)
  | some w => exact bits_pow (hb w (List.mem_of_getElem? z))
/-- one turn of the law's loop -/
theorem x_turn {ns : List Int} {a : List Pip} {l1 g k : Nat} {h : Hv} {o4 o5 o6 o7 : Option D} (hb : ∀ z ∈ ns, Builtin.Int.intBits z ≤ 1048576) (ok : ∀ w ∈ a, PipOk 2 w) (hl : a.length ≤ 4) (e1 : lstAt h l1 = some ((a.map rT).map D.str))
    (e2 : lstAt h g = some ((plT 2 :: a.map rT).map D.str)) (hk : k < 4) :
    ∃ o4' o5' o6' o7' h', (dSeq (dSet 4 (dOp fAdd (dCall F_law_cell_at (aCons (dVar 0) (aCons (dC (.int 1)) aNil))) (dOp fMul (dC (.int 7)) (dVar 2))))
      (dSeq (dSet 5 (dOp fAdd (dC (.int 1)) (dCall F_law_draw (aCons (dCall F_law_cell_at (aCons (dVar 0) (aCons (dC (.int 2)) aNil))) (aCons (dVar 2) (aCons (dCall bLen (aCons (dVar 3) aNil)) aNil))))))
      (dSeq (dSet 6 (dCall F_law_bad_pipe (aCons (dOp fMod (dVar 4) (dC (.int 34))) aNil)))
      (dSeq (dSet 7 (dOp fAdd (dOp fAdd (dSl (dVar 3) oNone (oSome (dVar 5))) (dLst (aCons (dVar 6) aNil))) (dSl (dVar 3) (oSome (dVar 5)) oNone)))
      (dSeq (dSet 7 (dOp fAdd (dVar 7) (dOp fMul (dLst (aCons (dC (.str "what")) aNil)) (dOp fMod (dOp fDiv (dVar 4) (dC (.int 34))) (dC (.int 2))))))
      (dSeq (dIf (dB (dOp fNe (dCall F_law_refused (aCons (dJoin (dC (.str "\n")) (dVar 7)) aNil)) (dOp fAdd (dVar 5) (dC (.int 1))))) (dRet (dC (.bl false))) dNx)
      (dSeq (dSet 6 (dCall F_law_bad_head (aCons (dOp fMod (dVar 4) (dC (.int 13))) aNil)))
      (dIf (dB (dOp fNe (dCall F_law_refused (aCons (dJoin (dC (.str "\n")) (dOp fAdd (dLst (aCons (dVar 6) aNil)) (dVar 1))) aNil)) (dC (.int 1)))) (dRet (dC (.bl false))) dNx)))))))) [some (.rol ns), some (.ref l1), some (iN k), some (.ref g), o4, o5, o6, o7, none] h
      = .nx [some (.rol ns), some (.ref l1), some (iN k), some (.ref g), o4', o5', o6', o7', none] h' ∧ h <+: h' := by
  have c1 : ∀ h, F_law_cell_at [.rol ns, .int 1] h = .ok (.int (cellAt ns 1)) h := fun h => x_law_cell_at (ns := ns) (k := 1) (h := h)
  have c2 : ∀ h, F_law_cell_at [.rol ns, .int 2] h = .ok (.int (cellAt ns 2)) h := fun h => x_law_cell_at (ns := ns) (k := 2) (h := h)
  have mc : mulC 7 (k : Int) = true := mulC_sm (pow_up (m := 3) (by decide) (by decide)) (pow_up (m := 3) (by omega) (by decide))
  generalize hc : cellAt ns 1 + 7 * (k : Int) = c at *
  obtain ⟨w, w1, w2⟩ := fmod_nat (a := c) (n := 34) (by decide)
  obtain ⟨v, v1, v2⟩ := fmod_nat (a := c) (n := 13) (by decide)
  obtain ⟨j, j1, j2⟩ := fmod_nat (a := c.fdiv 34) (n := 2) (by decide)
  rw [show ((34 : Nat) : Int) = 34 from rfl] at w2
  rw [show ((13 : Nat) : Int) = 13 from rfl] at v2
  rw [show ((2 : Nat) : Int) = 2 from rfl] at j2
  have dv : divC c 34 = true := small_div (by decide) (by decide)
  have dr := x_law_draw (k := k) (many := a.length + 1) (h := h) (cell_bits hb 2) (by omega) (by omega)
  have dl := drawM_lt (cell := cellAt ns 2) (k := k) (many := a.length + 1) (by omega)
  generalize drawM (cellAt ns 2) k (a.length + 1) = r at *
  have ln : bLen [.ref g] h = .ok (.int ((a.length + 1 : Nat) : Int)) h := by
    have := len_ref e2
    rw [List.length_map, List.length_cons, List.length_map] at this
    exact this
  obtain ⟨A, t, t1, t2, t3⟩ := x_law_bad_pipe (h := h) w1
  obtain ⟨tl, ts⟩ := odds_bad t t2
  generalize hp : 1 + r = p at *
  have hp1 : (1 : Int) + (r : Int) = (p : Int) := by omega
  have gA := lst_pre t3 e2
  have len : ((plT 2 :: a.map rT).map D.str).length = a.length + 1 := by simp
  -- the row put in
  have s1 : slK oNone (oSome (dVar 5)) [some (.rol ns), some (.ref l1), some (iN k), some (.ref g), some (.int c), some (iN p), some (.str t), o7, none] (.ref g) A = .ok (.ref A.length) (A ++ [.lst (((plT 2 :: a.map rT).map D.str).take p)]) := by
    unfold slK dSl oSome
    simp only [R.bind_ok, onone_ap, var_ap, List.getElem?_cons_succ, List.getElem?_cons_zero, getV_some, gA, cut_to (show p ≤ ((plT 2 :: a.map rT).map D.str).length by rw [len]; omega)]
  generalize hA1 : A ++ [O.lst (((plT 2 :: a.map rT).map D.str).take p)] = A1 at s1
  have pA1 : A <+: A1 := by rw [← hA1]; exact pre_app
  have lA1 : lstAt A1 A.length = some (((plT 2 :: a.map rT).map D.str).take p) := by rw [← hA1]; exact lst_new
  generalize hA2 : A1 ++ [O.lst [.str t]] = A2
  have pA2 : A1 <+: A2 := by rw [← hA2]; exact pre_app
  have lA2 : lstAt A2 A1.length = some [.str t] := by rw [← hA2]; exact lst_new
  have d1 := add_ref (lst_pre pA2 lA1) lA2 (by rw [List.length_take, len]; unfold cap; simp; omega)
  generalize hA3 : A2 ++ [O.lst (((plT 2 :: a.map rT).map D.str).take p ++ [.str t])] = A3 at d1
  have pA3 : A2 <+: A3 := by rw [← hA3]; exact pre_app
  have lA3 : lstAt A3 A2.length = some (((plT 2 :: a.map rT).map D.str).take p ++ [.str t]) := by rw [← hA3]; exact lst_new
  have gA3 := lst_pre ((pA1.trans pA2).trans pA3) gA
  have s2 : slK (oSome (dVar 5)) oNone [some (.rol ns), some (.ref l1), some (iN k), some (.ref g), some (.int c), some (iN p), some (.str t), o7, none] (.ref g) A3 = .ok (.ref A3.length) (A3 ++ [.lst (((plT 2 :: a.map rT).map D.str).drop p)]) := by
    unfold slK dSl oSome
    simp only [R.bind_ok, onone_ap, var_ap, List.getElem?_cons_succ, List.getElem?_cons_zero, getV_some, gA3, cut_from (show p ≤ ((plT 2 :: a.map rT).map D.str).length by rw [len]; omega)]
  generalize hA4 : A3 ++ [O.lst (((plT 2 :: a.map rT).map D.str).drop p)] = A4 at s2
  have pA4 : A3 <+: A4 := by rw [← hA4]; exact pre_app
  have lA4 : lstAt A4 A3.length = some (((plT 2 :: a.map rT).map D.str).drop p) := by rw [← hA4]; exact lst_new
  have d2 := add_ref (lst_pre pA4 lA3) lA4 (by rw [List.length_append, List.length_take, List.length_drop, len]; unfold cap; simp; omega)
  generalize hA5 : A4 ++ [O.lst (((plT 2 :: a.map rT).map D.str).take p ++ [.str t] ++ ((plT 2 :: a.map rT).map D.str).drop p)] = A5 at d2
  have pA5 : A4 <+: A5 := by rw [← hA5]; exact pre_app
  have lA5 : lstAt A5 A4.length = some (((plT 2 :: a.map rT).map D.str).take p ++ [.str t] ++ ((plT 2 :: a.map rT).map D.str).drop p) := by rw [← hA5]; exact lst_new
  -- and "what"
  generalize hA6 : A5 ++ [O.lst [.str (Str.ofString "what")]] = A6
  have pA6 : A5 <+: A6 := by rw [← hA6]; exact pre_app
  have lA6 : lstAt A6 A5.length = some [.str (Str.ofString "what")] := by rw [← hA6]; exact lst_new
  have mu := mul_ref (m := j) lA6 (by omega)
  generalize hA7 : A6 ++ [O.lst (List.replicate j (.str (Str.ofString "what")))] = A7 at mu
  have pA7 : A6 <+: A7 := by rw [← hA7]; exact pre_app
  have lA7 : lstAt A7 A6.length = some (List.replicate j (.str (Str.ofString "what"))) := by rw [← hA7]; exact lst_new
  have d3 := add_ref (lst_pre (pA6.trans pA7) lA5) lA7 (by rw [List.length_append, List.length_append, List.length_take, List.length_drop, len]; unfold cap; simp; omega)
  generalize hA8 : A7 ++ [O.lst (((plT 2 :: a.map rT).map D.str).take p ++ [.str t] ++ ((plT 2 :: a.map rT).map D.str).drop p ++ List.replicate j (.str (Str.ofString "what")))] = A8 at d3
  have pA8 : A7 <+: A8 := by rw [← hA8]; exact pre_app
  have lA8 : lstAt A8 A7.length = some ((plT 2 :: ((a.take (p - 1)).map rT ++ t :: ((a.drop (p - 1)).map rT ++ List.replicate j (Str.ofString "what")))).map D.str) := by
    rw [← hA8, lst_new]
    have := put_in (a := a) (t := t) (p := p) (by omega) (by omega)
    have h3 : (plT 2 :: ((a.take (p - 1)).map rT ++ t :: ((a.drop (p - 1)).map rT ++ List.replicate j (Str.ofString "what")))) = (plT 2 :: ((a.take (p - 1)).map rT ++ t :: (a.drop (p - 1)).map rT)) ++ List.replicate j (Str.ofString "what") := by simp
    rw [h3, ← this]
    simp only [List.map_append, List.map_take, List.map_drop, List.map_replicate, List.map_cons, List.map_nil]
  have R1 := ref_bad (a := a.take (p - 1)) (t := t) (rest := (a.drop (p - 1)).map rT ++ List.replicate j (Str.ofString "what")) (h := A8) rfl tl (fun s hs => by
    rw [List.mem_append, List.mem_map] at hs
    rcases hs with ⟨q, q1, rfl⟩ | hs
    · exact rT_ln (ok q (List.mem_of_mem_drop q1))
    · rw [List.eq_of_mem_replicate hs]; exact what_ln) (by simp; omega) (by simp; omega) (fun w hw => ok w (List.mem_of_mem_take hw)) (spoilt_or ts)
  have lt : (a.take (p - 1)).length + 2 = p + 1 := by rw [List.length_take]; omega
  rw [lt] at R1
  obtain ⟨B, b1, b2⟩ := refD (e := dVar 7) (ρ := [some (.rol ns), some (.ref l1), some (iN k), some (.ref g), some (.int c), some (iN p), some (.str t), some (.ref A7.length), none]) (h := A8) rfl lA8 R1
  obtain ⟨C, u, u1, u2, u3⟩ := x_law_bad_head (h := B) v1
  obtain ⟨ul, us⟩ := heads_bad u u2
  have hA8' : h <+: A8 := ((((((((t3.trans pA1).trans pA2).trans pA3).trans pA4).trans pA5).trans pA6).trans pA7).trans pA8)
  have hC : h <+: C := (hA8'.trans b2).trans u3
  generalize hC1 : C ++ [O.lst [.str u]] = C1
  have pC1 : C <+: C1 := by rw [← hC1]; exact pre_app
  have lC1 : lstAt C1 C.length = some [.str u] := by rw [← hC1]; exact lst_new
  have d4 := add_ref lC1 (lst_pre (hC.trans pC1) e1) (by simp; unfold cap; omega)
  generalize hC2 : C1 ++ [O.lst ([.str u] ++ (a.map rT).map D.str)] = C2 at d4
  have pC2 : C1 <+: C2 := by rw [← hC2]; exact pre_app
  have lC2 : lstAt C2 C1.length = some ((u :: a.map rT).map D.str) := by rw [← hC2, lst_new]; rfl
  have R2 := ref_head (t := u) (rest := a.map rT) (h := C2) rfl ul (fun s hs => by
    obtain ⟨q, q1, rfl⟩ := List.mem_map.mp hs
    exact rT_ln (ok q q1)) (by simp; omega) us
  have e8 : (dOp fAdd (dLst (aCons (dVar 6) aNil)) (dVar 1)) [some (.rol ns), some (.ref l1), some (iN k), some (.ref g), some (.int c), some (iN p), some (.str u), some (.ref A7.length), none] C = .ok (.ref C1.length) C2 := by
    simp only [op_ap, opK_ap, lst_ap, cons_ap, nil_ap, var_ap, List.getElem?_cons_succ, List.getElem?_cons_zero, getV_some, R.bind_ok, coK1_ap, coK2_ap, lsK1, hC1, d4]
  obtain ⟨E, f1, f2⟩ := refD e8 lC2 R2
  have i1 := ref_if (y := dOp fAdd (dVar 5) (dC (.int 1))) b1 (by
    simp only [op_ap, opK_ap, var_ap, con_ap, List.getElem?_cons_succ, List.getElem?_cons_zero, getV_some, R.bind_ok, fAdd_ap]; rfl)
  have i2 := ref_if (y := dC (.int 1)) f1 rfl
  refine ⟨some (.int c), some (iN p), some (.str u), some (.ref A7.length), E, ?_, ((hC.trans pC1).trans pC2).trans f2⟩
  refine sq (ρ' := [some (.rol ns), some (.ref l1), some (iN k), some (.ref g), some (.int c), o5, o6, o7, none]) (h' := h) (by
    simp only [set_ap, op_ap, opK_ap, call_ap, cons_ap, nil_ap, var_ap, con_ap, List.getElem?_cons_succ, List.getElem?_cons_zero, getV_some, R.bind_ok, coK1_ap, coK2_ap, c1, fMul_ap, mc, if_true, fAdd_ap, hc, SR.of_ok, seK_ap]; rfl) ?_
  refine sq (ρ' := [some (.rol ns), some (.ref l1), some (iN k), some (.ref g), some (.int c), some (iN p), o6, o7, none]) (h' := h) (by
    simp only [set_ap, op_ap, opK_ap, call_ap, cons_ap, nil_ap, var_ap, con_ap, List.getElem?_cons_succ, List.getElem?_cons_zero, getV_some, R.bind_ok, coK1_ap, coK2_ap, c2, ln, dr, fAdd_ap, hp1, SR.of_ok, seK_ap]; rfl) ?_
  refine sq (ρ' := [some (.rol ns), some (.ref l1), some (iN k), some (.ref g), some (.int c), some (iN p), some (.str t), o7, none]) (h' := A) (by
    simp only [set_ap, op_ap, opK_ap, call_ap, cons_ap, nil_ap, var_ap, con_ap, List.getElem?_cons_succ, List.getElem?_cons_zero, getV_some, R.bind_ok, coK1_ap, coK2_ap, fMod_ap, w2, ne_eq, Int.reduceEq, not_false_eq_true, if_true, t1, SR.of_ok, seK_ap]; rfl) ?_
  refine sq (ρ' := [some (.rol ns), some (.ref l1), some (iN k), some (.ref g), some (.int c), some (iN p), some (.str t), some (.ref A4.length), none]) (h' := A5) (by
    simp only [set_ap, op_ap, opK_ap, sl_ap, lst_ap, cons_ap, nil_ap, var_ap, con_ap, List.getElem?_cons_succ, List.getElem?_cons_zero, getV_some, R.bind_ok, coK1_ap, coK2_ap, s1, lsK1, hA2, d1, s2, d2, SR.of_ok, seK_ap]; rfl) ?_
  refine sq (ρ' := [some (.rol ns), some (.ref l1), some (iN k), some (.ref g), some (.int c), some (iN p), some (.str t), some (.ref A7.length), none]) (h' := A8) (by
    simp only [set_ap, op_ap, opK_ap, lst_ap, cons_ap, nil_ap, var_ap, con_ap, List.getElem?_cons_succ, List.getElem?_cons_zero, getV_some, R.bind_ok, coK1_ap, coK2_ap, lsK1, hA6, fDiv_ap, dv, if_true, fMod_ap, j2, ne_eq, Int.reduceEq, not_false_eq_true, mu, d3, SR.of_ok, seK_ap]; rfl) ?_
  refine sq i1 ?_
  refine sq (ρ' := [some (.rol ns), some (.ref l1), some (iN k), some (.ref g), some (.int c), some (iN p), some (.str u), some (.ref A7.length), none]) (h' := C) (by
    simp only [set_ap, op_ap, opK_ap, call_ap, cons_ap, nil_ap, var_ap, con_ap, List.getElem?_cons_succ, List.getElem?_cons_zero, getV_some, R.bind_ok, coK1_ap, coK2_ap, fMod_ap, v2, ne_eq, Int.reduceEq, not_false_eq_true, if_true, u1, SR.of_ok, seK_ap]; rfl) ?_
  exact i2
def pp1 : Pip := (0, 1, (((1 : Nat) : Int) : Rat))
theorem pp1_ok : PipOk 2 pp1 := by unfold pp1 PipOk; decide
theorem pp1_rT : rT pp1 = Str.ofString "0-1 1" := by unfold pp1; rw [rT_int]; decide +kernel
theorem many_is : Str.ofString "places 2" :: List.replicate 29 (Str.ofString "0-1 1") = plT 2 :: ((List.replicate 28 pp1).map rT ++ rT pp1 :: []) := by
  rw [show plT 2 = Str.ofString "places 2" by decide +kernel, List.map_replicate, pp1_rT]; rfl
theorem many_29 : (Str.ofString "places 2" :: List.replicate 29 (Str.ofString "0-1 1")).take 29 = plT 2 :: (List.replicate 28 pp1).map rT := by
  rw [show plT 2 = Str.ofString "places 2" by decide +kernel, List.map_replicate, pp1_rT]; rfl
theorem join_snoc {L : List Str} (ne : L ≠ []) : Txt.join (Str.ofString "\n") L ++ (Str.ofString "\n" : Str) = Txt.join (Str.ofString "\n") (L ++ [Str.ofString ""]) := by
  rw [TL.join_eq, TL.join_eq]
  apply TL.ext_tl
  rw [TL.tl_append, TL.tl_join, TL.tl_join]
  have key : ∀ (y : List Nat) (l : List (List Nat)), l ≠ [] → TL.joinL y l ++ y = TL.joinL y (l ++ [[]]) := fun y l => by
    induction l with
    | nil => intro c; exact absurd rfl c
    | cons a r ih =>
      intro _
      cases r with
      | nil => simp [TL.joinL]
      | cons b r =>
        have e : TL.joinL y (a :: b :: r) = a ++ (y ++ TL.joinL y (b :: r)) := rfl
        have e2 : TL.joinL y ((a :: b :: r) ++ [[]]) = a ++ (y ++ TL.joinL y ((b :: r) ++ [[]])) := rfl
        rw [e, e2, ← ih (by simp)]
        simp
  have := key (TL.tl (Str.ofString "\n")) (L.map TL.tl) (by simpa using ne)
  rw [this, List.map_append]
  rfl
theorem nil_head : Ln (Str.ofString "") ∧ HeadBad (Str.ofString "") := ⟨by decide +kernel, Str.ofString "", Str.ofString "", Str.ofString "", by decide +kernel, .inl (by decide +kernel)⟩
theorem nil_join : Txt.join (Str.ofString "\n") [Str.ofString ""] = Str.ofString "" := by decide +kernel
theorem law_true : ∀ ns : List Int, ns.length ≤ 63 → (∀ z ∈ ns, Builtin.Int.intBits z ≤ 1048576) → isT (F_law [.rol ns] []) := by
  intro ns _ hb
  obtain ⟨m, m5, me⟩ := fmod_nat (a := cellAt ns 0) (n := 5) (by decide)
  rw [show ((5 : Nat) : Int) = 5 from rfl] at me
  have c0 : ∀ h, F_law_cell_at [.rol ns, .int 0] h = .ok (.int (cellAt ns 0)) h := fun h => x_law_cell_at (ns := ns) (k := 0) (h := h)
  have b0 := cell_bits hb 0
  unfold F_law d_law
  rw [run_ap, if_pos (show [D.rol ns].length = 1 from rfl)]
  simp only [startD, N_law, List.map_cons, List.map_nil, List.length_cons, List.length_nil, Nat.zero_add, Nat.reduceAdd, Nat.reduceSub, List.replicate_succ, List.replicate_zero, List.cons_append, List.nil_append]
  refine isT_step (ρ' := [some (.rol ns), some (.ref 0), none, none, none, none, none, none, none]) (h' := [.lst []]) (by simp) ?_
  obtain ⟨ρ1, A, p1, ⟨o2, rfl⟩, p3⟩ := forK_fold (src := .rng 0 m) (t := gN 2) (b := dDrop (dMl mAppend (dVar 1) (aCons (dOp fAdd (dIx (dLst (aCons (dC (.str "0-1 ")) (aCons (dC (.str "1-0 ")) aNil))) (dOp fMod (dVar 2) (dC (.int 2)))) (dCall bStr (aCons (dOp fAdd (dC (.int 1)) (dCall F_law_draw (aCons (dCall F_law_cell_at (aCons (dVar 0) (aCons (dC (.int 0)) aNil))) (aCons (dVar 2) (aCons (dC (.int 1000)) aNil))))) aNil))) aNil)))
    (ρ := [some (.rol ns), some (.ref 0), none, none, none, none, none, none, none]) (h := [.lst []])
    (fun (l : List Str) ρ h' => (∃ o2, ρ = [some (.rol ns), some (.ref 0), o2, none, none, none, none, none, none]) ∧ lstAt h' 0 = some (l.map D.str))
    (fun l k => if l.length < 1000 then some (l ++ [rT (pipeK (cellAt ns 0) k)]) else none) iN (List.range m) (s0 := []) (s1 := (List.range m).map fun k => rT (pipeK (cellAt ns 0) k)) ⟨⟨_, rfl⟩, rfl⟩ (by simp [srcLen]) (by
        have key : ∀ (as : List Nat) (l : List Str), l.length + as.length ≤ 1000 → as.foldlM (fun (l : List Str) k => if l.length < 1000 then some (l ++ [rT (pipeK (cellAt ns 0) k)]) else none) l = some (l ++ as.map fun k => rT (pipeK (cellAt ns 0) k)) := by
          intro as
          induction as with
          | nil => intro l _; simp
          | cons a r ih =>
            intro l hl
            rw [List.length_cons] at hl
            rw [foldlM_none, if_pos (by omega), Option.bind_some, ih _ (by simp; omega)]
            simp
        have := key (List.range m) [] (by simp; omega)
        simpa using this)
    (fun _ _ _ _ _ => srcU0) (fun l k l' ρ h1 hk ⟨⟨o2, a1⟩, a2⟩ g => by
      subst a1
      have hk' := List.mem_range.mp hk
      by_cases cl : l.length < 1000
      · rw [if_pos cl] at g
        cases g
        generalize hA1 : h1 ++ [O.lst [.str (Str.ofString "0-1 "), .str (Str.ofString "1-0 ")]] = h2
        have pA : h1 <+: h2 := by rw [← hA1]; exact pre_app
        have lA : lstAt h2 h1.length = some [.str (Str.ofString "0-1 "), .str (Str.ofString "1-0 ")] := by rw [← hA1]; exact lst_new
        have f1 := x_law_draw (k := k) (many := 1000) (h := h2) b0 (by omega) (by decide)
        rw [show ((1000 : Nat) : Int) = 1000 from rfl] at f1
        have l3 := drawM_lt (cell := cellAt ns 0) (k := k) (many := 1000) (by decide)
        have k2 : ((k : Int)).fmod 2 = ((k % 2 : Nat) : Int) := by rw [Int.fmod_eq_emod_of_nonneg _ (by omega)]; rfl
        have ix := ixV_ref (i := k % 2) (y := .str (if k % 2 = 0 then (Str.ofString "0-1 " : Str) else (Str.ofString "1-0 " : Str))) lA (by
          have : k % 2 = 0 ∨ k % 2 = 1 := by omega
          rcases this with z | z <;> rw [z] <;> rfl)
        rw [pipeK_rT]
        have l4 : (if k % 2 = 0 then (Str.ofString "0-1 " : Str) else (Str.ofString "1-0 " : Str)).length = 4 := by
          by_cases z : k % 2 = 0
          · rw [if_pos z]; decide +kernel
          · rw [if_neg z]; decide +kernel
        generalize (if k % 2 = 0 then (Str.ofString "0-1 " : Str) else (Str.ofString "1-0 " : Str)) = s at *
        generalize drawM (cellAt ns 0) k 1000 = r at *
        have st := str_nat (n := 1 + r) (h := h2) (by omega)
        rw [show (((1 + r : Nat)) : Int) = 1 + (r : Int) from by omega] at st
        have nl := (num_len (n := 1 + r) (by omega)).2
        have ad := add_str (a := s) (b := nT (1 + r)) (h := h2) (by unfold cap; omega)
        have lz := lst_pre pA a2
        have ap := append_ap (h := h2) (n := 0) (ys := l.map D.str) (y := .str (s ++ nT (1 + r))) (by rw [List.length_map]; unfold cap; omega)
        refine ⟨_, [some (.rol ns), some (.ref 0), some (iN k), none, none, none, none, none, none], h2.set 0 (.lst (l.map D.str ++ [.str (s ++ nT (1 + r))])), rfl, ?_, ⟨_, rfl⟩, ?_⟩
        · simp only [drop_ap, ml_ap, mlK_ap a2, cons_ap, nil_ap, op_ap, opK_ap, ix_ap, lst_ap, call_ap, var_ap, con_ap, List.getElem?_cons_succ, List.getElem?_cons_zero, List.set_cons_succ, List.set_cons_zero, getV_some, R.bind_ok, coK1_ap, coK2_ap, lsK2, hA1, fMod_ap, ne_eq, Int.reduceEq, not_false_eq_true, if_true, k2, fIx_ref, ix, c0, f1, fAdd_ap, st, ad, mlK2_ap lz, ap]
          rfl
        · rw [lst_set_eq (lst_lt lz)]; simp
      · rw [if_neg cl] at g; cases g)
  have hm : ((List.range m).map fun k => rT (pipeK (cellAt ns 0) k)) = ((List.range m).map (pipeK (cellAt ns 0))).map rT := by rw [List.map_map]; rfl
  rw [hm] at p3
  have ok : ∀ w ∈ (List.range m).map (pipeK (cellAt ns 0)), PipOk 2 w := fun w hw => by
    obtain ⟨k, _, rfl⟩ := List.mem_map.mp hw
    exact pipeK_ok _ _
  have hl : ((List.range m).map (pipeK (cellAt ns 0))).length ≤ 4 := by simp; omega
  generalize (List.range m).map (pipeK (cellAt ns 0)) = a at *
  refine isT_step (ρ' := [some (.rol ns), some (.ref 0), o2, none, none, none, none, none, none]) (h' := A) (by
    have rg : rgK (.int (m : Int)) [.lst []] = .ok (.rng 0 m) [.lst []] := rgK_nat (by omega)
    have e0 : (dOp fMod (dCall F_law_cell_at (aCons (dVar 0) (aCons (dC (.int 0)) aNil))) (dC (.int 5))) [some (.rol ns), some (.ref 0), none, none, none, none, none, none, none] [.lst []] = .ok (.int (m : Int)) [.lst []] := by
      simp only [op_ap, opK_ap, call_ap, cons_ap, nil_ap, var_ap, con_ap, List.getElem?_cons_succ, List.getElem?_cons_zero, getV_some, R.bind_ok, coK1_ap, coK2_ap, c0, fMod_ap, me, ne_eq, Int.reduceEq, not_false_eq_true, if_true]
    rw [for_ap, rng1_ap, e0, R.bind_ok, rg, SR.of_ok]
    exact p1) ?_
  -- the good rows
  generalize hA1 : A ++ [O.lst [.str (Str.ofString "places 2")]] = A1
  have pA1 : A <+: A1 := by rw [← hA1]; exact pre_app
  have lA1 : lstAt A1 A.length = some [.str (Str.ofString "places 2")] := by rw [← hA1]; exact lst_new
  have d1 := add_ref lA1 (lst_pre pA1 p3) (by simp; unfold cap; omega)
  generalize hA2 : A1 ++ [O.lst ([.str (Str.ofString "places 2")] ++ (a.map rT).map D.str)] = A2 at d1
  have pA2 : A1 <+: A2 := by rw [← hA2]; exact pre_app
  have lA2 : lstAt A2 A1.length = some ((plT 2 :: a.map rT).map D.str) := by rw [← hA2, lst_new, show plT 2 = Str.ofString "places 2" by decide +kernel]; rfl
  refine isT_step (ρ' := [some (.rol ns), some (.ref 0), o2, some (.ref A1.length), none, none, none, none, none]) (h' := A2) (by
    simp only [set_ap, op_ap, opK_ap, lst_ap, cons_ap, nil_ap, var_ap, con_ap, List.getElem?_cons_succ, List.getElem?_cons_zero, getV_some, R.bind_ok, coK1_ap, coK2_ap, lsK1, hA1, d1, SR.of_ok, seK_ap]; rfl) ?_
  obtain ⟨B, b1, b2⟩ := refD (e := dVar 3) (ρ := [some (.rol ns), some (.ref 0), o2, some (.ref A1.length), none, none, none, none, none]) (h := A2) rfl lA2 (ref_good rfl (by omega) ok)
  refine isT_step (ref_if (y := dC (.int 0)) b1 rfl) ?_
  have pB := lst_pre ((pA1.trans pA2).trans b2) p3
  have gB := lst_pre b2 lA2
  -- the loop of four
  obtain ⟨ρ2, C, q1, ⟨⟨o2', o4, o5, o6, o7, rfl⟩, q3⟩⟩ := forK_fold (src := .rng 0 4) (t := gN 2) (h := B)
    (ρ := [some (.rol ns), some (.ref 0), o2, some (.ref A1.length), none, none, none, none, none]) (b := dSeq (dSet 4 (dOp fAdd (dCall F_law_cell_at (aCons (dVar 0) (aCons (dC (.int 1)) aNil))) (dOp fMul (dC (.int 7)) (dVar 2))))
      (dSeq (dSet 5 (dOp fAdd (dC (.int 1)) (dCall F_law_draw (aCons (dCall F_law_cell_at (aCons (dVar 0) (aCons (dC (.int 2)) aNil))) (aCons (dVar 2) (aCons (dCall bLen (aCons (dVar 3) aNil)) aNil))))))
      (dSeq (dSet 6 (dCall F_law_bad_pipe (aCons (dOp fMod (dVar 4) (dC (.int 34))) aNil)))
      (dSeq (dSet 7 (dOp fAdd (dOp fAdd (dSl (dVar 3) oNone (oSome (dVar 5))) (dLst (aCons (dVar 6) aNil))) (dSl (dVar 3) (oSome (dVar 5)) oNone)))
      (dSeq (dSet 7 (dOp fAdd (dVar 7) (dOp fMul (dLst (aCons (dC (.str "what")) aNil)) (dOp fMod (dOp fDiv (dVar 4) (dC (.int 34))) (dC (.int 2))))))
      (dSeq (dIf (dB (dOp fNe (dCall F_law_refused (aCons (dJoin (dC (.str "\n")) (dVar 7)) aNil)) (dOp fAdd (dVar 5) (dC (.int 1))))) (dRet (dC (.bl false))) dNx)
      (dSeq (dSet 6 (dCall F_law_bad_head (aCons (dOp fMod (dVar 4) (dC (.int 13))) aNil)))
      (dIf (dB (dOp fNe (dCall F_law_refused (aCons (dJoin (dC (.str "\n")) (dOp fAdd (dLst (aCons (dVar 6) aNil)) (dVar 1))) aNil)) (dC (.int 1)))) (dRet (dC (.bl false))) dNx))))))))
    (fun (_ : Unit) ρ h' => (∃ o2 o4 o5 o6 o7, ρ = [some (.rol ns), some (.ref 0), o2, some (.ref A1.length), o4, o5, o6, o7, none]) ∧ B <+: h')
    (fun _ _ => some ()) iN (List.range 4) (s0 := ()) (s1 := ()) ⟨⟨_, _, _, _, _, rfl⟩, List.prefix_refl _⟩ (by simp [srcLen]) rfl
    (fun _ _ _ _ _ => srcU0) (fun _ k _ ρ h1 hk ⟨⟨o2, o4, o5, o6, o7, a1⟩, a2⟩ _ => by
      subst a1
      obtain ⟨o4', o5', o6', o7', h', t1, t2⟩ := x_turn (o4 := o4) (o5 := o5) (o6 := o6) (o7 := o7) hb ok hl (lst_pre a2 pB) (lst_pre a2 gB) (List.mem_range.mp hk)
      exact ⟨_, _, _, rfl, t1, ⟨_, _, _, _, _, rfl⟩, a2.trans t2⟩)
  refine isT_step (ρ' := [some (.rol ns), some (.ref 0), o2', some (.ref A1.length), o4, o5, o6, o7, none]) (h' := C) (by
    have rg : rgK (.int 4) B = .ok (.rng 0 4) B := rgK_nat (n := 4) (by decide)
    rw [for_ap, rng1_ap, con_ap, R.bind_ok, rg, SR.of_ok]
    exact q1) ?_
  have gC := lst_pre q3 gB
  -- twenty-nine
  generalize hC1 : C ++ [O.lst [.str (Str.ofString "places 2")]] = C1
  have pC1 : C <+: C1 := by rw [← hC1]; exact pre_app
  have lC1 : lstAt C1 C.length = some [.str (Str.ofString "places 2")] := by rw [← hC1]; exact lst_new
  generalize hC2 : C1 ++ [O.lst [.str (Str.ofString "0-1 1")]] = C2
  have pC2 : C1 <+: C2 := by rw [← hC2]; exact pre_app
  have lC2 : lstAt C2 C1.length = some [.str (Str.ofString "0-1 1")] := by rw [← hC2]; exact lst_new
  have mu := mul_ref (m := 29) lC2 (by decide)
  rw [show ((29 : Nat) : Int) = 29 from rfl] at mu
  generalize hC3 : C2 ++ [O.lst (List.replicate 29 (.str (Str.ofString "0-1 1")))] = C3 at mu
  have pC3 : C2 <+: C3 := by rw [← hC3]; exact pre_app
  have lC3 : lstAt C3 C2.length = some (List.replicate 29 (.str (Str.ofString "0-1 1"))) := by rw [← hC3]; exact lst_new
  have d3 := add_ref (lst_pre (pC2.trans pC3) lC1) lC3 (by simp; unfold cap; omega)
  generalize hC4 : C3 ++ [O.lst ([.str (Str.ofString "places 2")] ++ List.replicate 29 (.str (Str.ofString "0-1 1")))] = C4 at d3
  have pC4 : C3 <+: C4 := by rw [← hC4]; exact pre_app
  have lC4 : lstAt C4 C3.length = some ((Str.ofString "places 2" :: List.replicate 29 (Str.ofString "0-1 1")).map D.str) := by rw [← hC4, lst_new, List.map_cons, List.map_replicate]; rfl
  refine isT_step (ρ' := [some (.rol ns), some (.ref 0), o2', some (.ref A1.length), o4, o5, o6, o7, some (.ref C3.length)]) (h' := C4) (by
    simp only [set_ap, op_ap, opK_ap, lst_ap, cons_ap, nil_ap, var_ap, con_ap, List.getElem?_cons_succ, List.getElem?_cons_zero, getV_some, R.bind_ok, coK1_ap, coK2_ap, lsK1, lsK1, hC1, hC2, mu, d3, SR.of_ok, seK_ap]; rfl) ?_
  have R1 := ref_bad (a := List.replicate 28 pp1) (t := rT pp1) (rest := []) (h := C4) many_is (rT_ln pp1_ok) (by simp) (by simp) (by simp) (fun w hw => by rw [List.eq_of_mem_replicate hw]; exact pp1_ok)
    (.inr ⟨pp1, .inr (by simp), fun h => x_pipe_in (r := pp1) (by decide) (by decide) (by decide) (by decide) (by decide)⟩)
  obtain ⟨E, e1, e2⟩ := refD (e := dVar 8) (ρ := [some (.rol ns), some (.ref 0), o2', some (.ref A1.length), o4, o5, o6, o7, some (.ref C3.length)]) (h := C4) rfl lC4 R1
  have lE := lst_pre e2 lC4
  generalize hG : E ++ [O.lst (((Str.ofString "places 2" :: List.replicate 29 (Str.ofString "0-1 1")).map D.str).take 29)] = G
  have pG : E <+: G := by rw [← hG]; exact pre_app
  have lG : lstAt G E.length = some ((plT 2 :: (List.replicate 28 pp1).map rT).map D.str) := by rw [← hG, lst_new, ← List.map_take, many_29]
  have sl : slK oNone (oSome (dC (.int 29))) [some (.rol ns), some (.ref 0), o2', some (.ref A1.length), o4, o5, o6, o7, some (.ref C3.length)] (.ref C3.length) E = .ok (.ref E.length) G := by
    have ct := cut_to (xs := (Str.ofString "places 2" :: List.replicate 29 (Str.ofString "0-1 1")).map D.str) (k := 29) (by simp)
    rw [show ((29 : Nat) : Int) = 29 from rfl] at ct
    unfold slK dSl oSome
    simp only [R.bind_ok, onone_ap, con_ap, lE, ct, hG]
  obtain ⟨H, h1, h2⟩ := refD (e := dSl (dVar 8) oNone (oSome (dC (.int 29)))) (ρ := [some (.rol ns), some (.ref 0), o2', some (.ref A1.length), o4, o5, o6, o7, some (.ref C3.length)]) (h := E) (by
    rw [sl_ap, var_ap]; exact sl) lG (ref_good rfl (by simp) (fun w hw => by rw [List.eq_of_mem_replicate hw]; exact pp1_ok))
  rw [show (List.replicate 28 pp1).length + 2 = 30 by simp] at e1
  have e1 : dCall F_law_refused (aCons (dJoin (dC (.str (Str.ofString "\n"))) (dVar 8)) aNil) [some (.rol ns), some (.ref 0), o2', some (.ref A1.length), o4, o5, o6, o7, some (.ref C3.length)] C4 = .ok (.int 30) E := e1
  refine isT_step (ρ' := [some (.rol ns), some (.ref 0), o2', some (.ref A1.length), o4, o5, o6, o7, some (.ref C3.length)]) (h' := H) (by
    have t1 : dB (dOp fNe (dCall F_law_refused (aCons (dJoin (dC (.str (Str.ofString "\n"))) (dVar 8)) aNil)) (dC (.int 30))) [some (.rol ns), some (.ref 0), o2', some (.ref A1.length), o4, o5, o6, o7, some (.ref C3.length)] C4 = .ok false E := by
      simp [e1, -call_ap]
    have t2 : dB (dOp fNe (dCall F_law_refused (aCons (dJoin (dC (.str (Str.ofString "\n"))) (dSl (dVar 8) oNone (oSome (dC (.int 29))))) aNil)) (dC (.int 0))) [some (.rol ns), some (.ref 0), o2', some (.ref A1.length), o4, o5, o6, o7, some (.ref C3.length)] E = .ok false H := by
      simp [h1, -call_ap]
    have t3 : ∀ {x y : DT} {ρ : Sl} {h h1 h2 : Hv}, x ρ h = .ok false h1 → y ρ h1 = .ok false h2 → dOr x y ρ h = .ok false h2 := fun {x y ρ h h1 h2} a b => by
      unfold dOr; rw [a]; exact b
    rw [if_ap, t3 t1 t2, SR.of_ok, ifK_ap, if_neg (by decide)]; rfl) ?_
  -- nothing, and a last empty row
  obtain ⟨_, K, k1, k2⟩ := ref_head (t := Str.ofString "") (rest := []) (h := H) rfl nil_head.1 (by simp) (by simp) nil_head.2
  rw [nil_join] at k1
  have hK : A2 <+: K := (((((((b2.trans q3).trans pC1).trans pC2).trans pC3).trans pC4).trans e2).trans pG).trans (h2.trans k2)
  have lK := lst_pre hK lA2
  have lnn : ∀ s ∈ plT 2 :: a.map rT, Ln s := fun s hs => by
    rcases List.mem_cons.mp hs with rfl | hs
    · exact pl_ln
    · obtain ⟨q, qa, rfl⟩ := List.mem_map.mp hs
      exact rT_ln (ok q qa)
  obtain ⟨g1, g2, g3⟩ := lines (L := plT 2 :: a.map rT) (by simp) (by simp; omega) lnn
  have j1 := join_ap (o := dC (.str (Str.ofString "\n"))) (e := dVar 3) (ρ := [some (.rol ns), some (.ref 0), o2', some (.ref A1.length), o4, o5, o6, o7, some (.ref C3.length)]) (h := K) (con_ap ..) rfl lK g1
  have gl : (Txt.join (Str.ofString "\n") (plT 2 :: a.map rT)).length + (Str.ofString "\n" : Str).length ≤ cap := by
    have j : ∀ (y : Str) (l : List Str), (Str.join y l).length ≤ (l.map (·.length)).sum + l.length * y.length := fun y l => by
      rw [TL.len_tl, TL.tl_join]
      induction l with
      | nil => simp [TL.joinL]
      | cons a r ih =>
        cases r with
        | nil => simp [TL.joinL, TL.len_tl]
        | cons b r =>
          have e : TL.joinL (TL.tl y) ((a :: b :: r).map TL.tl) = TL.tl a ++ (TL.tl y ++ TL.joinL (TL.tl y) ((b :: r).map TL.tl)) := rfl
          rw [e, List.length_append, List.length_append, ← TL.len_tl, ← TL.len_tl]
          simp only [List.map_cons, List.sum_cons, List.length_cons] at ih ⊢
          have : (r.length + 1 + 1) * y.length = (r.length + 1) * y.length + y.length := Nat.succ_mul _ _
          omega
    have key : ∀ l : List Str, (∀ s ∈ l, Ln s) → (l.map (·.length)).sum ≤ 5000 * l.length := fun l => by
      induction l with
      | nil => intro _; simp
      | cons r l ih =>
        intro h
        have := (h r (by simp)).2
        have := ih (fun w hw => h w (List.mem_cons_of_mem _ hw))
        simp only [List.map_cons, List.sum_cons, List.length_cons]
        omega
    have w1 := j (Str.ofString "\n") (plT 2 :: a.map rT)
    have w2 := key _ lnn
    have l1 : (Str.ofString "\n" : Str).length = 1 := by decide +kernel
    rw [TL.join_eq]
    rw [l1] at w1 ⊢
    simp only [List.length_cons, List.length_map] at w1 w2
    unfold cap
    omega
  have ad := add_str (h := K) gl
  rw [join_snoc (by simp)] at ad
  obtain ⟨_, M, m1, m2⟩ := ref_bad (a := a) (t := Str.ofString "") (rest := []) (L := plT 2 :: a.map rT ++ [Str.ofString ""]) (h := K) (by simp) nil_head.1 (by simp) (by simp) (by omega) ok (.inl od_0)
  have lM : bLen [.ref A1.length] M = .ok (.int ((a.length + 1 : Nat) : Int)) M := by
    have := len_ref (lst_pre m2 lK)
    rw [List.length_map, List.length_cons, List.length_map] at this
    exact this
  have z : ((a.length + 2 : Nat) : Int) = ((a.length + 1 : Nat) : Int) + 1 := by omega
  have first : dOp fEq (dCall F_law_refused (aCons (dC (.str (Str.ofString ""))) aNil)) (dC (.int 1)) [some (.rol ns), some (.ref 0), o2', some (.ref A1.length), o4, o5, o6, o7, some (.ref C3.length)] H = .ok (.bl true) K := by
    simp [k1]
  have second : dOp fEq (dCall F_law_refused (aCons (dOp fAdd (dJoin (dC (.str (Str.ofString "\n"))) (dVar 3)) (dC (.str (Str.ofString "\n")))) aNil)) (dOp fAdd (dCall bLen (aCons (dVar 3) aNil)) (dC (.int 1))) [some (.rol ns), some (.ref 0), o2', some (.ref A1.length), o4, o5, o6, o7, some (.ref C3.length)] K = .ok (.bl true) M := by
    rw [op_ap, call_ap, cons_ap, op_ap, j1]
    simp only [opK_ap, con_ap, R.bind_ok, ad, coK1_ap, nil_ap, coK2_ap]
    rw [m1]
    simp only [R.bind_ok, opK_ap, op_ap, call_ap, cons_ap, nil_ap, var_ap, con_ap, List.getElem?_cons_succ, List.getElem?_cons_zero, getV_some, coK1_ap, coK2_ap, lM, fAdd_ap, z]
    simp
  refine ⟨M, ?_⟩
  rw [ret_ap]
  have both : ∀ {x y : DE} {ρ : Sl} {h h1 h2 : Hv}, x ρ h = .ok (.bl true) h1 → y ρ h1 = .ok (.bl true) h2 → dAndV x y ρ h = .ok (.bl true) h2 := fun {x y ρ h h1 h2} a b => by
    unfold dAndV; rw [a]; simpa using b
  rw [both first second]
  rfl
end K11

set_option Elab.async false
set_option linter.all false
set_option autoImplicit false
set_option maxRecDepth 100000
set_option pp.maxSteps 80
set_option maxHeartbeats 4000000
open PySem PySem.W PyProof.Rows
set_option maxRecDepth 100000 in
set_option maxHeartbeats 0 in
theorem PySem.Challenge.cw_splitstream_k11_texts_misread_holds : PySem.Challenge.rw_splitstream_k11_texts_misread.Holds := by
  w_on; o_law; k_head; (case hw => w_witness2)
  k_fill
  refine DL.walkD (l := PySem.Challenge.rw_splitstream_k11_texts_misread) (n := 63) (k := 9) (x := "_law_script") (F := K11.F_law) rfl (by decide) rfl ⟨rfl, by decide, by decide⟩ (fun w h Y => PySem.W.kIn_of Y) ?F K11.law_true
  case F =>
    intro w mg fa h KX G hmg
    refine' K11.all_mk KX G hmg ?aC_Net ?aC_NetError ?aC_BadFraction ?aC_BadNet ?aC_NoPlace ?aC_NoPipe ?aC_BadFlows ?aC_BadRow ?pg_Net ?hd_Net ?po_Net ?sa_Net ?mk_Net ?kc_Net ?na_rows ?na_size ?ex_BadNet ?kp_BadNet ?sb_BadNet ?ty_BadNet ?rc_cls ?rc_ve ?rc_sa ?rc_sb ?rc_kp ?rc_no ?rc_rd ?rc_ga ?rc_at ?sg ?tk ?nv ?eg ?ek ?ed ?ea ?em ?ev ?sbn ?eu_BadFlows ?ic_BadFlows ?tc_BadFlows ?se_BadFlows ?eu_BadFraction ?ic_BadFraction ?tc_BadFraction ?se_BadFraction ?eu_BadNet ?ic_BadNet ?tc_BadNet ?se_BadNet ?ic_BadRow ?tc_BadRow ?se_BadRow ?eu_NetError ?ic_NetError ?tc_NetError ?se_NetError ?eu_NoPipe ?ic_NoPipe ?tc_NoPipe ?se_NoPipe ?eu_NoPlace ?ic_NoPlace ?tc_NoPlace ?se_NoPlace ?ri_a ?ri_t ?ri_l ?ri_c ?ri_k ?n1_MOST_PLACES ?n1_MOST_PIPES ?n1_GREATEST ?n1_FIGURES ?z_abs ?z_all ?z_any ?z_bool ?z_int ?z_isinstance ?z_len ?z_list ?z_max ?z_min ?z_range ?z_reversed ?z_sorted ?z_str ?z_tuple ?z_zip ?a_is_whole ?l_is_whole ?c_is_whole ?k_is_whole ?a_within ?l_within ?c_within ?k_within ?a_common ?l_common ?c_common ?k_common ?a_is_fraction ?l_is_fraction ?c_is_fraction ?k_is_fraction ?a_is_pipe ?l_is_pipe ?c_is_pipe ?k_is_pipe ?a_Net_init ?i_Net_init ?l_Net_init ?c_Net_init ?k_Net_init ?a_number_in ?l_number_in ?c_number_in ?k_number_in ?a_fraction_in ?l_fraction_in ?c_fraction_in ?k_fraction_in ?a_pipe_in ?l_pipe_in ?c_pipe_in ?k_pipe_in ?a_net_of ?l_net_of ?c_net_of ?k_net_of ?a_read ?l_read ?c_read ?k_read ?a_law_cell_at ?l_law_cell_at ?c_law_cell_at ?k_law_cell_at ?a_law_draw ?l_law_draw ?c_law_draw ?k_law_draw ?a_law_refused ?l_law_refused ?c_law_refused ?k_law_refused ?a_law_more ?l_law_more ?c_law_more ?k_law_more ?a_law_bad_pipe ?l_law_bad_pipe ?c_law_bad_pipe ?k_law_bad_pipe ?a_law_bad_head ?l_law_bad_head ?c_law_bad_head ?k_law_bad_head ?a_law ?l_law ?c_law ?k_law
    (case aC_Net => k_is)
    (case aC_NetError => k_is)
    (case aC_BadFraction => k_is)
    (case aC_BadNet => k_is)
    (case aC_NoPlace => k_is)
    (case aC_NoPipe => k_is)
    (case aC_BadFlows => k_is)
    (case aC_BadRow => k_is)
    (case pg_Net => k_is)
    (case hd_Net => k_is)
    (case po_Net => k_is)
    (case sa_Net => k_is)
    (case mk_Net => k_is)
    (case kc_Net => k_is)
    (case na_rows => k_is)
    (case na_size => k_is)
    (case ex_BadNet => k_exc)
    (case kp_BadNet => k_is)
    (case sb_BadNet => k_is)
    (case ty_BadNet => k_is)
    (case rc_cls => k_is)
    (case rc_ve => decide +kernel)
    (case rc_sa => k_is)
    (case rc_sb => k_is)
    (case rc_kp => k_is)
    (case rc_no => k_is)
    (case rc_rd => k_is)
    (case rc_ga => k_is)
    (case rc_at => k_is)
    (case sg => k_is)
    (case tk => k_is)
    (case nv => k_is)
    (case eg => k_is)
    (case ek => k_is)
    (case ed => k_is)
    (case ea => k_is)
    (case em => k_is)
    (case ev => k_is)
    (case sbn => k_is)
    (case eu_BadFlows => k_is)
    (case ic_BadFlows => k_is)
    (case tc_BadFlows => k_is)
    (case se_BadFlows => first | rfl | k_is)
    (case eu_BadFraction => k_is)
    (case ic_BadFraction => k_is)
    (case tc_BadFraction => k_is)
    (case se_BadFraction => first | rfl | k_is)
    (case eu_BadNet => k_is)
    (case ic_BadNet => k_is)
    (case tc_BadNet => k_is)
    (case se_BadNet => first | rfl | k_is)
    (case ic_BadRow => k_is)
    (case tc_BadRow => k_is)
    (case se_BadRow => first | rfl | k_is)
    (case eu_NetError => k_is)
    (case ic_NetError => k_is)
    (case tc_NetError => k_is)
    (case se_NetError => first | rfl | k_is)
    (case eu_NoPipe => k_is)
    (case ic_NoPipe => k_is)
    (case tc_NoPipe => k_is)
    (case se_NoPipe => first | rfl | k_is)
    (case eu_NoPlace => k_is)
    (case ic_NoPlace => k_is)
    (case tc_NoPlace => k_is)
    (case se_NoPlace => first | rfl | k_is)
    (case ri_a => k_is)
    (case ri_t => k_is)
    (case ri_l => k_is)
    (case ri_c => k_is)
    (case ri_k => k_is)
    (case n1_MOST_PLACES => k_is)
    (case n1_MOST_PIPES => k_is)
    (case n1_GREATEST => k_is)
    (case n1_FIGURES => k_is)
    (case z_abs => k_is)
    (case z_all => k_is)
    (case z_any => k_is)
    (case z_bool => k_is)
    (case z_int => k_is)
    (case z_isinstance => k_is)
    (case z_len => k_is)
    (case z_list => k_is)
    (case z_max => k_is)
    (case z_min => k_is)
    (case z_range => k_is)
    (case z_reversed => k_is)
    (case z_sorted => k_is)
    (case z_str => k_is)
    (case z_tuple => k_is)
    (case z_zip => k_is)
    (case a_is_whole => k_is)
    (case l_is_whole => k_is)
    (case c_is_whole => k_is)
    (case k_is_whole => k_is)
    (case a_within => k_is)
    (case l_within => k_is)
    (case c_within => k_is)
    (case k_within => k_is)
    (case a_common => k_is)
    (case l_common => k_is)
    (case c_common => k_is)
    (case k_common => k_is)
    (case a_is_fraction => k_is)
    (case l_is_fraction => k_is)
    (case c_is_fraction => k_is)
    (case k_is_fraction => k_is)
    (case a_is_pipe => k_is)
    (case l_is_pipe => k_is)
    (case c_is_pipe => k_is)
    (case k_is_pipe => k_is)
    (case a_Net_init => k_is)
    (case i_Net_init => k_is)
    (case l_Net_init => k_is)
    (case c_Net_init => k_is)
    (case k_Net_init => k_is)
    (case a_number_in => k_is)
    (case l_number_in => k_is)
    (case c_number_in => k_is)
    (case k_number_in => k_is)
    (case a_fraction_in => k_is)
    (case l_fraction_in => k_is)
    (case c_fraction_in => k_is)
    (case k_fraction_in => k_is)
    (case a_pipe_in => k_is)
    (case l_pipe_in => k_is)
    (case c_pipe_in => k_is)
    (case k_pipe_in => k_is)
    (case a_net_of => k_is)
    (case l_net_of => k_is)
    (case c_net_of => k_is)
    (case k_net_of => k_is)
    (case a_read => k_is)
    (case l_read => k_is)
    (case c_read => k_is)
    (case k_read => k_is)
    (case a_law_cell_at => k_is)
    (case l_law_cell_at => k_is)
    (case c_law_cell_at => k_is)
    (case k_law_cell_at => k_is)
    (case a_law_draw => k_is)
    (case l_law_draw => k_is)
    (case c_law_draw => k_is)
    (case k_law_draw => k_is)
    (case a_law_refused => k_is)
    (case l_law_refused => k_is)
    (case c_law_refused => k_is)
    (case k_law_refused => k_is)
    (case a_law_more => k_is)
    (case l_law_more => k_is)
    (case c_law_more => k_is)
    (case k_law_more => k_is)
    (case a_law_bad_pipe => k_is)
    (case l_law_bad_pipe => k_is)
    (case c_law_bad_pipe => k_is)
    (case k_law_bad_pipe => k_is)
    (case a_law_bad_head => k_is)
    (case l_law_bad_head => k_is)
    (case c_law_bad_head => k_is)
    (case k_law_bad_head => k_is)
    (case a_law => k_is)
    (case l_law => k_is)
    (case c_law => k_is)
    (case k_law => k_is)

