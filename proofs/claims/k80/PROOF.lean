import PyProof.Rows.All
import Wide.All
import OpenK.AllK
import Wide.FinOn
import HandS.ForMost
import HandS.Walk
import HandS.Exc
import HandS.ExcInit
import HandS.ExcOwn
import HandS.CallSlots
import HandS.Property
import HandS.Star
import HandS.Zip
import HandS.TryMany
import HandS.WordsExc
import HandS.IsInst
import HandS.Deep
import HandS.TupAny
import HandS.TupMul
import HandS.Gcd
import KE.KSortedM
import HandS.TupLe
import HandS.WordsDict
import HandS.SortInts
import HandS.Conv
import HandS.Defaults
import HandS.MakeKw
import HandS.Style
import HandS.More
import HandS.DictComp
import HandS.SortOrd
import KE.GoesEnum
import HandS.ExcField
import PyProof.ExcBaseAll.ValueError
import HandS.Small
import HandS.HeadHook3
import PySem.Challenge.RW_fitprices_k80_sites_refused_and_not
set_option Elab.async false
set_option linter.all false
set_option maxRecDepth 100000
namespace G
open PySem PySem.Spec PyProof.Rows L2

/-- data as the laws see it; a dict by its keys and its values; ref: a cell of the store -/
inductive D where
  | non | bl (b : Bool) | int (i : Int) | str (s : Str)
  | tup (xs : List D) | kt (xs : List D) | lst (xs : List D) | kl (xs : List D) | dct (t : Bool) (ks vs : List D) | ref (n : Nat) | fn (f : Nat)

/-- what is fixed: the written part, where the defs and classes stand -/
structure Gc where
  K : PySem.W.Frag
  fa : Nat → Addr
  ca : Nat → Addr

def dkey : D → Option Key
  | .int i => some (.inl i)
  | .str s => some (.inr s)
  | _ => none
def dkeys : List D → Option (List Key)
  | [] => some []
  | d :: r => match dkey d, dkeys r with
    | some k, some ks => some (k :: ks)
    | _, _ => none
def dkeyT : D → Option (List Key)
  | .tup ds => dkeys ds
  | _ => none

/-- the dict o has the keys ks (as data; t: tuples) and the values vs -/
def DctR (o : HO) (ks : List D) (vs : List V) : Bool → Prop
  | false => ∃ l : List (Key × V), o = .dK l ∧ ks.map dkey = l.map (fun p => some p.1) ∧ vs = l.map (·.2)
  | true => ∃ l : List (List Key × V), o = .dT l ∧ ks.map dkeyT = l.map (fun p => some p.1) ∧ vs = l.map (·.2)

mutual
/-- v stands for d; F: what is known of the heap and stays -/
def Rep (g : Gc) (F : Hp) (A : List Addr) : V → D → Prop
  | v, .non => v = .non
  | v, .bl b => v = .bl b
  | v, .int i => v = .int i
  | v, .str s => v = .str s
  | v, .tup xs => ∃ a vs, v = .ref a ∧ F a = some (.tup vs) ∧ RepL g F A vs xs
  | v, .kt xs => ∃ a vs, v = .ref a ∧ SqT g.K F a vs ∧ RepL g F A vs xs
  | v, .lst xs => ∃ a vs, v = .ref a ∧ F a = some (.lst vs) ∧ RepL g F A vs xs
  | v, .kl xs => ∃ a vs, v = .ref a ∧ SqL g.K F a vs ∧ RepL g F A vs xs
  | v, .dct t ks ws => ∃ a o vs od, v = .ref a ∧ F a = some (.frz od o) ∧ DctR o ks vs t ∧ RepL g F A vs ws
  | v, .ref n => ∃ a, v = .ref a ∧ A[n]? = some a
  | v, .fn k => v = .ref (g.fa k)
def RepL (g : Gc) (F : Hp) (A : List Addr) : List V → List D → Prop
  | [], [] => True
  | v :: vs, d :: ds => Rep g F A v d ∧ RepL g F A vs ds
  | [], _ :: _ => False
  | _ :: _, [] => False
end

/-- F' knows all that F knows -/
def Le (F F' : Hp) : Prop := ∀ a u, F a = some u → F' a = some u
theorem Le.refl (F : Hp) : Le F F := fun _ _ h => h
theorem Le.trans {F G H : Hp} (a : Le F G) (b : Le G H) : Le F H := fun x u h => b x u (a x u h)
theorem Le.new {F : Hp} {p : Addr} {o : HO} (h : F p = none) : Le F (upd F p o) := fun a u e => by
  rw [upd_ne (ne_of_none e h)]; exact e
theorem Le.rd {F F' : Hp} (l : Le F F') {a : Addr} {u : HO} (h : Rd F a u) : Rd F' a u := by
  rcases h with h | ⟨o, h⟩
  · exact .inl (l a _ h)
  · exact .inr ⟨o, l a _ h⟩
theorem Le.sqL {K : PySem.W.Frag} {F F' : Hp} (l : Le F F') {a : Addr} {xs : List V} (h : SqL K F a xs) : SqL K F' a xs := h.imp l.rd id
theorem Le.sqT {K : PySem.W.Frag} {F F' : Hp} (l : Le F F') {a : Addr} {xs : List V} (h : SqT K F a xs) : SqT K F' a xs := h.imp l.rd id
/-- A' is A and more -/
abbrev Px (A A' : List Addr) : Prop := A <+: A'
theorem Px.get {A A' : List Addr} (p : A <+: A') {n : Nat} {a : Addr} (h : A[n]? = some a) : A'[n]? = some a := by
  obtain ⟨t, rfl⟩ := p
  rw [List.getElem?_append_left (List.getElem?_eq_some_iff.mp h).1]; exact h

mutual
theorem Rep.mono {g : Gc} {F F' : Hp} {A A' : List Addr} (l : Le F F') (p : A <+: A') : ∀ {d : D} {v : V}, Rep g F A v d → Rep g F' A' v d
  | .non, _, h => h
  | .bl _, _, h => h
  | .int _, _, h => h
  | .str _, _, h => h
  | .tup xs, _, h => by
    obtain ⟨a, vs, e, s, r⟩ := h
    exact ⟨a, vs, e, l _ _ s, RepL.mono l p r⟩
  | .kt xs, _, h => by
    obtain ⟨a, vs, e, s, r⟩ := h
    exact ⟨a, vs, e, l.sqT s, RepL.mono l p r⟩
  | .lst xs, _, h => by
    obtain ⟨a, vs, e, s, r⟩ := h
    exact ⟨a, vs, e, l _ _ s, RepL.mono l p r⟩
  | .kl xs, _, h => by
    obtain ⟨a, vs, e, s, r⟩ := h
    exact ⟨a, vs, e, l.sqL s, RepL.mono l p r⟩
  | .dct t ks ws, _, h => by
    obtain ⟨a, o, vs, od, e, s, q, r⟩ := h
    exact ⟨a, o, vs, od, e, l _ _ s, q, RepL.mono l p r⟩
  | .ref n, _, h => by
    obtain ⟨a, e, q⟩ := h
    exact ⟨a, e, Px.get p q⟩
  | .fn _, _, h => h
theorem RepL.mono {g : Gc} {F F' : Hp} {A A' : List Addr} (l : Le F F') (p : A <+: A') : ∀ {ds : List D} {vs : List V}, RepL g F A vs ds → RepL g F' A' vs ds
  | [], [], _ => trivial
  | [], _ :: _, h => h.elim
  | _ :: _, [], h => h.elim
  | _ :: _, _ :: _, h => ⟨Rep.mono l p h.1, RepL.mono l p h.2⟩
end

section
variable {g : Gc} {F : Hp} {A : List Addr}
theorem RepL.len : ∀ {ds : List D} {vs : List V}, RepL g F A vs ds → vs.length = ds.length
  | [], [], _ => rfl
  | [], _ :: _, h => h.elim
  | _ :: _, [], h => h.elim
  | _ :: _, _ :: _, h => congrArg (· + 1) (RepL.len h.2)
theorem RepL.get : ∀ {ds : List D} {vs : List V} {i : Nat} {d : D}, RepL g F A vs ds → ds[i]? = some d → ∃ v, vs[i]? = some v ∧ Rep g F A v d
  | [], [], _, _, _, e => by simp at e
  | [], _ :: _, _, _, h, _ => h.elim
  | _ :: _, [], _, _, h, _ => h.elim
  | _ :: _, v :: _, 0, _, h, e => by
    simp at e; subst e; exact ⟨v, rfl, h.1⟩
  | _ :: _, _ :: _, i + 1, d, h, e => by
    obtain ⟨v, e1, r⟩ := RepL.get (i := i) (d := d) h.2 (by simpa using e)
    exact ⟨v, by simpa using e1, r⟩
theorem RepL.get' : ∀ {ds : List D} {vs : List V} {i : Nat} {v : V}, RepL g F A vs ds → vs[i]? = some v → ∃ d, ds[i]? = some d ∧ Rep g F A v d
  | [], [], _, _, _, e => by simp at e
  | [], _ :: _, _, _, h, _ => h.elim
  | _ :: _, [], _, _, h, _ => h.elim
  | d :: _, _ :: _, 0, _, h, e => by
    simp at e; subst e; exact ⟨d, rfl, h.1⟩
  | _ :: _, _ :: _, i + 1, v, h, e => by
    obtain ⟨d, e1, r⟩ := RepL.get' (i := i) (v := v) h.2 (by simpa using e)
    exact ⟨d, by simpa using e1, r⟩
theorem RepL.app : ∀ {ds es : List D} {vs ws : List V}, RepL g F A vs ds → RepL g F A ws es → RepL g F A (vs ++ ws) (ds ++ es)
  | [], _, [], _, _, h => h
  | [], _, _ :: _, _, h, _ => h.elim
  | _ :: _, _, [], _, h, _ => h.elim
  | _ :: _, _, _ :: _, _, h, k => ⟨h.1, RepL.app h.2 k⟩
theorem RepL.take : ∀ {ds : List D} {vs : List V} (n : Nat), RepL g F A vs ds → RepL g F A (vs.take n) (ds.take n)
  | _, _, 0, _ => trivial
  | [], [], _ + 1, _ => trivial
  | [], _ :: _, _ + 1, h => h.elim
  | _ :: _, [], _ + 1, h => h.elim
  | _ :: _, _ :: _, n + 1, h => ⟨h.1, RepL.take n h.2⟩
theorem RepL.drop : ∀ {ds : List D} {vs : List V} (n : Nat), RepL g F A vs ds → RepL g F A (vs.drop n) (ds.drop n)
  | _, _, 0, h => h
  | [], [], _ + 1, _ => trivial
  | [], _ :: _, _ + 1, h => h.elim
  | _ :: _, [], _ + 1, h => h.elim
  | _ :: _, _ :: _, n + 1, h => RepL.drop n h.2
theorem RepL.set {v : V} {d : D} (r : Rep g F A v d) : ∀ {ds : List D} {vs : List V} (i : Nat), RepL g F A vs ds → RepL g F A (vs.set i v) (ds.set i d)
  | [], [], _, _ => trivial
  | [], _ :: _, _, h => h.elim
  | _ :: _, [], _, h => h.elim
  | _ :: _, _ :: _, 0, h => ⟨r, h.2⟩
  | _ :: _, _ :: _, i + 1, h => ⟨h.1, RepL.set r i h.2⟩
theorem RepL.rev : ∀ {ds : List D} {vs : List V}, RepL g F A vs ds → RepL g F A vs.reverse ds.reverse
  | [], [], _ => trivial
  | [], _ :: _, h => h.elim
  | _ :: _, [], h => h.elim
  | _ :: _, _ :: _, h => by
    rw [List.reverse_cons, List.reverse_cons]
    exact RepL.app (RepL.rev h.2) ⟨h.1, trivial⟩
theorem RepL.one {v : V} {d : D} (r : Rep g F A v d) : RepL g F A [v] [d] := ⟨r, trivial⟩
/-- lists of plain things -/
theorem RepL.ints : ∀ (ns : List Int), RepL g F A (ns.map V.int) (ns.map D.int)
  | [] => trivial
  | _ :: r => ⟨rfl, RepL.ints r⟩
theorem RepL.of_ints : ∀ {ns : List Int} {vs : List V}, RepL g F A vs (ns.map D.int) → vs = ns.map V.int
  | [], [], _ => rfl
  | [], _ :: _, h => h.elim
  | _ :: _, [], h => h.elim
  | n :: r, v :: vs, h => by
    have e1 : v = V.int n := h.1
    have e2 := RepL.of_ints (ns := r) h.2
    rw [e1, e2]; rfl
theorem RepL.of_bls : ∀ {bs : List Bool} {vs : List V}, RepL g F A vs (bs.map D.bl) → vs = bs.map V.bl
  | [], [], _ => rfl
  | [], _ :: _, h => h.elim
  | _ :: _, [], h => h.elim
  | n :: r, v :: vs, h => by
    have e1 : v = V.bl n := h.1
    have e2 := RepL.of_bls (bs := r) h.2
    rw [e1, e2]; rfl
theorem RepL.of_strs : ∀ {xs : List Str} {vs : List V}, RepL g F A vs (xs.map D.str) → vs = xs.map V.str
  | [], [], _ => rfl
  | [], _ :: _, h => h.elim
  | _ :: _, [], h => h.elim
  | n :: r, v :: vs, h => by
    have e1 : v = V.str n := h.1
    have e2 := RepL.of_strs (xs := r) h.2
    rw [e1, e2]; rfl
end

/-! ### the store, the slots -/
inductive Cell where
  | lst (xs : List D)
  | dct (t : Bool) (ks vs : List D)
  | obj (c : Nat) (fs : List (Str × D))
abbrev Store := List Cell

def CellR (g : Gc) (F : Hp) (A : List Addr) (H : Hp) (a : Addr) : Cell → Prop
  | .lst xs => ∃ vs, H a = some (.lst vs) ∧ RepL g F A vs xs
  | .dct t ks ws => ∃ o vs, H a = some o ∧ DctR o ks vs t ∧ RepL g F A vs ws
  | .obj c fs => ∃ dx fs', H a = some (.ins (g.ca c) dx fs') ∧ fs'.map (·.1) = fs.map (·.1) ∧ RepL g F A (fs'.map (·.2)) (fs.map (·.2))
theorem mut_dct {o : HO} {ks : List D} {vs : List V} {t : Bool} (d : DctR o ks vs t) : Mut (some o) := by
  cases t with
  | false => obtain ⟨l, rfl, _⟩ := d; trivial
  | true => obtain ⟨l, rfl, _⟩ := d; trivial
theorem CellR.live {g : Gc} {F : Hp} {A : List Addr} {H : Hp} {a : Addr} {c : Cell} (h : CellR g F A H a c) : ∃ o, H a = some o ∧ Mut (some o) := by
  cases c with
  | lst xs => obtain ⟨vs, e, _⟩ := h; exact ⟨_, e, trivial⟩
  | dct t ks ws =>
    obtain ⟨o, vs, e, d, _⟩ := h
    refine ⟨_, e, ?_⟩
    cases t with
    | false => obtain ⟨l, rfl, _⟩ := d; exact trivial
    | true => obtain ⟨l, rfl, _⟩ := d; exact trivial
  | obj c fs => obtain ⟨dx, fs', e, _⟩ := h; exact ⟨_, e, trivial⟩
theorem CellR.mono {g : Gc} {F F' : Hp} {A A' : List Addr} {H H' : Hp} {a : Addr} {c : Cell} (l : Le F F') (p : A <+: A') (e : H' a = H a) (h : CellR g F A H a c) : CellR g F' A' H' a c := by
  cases c with
  | lst xs => obtain ⟨vs, q, r⟩ := h; exact ⟨vs, e.trans q, r.mono l p⟩
  | dct t ks ws => obtain ⟨o, vs, q, d, r⟩ := h; exact ⟨o, vs, e.trans q, d, r.mono l p⟩
  | obj c fs => obtain ⟨dx, fs', q, k, r⟩ := h; exact ⟨dx, fs', e.trans q, k, r.mono l p⟩

/-- what is known is in the heap, or there and locked -/
def isDct : HO → Prop
  | .dK _ => True
  | .dT _ => True
  | _ => False
def FIn (F H : Hp) : Prop := ∀ a u, F a = some u → H a = some u ∨ (isDct u ∧ ∃ o, H a = some (.frz o u))
theorem FIn.rd {F H : Hp} (f : FIn F H) {a : Addr} {u : HO} (h : Rd F a u) : Rd H a u := by
  rcases h with h | ⟨o, h⟩
  · rcases f a u h with q | ⟨_, o, q⟩
    · exact .inl q
    · exact .inr ⟨o, q⟩
  · rcases f a _ h with q | ⟨m, _⟩
    · exact .inr ⟨o, q⟩
    · exact m.elim
theorem FIn.tup {F H : Hp} (f : FIn F H) {a : Addr} {xs : List V} (h : F a = some (.tup xs)) : H a = some (.tup xs) := by
  rcases f a _ h with q | ⟨m, _⟩
  · exact q
  · exact m.elim
theorem FIn.lst {F H : Hp} (f : FIn F H) {a : Addr} {xs : List V} (h : F a = some (.lst xs)) : H a = some (.lst xs) := by
  rcases f a _ h with q | ⟨m, _⟩
  · exact q
  · exact m.elim
theorem FIn.sqL {K : PySem.W.Frag} {F H : Hp} (f : FIn F H) {a : Addr} {xs : List V} (h : SqL K F a xs) : SqL K H a xs := h.imp f.rd id
theorem FIn.sqT {K : PySem.W.Frag} {F H : Hp} (f : FIn F H) {a : Addr} {xs : List V} (h : SqT K F a xs) : SqT K H a xs := h.imp f.rd id
theorem FIn.live {F H : Hp} (f : FIn F H) {a : Addr} (h : F a ≠ none) : H a ≠ none := by
  cases e : F a with
  | none => exact absurd e h
  | some u =>
    rcases f a u e with q | ⟨_, o, q⟩ <;> (rw [q]; exact fun z => nomatch z)
theorem FIn.none {F H : Hp} (f : FIn F H) {a : Addr} (h : H a = none) : F a = none := by
  cases e : F a with
  | none => rfl
  | some u => exact absurd h (f.live (by rw [e]; exact fun z => nomatch z))

structure StR (g : Gc) (F : Hp) (A : List Addr) (S : Store) (H : Hp) : Prop where
  len : A.length = S.length
  nd : A.Nodup
  fin : FIn F H
  cell : ∀ (n : Nat) (c : Cell), S[n]? = some c → ∃ a, A[n]? = some a ∧ F a = none ∧ CellR g F A H a c
theorem StR.atA {g : Gc} {F : Hp} {A : List Addr} {S : Store} {H : Hp} (s : StR g F A S H) {a : Addr} (h : a ∈ A) : ∃ (n : Nat) (c : Cell), S[n]? = some c ∧ A[n]? = some a ∧ F a = none ∧ CellR g F A H a c := by
  obtain ⟨n, hn, e⟩ := List.mem_iff_getElem.mp h
  have hs : n < S.length := by rw [← s.len]; exact hn
  obtain ⟨a', e', f, c⟩ := s.cell n S[n] (List.getElem?_eq_getElem hs)
  have ea : a' = a := by
    rw [List.getElem?_eq_getElem hn, e] at e'
    exact (Option.some.inj e').symm
  subst ea
  exact ⟨n, S[n], List.getElem?_eq_getElem hs, e', f, c⟩
theorem StR.liveA {g : Gc} {F : Hp} {A : List Addr} {S : Store} {H : Hp} (s : StR g F A S H) {a : Addr} (h : a ∈ A) : ∃ o, H a = some o ∧ Mut (some o) := by
  obtain ⟨_, _, _, _, _, c⟩ := s.atA h
  exact c.live
theorem StR.freshA {g : Gc} {F : Hp} {A : List Addr} {S : Store} {H : Hp} (s : StR g F A S H) {a : Addr} (h : H a = none) : a ∉ A := fun m => by
  obtain ⟨o, e, _⟩ := s.liveA m
  rw [h] at e; cases e

structure Step (F : Hp) (A : List Addr) (H : Hp) (F' : Hp) (A' : List Addr) (H' : Hp) : Prop where
  le : Le F F'
  px : A <+: A'
  keep : ∀ a o, H a = some o → a ∉ A → H' a = some o
  frF : ∀ a, a ∉ A → F' a ≠ none → F a = none → ¬ Mut (H a)
  frA : ∀ a, a ∈ A' → a ∉ A → H a = none
  live : ∀ a, H a ≠ none → H' a ≠ none
theorem Step.refl {F : Hp} {A : List Addr} {H : Hp} : Step F A H F A H := ⟨Le.refl F, List.prefix_rfl, fun _ _ e _ => e, fun _ _ h n => absurd n h, fun _ h n => absurd h n, fun _ h => h⟩
theorem Step.trans {F F1 F2 : Hp} {A A1 A2 : List Addr} {H H1 H2 : Hp} (s : Step F A H F1 A1 H1) (t : Step F1 A1 H1 F2 A2 H2) : Step F A H F2 A2 H2 where
  le := s.le.trans t.le
  px := s.px.trans t.px
  keep := fun a o e n => by
    refine t.keep a o (s.keep a o e n) fun m => ?_
    have := s.frA a m n
    rw [e] at this; cases this
  frF := fun a na h n => by
    by_cases q : F1 a = none
    · by_cases m1 : a ∈ A1
      · rw [s.frA a m1 na]; exact id
      · intro mu
        cases e : H a with
        | none => rw [e] at mu; exact mu
        | some o =>
          have z := t.frF a m1 h q
          rw [s.keep a o e na] at z
          rw [e] at mu
          exact z mu
    · exact s.frF a na q n
  frA := fun a h n => by
    by_cases q : a ∈ A1
    · exact s.frA a q n
    · have z := t.frA a h q
      by_cases y : H a = none
      · exact y
      · exact absurd z (s.live a y)
  live := fun a h => t.live a (s.live a h)

inductive Sl where
  | no
  | v (d : D)
  | ol (xs : List D)
  | od (t : Bool) (ks vs : List D)
abbrev Rho := List Sl
def SlR (g : Gc) (F : Hp) (A : List Addr) (H : Hp) : Sl → Option V → Prop
  | .no, _ => True
  | .v d, o => ∃ v, o = some v ∧ Rep g F A v d
  | .ol xs, o => ∃ p vs, o = some (.ref p) ∧ H p = some (.lst vs) ∧ RepL g F A vs xs ∧ F p = none ∧ p ∉ A
  | .od t ks ws, o => ∃ p h vs, o = some (.ref p) ∧ H p = some h ∧ DctR h ks vs t ∧ RepL g F A vs ws ∧ F p = none ∧ p ∉ A
def Sl.own : Sl → Bool
  | .ol _ => true
  | .od _ _ _ => true
  | _ => false
theorem SlR.step {g : Gc} {F F' : Hp} {A A' : List Addr} {H H' : Hp} (s : Step F A H F' A' H') : ∀ {sl : Sl} {o : Option V}, SlR g F A H sl o → SlR g F' A' H' sl o
  | .no, _, _ => trivial
  | .v d, _, h => by obtain ⟨v, e, r⟩ := h; exact ⟨v, e, r.mono s.le s.px⟩
  | .ol xs, _, h => by
    obtain ⟨p, vs, e, q, r, f, n⟩ := h
    refine ⟨p, vs, e, s.keep _ _ q n, r.mono s.le s.px, ?_, fun m => ?_⟩
    · by_cases z : F' p = none
      · exact z
      · have := s.frF p n z f; rw [q] at this; exact (this trivial).elim
    · have := s.frA p m n; rw [q] at this; cases this
  | .od t ks ws, _, h => by
    obtain ⟨p, ho, vs, e, q, d, r, f, n⟩ := h
    refine ⟨p, ho, vs, e, s.keep _ _ q n, d, r.mono s.le s.px, ?_, fun m => ?_⟩
    · by_cases z : F' p = none
      · exact z
      · have := s.frF p n z f; rw [q] at this; exact (this (mut_dct d)).elim
    · have := s.frA p m n; rw [q] at this; cases this
theorem SlR.own_at {g : Gc} {F : Hp} {A : List Addr} {H : Hp} {sl : Sl} {o : Option V} (h : SlR g F A H sl o) (w : sl.own = true) : ∃ p, o = some (.ref p) ∧ H p ≠ none ∧ F p = none ∧ p ∉ A := by
  cases sl with
  | no => cases w
  | v d => cases w
  | ol xs => obtain ⟨p, vs, e, q, r, f, n⟩ := h; exact ⟨p, e, (by rw [q]; exact fun z => nomatch z), f, n⟩
  | od t ks ws => obtain ⟨p, ho, vs, e, q, d, r, f, n⟩ := h; exact ⟨p, e, (by rw [q]; exact fun z => nomatch z), f, n⟩

structure EnvR (g : Gc) (F : Hp) (A : List Addr) (H : Hp) (ρ : Rho) (σ : L2.St) : Prop where
  len : ρ.length = σ.length
  at_ : ∀ (i : Nat) (sl : Sl), ρ[i]? = some sl → ∃ o, σ[i]? = some o ∧ SlR g F A H sl o
  apart : ∀ (i j : Nat) (si sj : Sl) (p : Addr), i ≠ j → ρ[i]? = some si → si.own = true → ρ[j]? = some sj → sj.own = true → σ[i]? = some (some (.ref p)) → σ[j]? = some (some (.ref p)) → False
theorem EnvR.step {g : Gc} {F F' : Hp} {A A' : List Addr} {H H' : Hp} {ρ : Rho} {σ : L2.St} (e : EnvR g F A H ρ σ) (s : Step F A H F' A' H') : EnvR g F' A' H' ρ σ :=
  ⟨e.len, fun i sl h => let ⟨o, q, r⟩ := e.at_ i sl h; ⟨o, q, r.step s⟩, e.apart⟩
/-- a slot that owns nothing is set -/
theorem EnvR.set {g : Gc} {F : Hp} {A : List Addr} {H : Hp} {ρ : Rho} {σ : L2.St} (e : EnvR g F A H ρ σ) {i : Nat} {sl : Sl} {o : Option V} (r : SlR g F A H sl o) (hn : sl.own = false) : EnvR g F A H (ρ.set i sl) (σ.set i o) := by
  refine ⟨by simp [e.len], fun j sj h => ?_, fun j k sj sk p hjk hj wj hk wk ej ek => ?_⟩
  · by_cases hji : i = j
    · subst hji
      by_cases hl : i < ρ.length
      · rw [List.getElem?_set_self hl] at h; cases h
        exact ⟨o, by rw [List.getElem?_set_self (by rw [← e.len]; exact hl)], r⟩
      · rw [List.getElem?_eq_none (by simp; omega)] at h; cases h
    · rw [List.getElem?_set_ne hji] at h
      obtain ⟨o', q, r'⟩ := e.at_ j sj h
      exact ⟨o', by rw [List.getElem?_set_ne hji]; exact q, r'⟩
  · have nj : i ≠ j := fun z => by
      subst z
      by_cases hl : i < ρ.length
      · rw [List.getElem?_set_self hl] at hj; cases hj; rw [hn] at wj; cases wj
      · rw [List.getElem?_eq_none (by simp; omega)] at hj; cases hj
    have nk : i ≠ k := fun z => by
      subst z
      by_cases hl : i < ρ.length
      · rw [List.getElem?_set_self hl] at hk; cases hk; rw [hn] at wk; cases wk
      · rw [List.getElem?_eq_none (by simp; omega)] at hk; cases hk
    rw [List.getElem?_set_ne nj] at hj ej
    rw [List.getElem?_set_ne nk] at hk ek
    exact e.apart j k sj sk p hjk hj wj hk wk ej ek

section
variable {g : Gc} {F : Hp} {A : List Addr} {S : Store} {H : Hp} {p : Addr} {o : HO}
/-- a new object that is known from now on -/
theorem StR.new (s : StR g F A S H) (h : H p = none) : Step F A H (upd F p o) A (upd H p o) ∧ StR g (upd F p o) A S (upd H p o) := by
  have hf := s.fin.none h
  have ha := s.freshA h
  refine ⟨⟨Le.new hf, List.prefix_rfl, fun a u e _ => by rw [upd_ne (ne_of_none e h)]; exact e, fun a _ q n => ?_, fun a m n => absurd m n, fun a q => ?_⟩, ⟨s.len, s.nd, fun a u e => ?_, fun n c hc => ?_⟩⟩
  · by_cases z : a = p
    · rw [z, h]; exact id
    · rw [upd_ne z] at q; exact absurd n q
  · by_cases z : a = p
    · rw [z, upd_same]; exact fun y => nomatch y
    · rw [upd_ne z]; exact q
  · by_cases z : a = p
    · subst z; rw [upd_same] at e; cases e; exact .inl upd_same
    · rw [upd_ne z] at e; rw [upd_ne z]; exact s.fin a u e
  · obtain ⟨a, e1, e2, e3⟩ := s.cell n c hc
    have z : a ≠ p := fun z => ha (z ▸ List.mem_of_getElem? e1)
    exact ⟨a, e1, by rw [upd_ne z]; exact e2, e3.mono (Le.new hf) List.prefix_rfl (upd_ne z)⟩
/-- a new object that is nobody's yet -/
theorem StR.own (s : StR g F A S H) (h : H p = none) : Step F A H F A (upd H p o) ∧ StR g F A S (upd H p o) ∧ F p = none ∧ p ∉ A := by
  have hf := s.fin.none h
  have ha := s.freshA h
  refine ⟨⟨Le.refl F, List.prefix_rfl, fun a u e _ => by rw [upd_ne (ne_of_none e h)]; exact e, fun a _ q n => absurd n q, fun a m n => absurd m n, fun a q => ?_⟩, ⟨s.len, s.nd, fun a u e => ?_, fun n c hc => ?_⟩, hf, ha⟩
  · by_cases z : a = p
    · rw [z, upd_same]; exact fun y => nomatch y
    · rw [upd_ne z]; exact q
  · have z : a ≠ p := fun z => by rw [z, hf] at e; cases e
    rw [upd_ne z]; exact s.fin a u e
  · obtain ⟨a, e1, e2, e3⟩ := s.cell n c hc
    have z : a ≠ p := fun z => ha (z ▸ List.mem_of_getElem? e1)
    exact ⟨a, e1, e2, e3.mono (Le.refl F) List.prefix_rfl (upd_ne z)⟩
/-- an object that is nobody's changes -/
theorem StR.mut (s : StR g F A S H) (hf : F p = none) (ha : p ∉ A) : StR g F A S (upd H p o) := by
  refine ⟨s.len, s.nd, fun a u e => ?_, fun n c hc => ?_⟩
  · have z : a ≠ p := fun z => by rw [z, hf] at e; cases e
    rw [upd_ne z]; exact s.fin a u e
  · obtain ⟨a, e1, e2, e3⟩ := s.cell n c hc
    have z : a ≠ p := fun z => ha (z ▸ List.mem_of_getElem? e1)
    exact ⟨a, e1, e2, e3.mono (Le.refl F) List.prefix_rfl (upd_ne z)⟩
/-- an object that is nobody's becomes known -/
theorem StR.give (s : StR g F A S H) (h : H p = some o) (hf : F p = none) (ha : p ∉ A) : Le F (upd F p o) ∧ StR g (upd F p o) A S H := by
  refine ⟨Le.new hf, ⟨s.len, s.nd, fun a u e => ?_, fun n c hc => ?_⟩⟩
  · by_cases z : a = p
    · subst z; rw [upd_same] at e; cases e; exact .inl h
    · rw [upd_ne z] at e; exact s.fin a u e
  · obtain ⟨a, e1, e2, e3⟩ := s.cell n c hc
    have z : a ≠ p := fun z => ha (z ▸ List.mem_of_getElem? e1)
    exact ⟨a, e1, by rw [upd_ne z]; exact e2, e3.mono (Le.new hf) List.prefix_rfl rfl⟩
theorem getElem?_inj_nodup {α : Type} {l : List α} (nd : l.Nodup) {i j : Nat} {x : α} (hi : l[i]? = some x) (hj : l[j]? = some x) : i = j := by
  obtain ⟨h1, e1⟩ := List.getElem?_eq_some_iff.mp hi
  obtain ⟨h2, e2⟩ := List.getElem?_eq_some_iff.mp hj
  exact (List.getElem_inj nd).mp (e1.trans e2.symm)
/-- a cell changes -/
theorem StR.put (s : StR g F A S H) {n : Nat} {a : Addr} {c' : Cell} (e : A[n]? = some a) (h : CellR g F A (upd H a o) a c') : Step F A H F A (upd H a o) ∧ StR g F A (S.set n c') (upd H a o) := by
  have hm : a ∈ A := List.mem_of_getElem? e
  have hn : n < S.length := by rw [← s.len]; exact (List.getElem?_eq_some_iff.mp e).1
  have hf : F a = none := by obtain ⟨_, _, _, _, f, _⟩ := s.atA hm; exact f
  refine ⟨⟨Le.refl F, List.prefix_rfl, fun b u q nb => by
    have z : b ≠ a := fun z => nb (by rw [z]; exact hm)
    rw [upd_ne z]; exact q, fun b _ q m => absurd m q, fun b m q => absurd m q, fun b q => ?_⟩, ⟨by simp [s.len], s.nd, fun b u q => ?_, fun k c hc => ?_⟩⟩
  · by_cases z : b = a
    · rw [z, upd_same]; exact fun y => nomatch y
    · rw [upd_ne z]; exact q
  · have z : b ≠ a := fun z => by rw [z, hf] at q; cases q
    rw [upd_ne z]; exact s.fin b u q
  · by_cases z : n = k
    · subst z
      rw [List.getElem?_set_self hn] at hc; cases hc
      exact ⟨a, e, hf, h⟩
    · rw [List.getElem?_set_ne z] at hc
      obtain ⟨b, e1, e2, e3⟩ := s.cell k c hc
      have y : b ≠ a := fun y => z (getElem?_inj_nodup s.nd e (y ▸ e1))
      exact ⟨b, e1, e2, e3.mono (Le.refl F) List.prefix_rfl (upd_ne y)⟩
/-- a new cell -/
theorem StR.cellNew (s : StR g F A S H) {c : Cell} (h : H p = none) (r : CellR g F (A ++ [p]) (upd H p o) p c) : Step F A H F (A ++ [p]) (upd H p o) ∧ StR g F (A ++ [p]) (S ++ [c]) (upd H p o) := by
  have hf := s.fin.none h
  have ha := s.freshA h
  have px : A <+: A ++ [p] := List.prefix_append _ _
  refine ⟨⟨Le.refl F, px, fun a u e _ => by rw [upd_ne (ne_of_none e h)]; exact e, fun a _ q n => absurd n q, fun a m n => ?_, fun a q => ?_⟩, ⟨by simp [s.len], ?_, fun a u e => ?_, fun n c' hc => ?_⟩⟩
  · rcases List.mem_append.mp m with m | m
    · exact absurd m n
    · rw [List.mem_singleton.mp m]; exact h
  · by_cases z : a = p
    · rw [z, upd_same]; exact fun y => nomatch y
    · rw [upd_ne z]; exact q
  · rw [List.nodup_append]
    exact ⟨s.nd, by simp, fun x hx y hy e => ha (by rw [List.mem_singleton.mp hy] at e; exact e ▸ hx)⟩
  · have z : a ≠ p := fun z => by rw [z, hf] at e; cases e
    rw [upd_ne z]; exact s.fin a u e
  · by_cases hn : n < S.length
    · rw [List.getElem?_append_left hn] at hc
      obtain ⟨a, e1, e2, e3⟩ := s.cell n c' hc
      have z : a ≠ p := fun z => ha (z ▸ List.mem_of_getElem? e1)
      exact ⟨a, Px.get px e1, e2, e3.mono (Le.refl F) px (upd_ne z)⟩
    · have hn2 : n = S.length := by
        have := (List.getElem?_eq_some_iff.mp hc).1
        simp at this; omega
      subst hn2
      rw [List.getElem?_append_right (Nat.le_refl _), Nat.sub_self] at hc
      cases hc
      refine ⟨p, ?_, hf, r⟩
      rw [← s.len, List.getElem?_append_right (Nat.le_refl _), Nat.sub_self]; rfl
end
end G
namespace G
open PySem PySem.Spec PyProof.Rows L2

/-! ### the small language -/
inductive BO where
  | add | sub | mul | fdiv | mod | pow | shl | shr | band | bor
  deriving DecidableEq
inductive CO where
  | eq | ne | lt | le | gt | ge | is_ | isn | in_ | nin
  deriving DecidableEq
inductive Ty where
  | tup | lst | int | bool | str | dct
  deriving DecidableEq
/-- built-in functions, by what is passed -/
inductive Bi where
  | len | abs | max1 | max2 | min1 | min2 | sum | all | any | int | str | list | tuple | sorted | divmod | gcd | set
  deriving DecidableEq
/-- methods of built-in types -/
inductive Me where
  | get2 | index | count | join | split | endswith | replace | upper
  deriving DecidableEq
/-- what a for walks -/
inductive ItK where
  | over | keys | range1 | range2 | enum | zip | items
  deriving DecidableEq
/-- targets: a name, or a tuple of names -/
inductive Tg where
  | name (i : Nat)
  | tup (is : List Nat)
  deriving DecidableEq
inductive E where
  | no
  | var (i : Nat)
  | bor (i : Nat)
  | con (d : D)
  | glo (k : Nat)
  | fnv (f : Nat)
  | tup (es : List E)
  | star (e : E)
  | lst (es : List E)
  | cell (e : E)
  | dct0 (t : Bool)
  | disp (ks : List Str) (es : List E)
  | lrg (es : List E)
  | kin (neg : Bool) (k : Nat) (a : E)
  | kidx (k : Nat) (a : E)
  | bin (o : BO) (a b : E)
  | neg (a : E)
  | not (a : E)
  | and (a b : E)
  | or (a b : E)
  | ite (c a b : E)
  | cmp (o : CO) (a b : E)
  | chn (o o' : CO) (a b c : E)
  | call (f : Nat) (es : List E)
  | bi (b : Bi) (es : List E)
  | mth (m : Me) (o : E) (es : List E)
  | idx (a i : E)
  | slc (a : E) (lo hi : List E)
  | rev (a : E)
  | lc (own : List Nat) (tg : Tg) (k : ItK) (it : List E) (ifs : List E) (elt : E)
  | dc (own : List Nat) (tg : Tg) (k : ItK) (it : List E) (ke ve : E)
  | isi (ts : List Ty) (a : E)
  | fld (c : Nat) (f : Str) (a : E)
  | prop (c f : Nat) (a : E)
  | meth (c : Nat) (m : Str) (f : Nat) (o : E) (es : List E)
  | new (c f : Nat) (es : List E)
  | callK (f : Nat) (es : List E) (ks : List Str) (p : List Nat)
  | methK (c : Nat) (m : Str) (f : Nat) (o : E) (es : List E) (ks : List Str) (p : List Nat)
  | newK (c f : Nat) (es : List E) (ks : List Str) (p : List Nat)
/-- what an except suite hands back: a tuple (or a list) of constants and of the error's own field -/
inductive HE where
  | con (d : D)
  | fld
inductive S where
  | no
  | asg (i : Nat) (e : E)
  | own (i : Nat) (e : E)
  | asgT (is : List Nat) (e : E)
  | par2 (i j : Nat) (oi oj : Bool) (a b : E)
  | par3 (i j k : Nat) (a b c : E)
  | parL (is : List Nat) (i : Nat) (es : List E) (e : E)
  | pop (j i : Nat) (e : E)
  | setI (i : Nat) (ix e : E)
  | setC (o ix e : E)
  | setF (c : Nat) (f : Str) (o e : E)
  | ex (e : E)
  | app (i : Nat) (e : E)
  | ins0 (i : Nat) (e : E)
  | ife (c : E) (t f : List S)
  | for_ (tg : Tg) (k : ItK) (it : List E) (body : List S)
  | ret (e : E)
  | retN
  | rais (c : Nat) (es : List E)
  | try_ (body : List S) (hs : List (Nat × Option Nat × List HE))
  | frz (i : Nat)
  | pass

/-! ### outcomes -/
inductive Out (α : Type) where
  | ok (a : α) (S : Store)
  | ex (c : Nat) (d : Option D) (S : Store)
  | no
def Out.bind {α β : Type} (x : Out α) (f : α → Store → Out β) : Out β := match x with
  | .ok a S => f a S
  | .ex c d S => .ex c d S
  | .no => .no
/-- an exception may not leave here -/
def Out.shut {α : Type} (x : Out α) : Out α := match x with
  | .ex _ _ _ => .no
  | y => y
def Out.of {α : Type} (o : Option α) (S : Store) : Out α := match o with
  | some a => .ok a S
  | none => .no
abbrev Call := Nat → List D → Store → Out D

/-! ### values -/
/-- a display of a dict, keys are texts -/
def dispOk (ks : List Str) (ds : List D) : Bool := decide (ks.length = ds.length ∧ ks.length ≤ 15 ∧ ks ≠ [] ∧ ks.Nodup)
/-- the items of a list or a tuple (true: a tuple) -/
def seqOf (S : Store) : D → Option (Bool × List D)
  | .tup xs => some (true, xs)
  | .kt xs => some (true, xs)
  | .lst xs => some (false, xs)
  | .kl xs => some (false, xs)
  | .ref n => match S[n]? with
    | some (.lst xs) => some (false, xs)
    | _ => none
  | _ => none
def dctOf (S : Store) : D → Option (Bool × List D × List D)
  | .dct t ks vs => some (t, ks, vs)
  | .ref n => match S[n]? with
    | some (.dct t ks vs) => some (t, ks, vs)
    | _ => none
  | _ => none
def seqs (S : Store) (d : D) : Option (List D) := (seqOf S d).map (·.2)
def lseq (S : Store) (d : D) : Option (List D) := match seqOf S d with
  | some (false, xs) => some xs
  | _ => none
def intsOf : List D → Option (List Int)
  | [] => some []
  | .int i :: r => (intsOf r).map (i :: ·)
  | _ :: _ => none
def blsOf : List D → Option (List Bool)
  | [] => some []
  | .bl i :: r => (blsOf r).map (i :: ·)
  | _ :: _ => none
def strsOf : List D → Option (List Str)
  | [] => some []
  | .str i :: r => (strsOf r).map (i :: ·)
  | _ :: _ => none
/-! as data of the library -/
mutual
def toPy : D → Option PyData
  | .non => some .none
  | .bl b => some (.bool b)
  | .int i => some (.int i)
  | .str s => some (.str s)
  | .tup xs => (toPys xs).map .tuple
  | .kt xs => (toPys xs).map .tuple
  | .lst xs => (toPys xs).map .list
  | .kl xs => (toPys xs).map .list
  | _ => none
def toPys : List D → Option (List PyData)
  | [] => some []
  | d :: r => match toPy d, toPys r with
    | some p, some ps => some (p :: ps)
    | _, _ => none
end
/-- small enough for the library's == -/
def fine (p : PyData) : Bool := SeqAt.shaped p
def pyEq (d e : D) : Option Bool := match toPy d, toPy e with
  | some p, some q => if fine p && fine q then some (PyData.eqv p q) else none
  | _, _ => none
def small (i : Int) : Bool := decide (-(2 ^ 64) < i ∧ i < 2 ^ 64)
def line (n : Nat) : Bool := decide (n ≤ 1000000)

def binop (S : Store) : BO → D → D → Option D
  | .add, .int i, .int j => some (.int (i + j))
  | .add, .int i, .bl k => some (.int (i + if k then 1 else 0))
  | .add, .str x, .str y => if line (x.length + y.length) then some (.str (x ++ y)) else none
  | .add, .tup xs, .tup ys => if line (xs.length + ys.length) then some (.tup (xs ++ ys)) else none
  | .add, .lst xs, .lst ys => if line (xs.length + ys.length) then some (.lst (xs ++ ys)) else none
  | .sub, .int i, .int j => some (.int (i - j))
  | .mul, .int i, .int j => if small i || small j then some (.int (i * j)) else none
  | .mul, .lst xs, .int k => if decide (0 ≤ k ∧ k ≤ 1000) && line (xs.length * k.toNat) then some (.lst (List.replicate k.toNat xs).flatten) else none
  | .mul, .tup xs, .int k => if k = 1 then some (.tup xs) else if decide (2 ≤ k ∧ k ≤ 1000 ∧ xs ≠ []) && decide (xs.length ≤ 1000) then some (.tup (List.replicate k.toNat xs).flatten) else none
  | .fdiv, .int i, .int j => if decide (j ≠ 0 ∧ j.natAbs < 1073741824) then some (.int (i.fdiv j)) else none
  | .mod, .int i, .int j => if decide (j ≠ 0) then some (.int (i.fmod j)) else none
  | .pow, .int i, .int j => if decide (0 ≤ j ∧ j ≤ 1000) && decide (i.natAbs < 2 ^ 64) then some (.int (i ^ j.toNat)) else none
  | .shl, .int i, .int j => if decide (0 ≤ j ∧ j ≤ 1000) && decide (i.natAbs < 2 ^ 64) then some (.int (i * 2 ^ j.toNat)) else none
  | .shr, .int i, .int j => if decide (0 ≤ j) then some (.int (i / 2 ^ j.toNat)) else none
  | .band, .int i, .int j => some (.int (Builtin.bitAnd i j))
  | .bor, .int i, .int j => some (.int (Builtin.bitOr i j))
  | _, _, _ => none
def flatD : D → Bool
  | .non => true
  | .bl _ => true
  | .int _ => true
  | .str _ => true
  | _ => false
def eqF : D → D → Bool
  | .non, .non => true
  | .bl a, .bl b => a == b
  | .bl a, .int b => (if a then 1 else 0) == b
  | .int a, .bl b => a == (if b then 1 else 0)
  | .int a, .int b => a == b
  | .str a, .str b => a == b
  | _, _ => false
/-- x in xs: flat things, or data in a list -/
def pyIn (x : D) (t : Bool) (xs : List D) : Option Bool :=
  if flatD x && xs.all flatD then some (xs.any fun y => eqF y x)
  else if t then none
  else match toPy x, toPys xs with
    | some p, some ps => if fine p && fine (.list ps) then some (ps.any fun z => PyData.eqv z p) else none
    | _, _ => none
def keq : D → D → Bool
  | .int i, .int j => decide (i = j)
  | .str x, .str y => decide (x = y)
  | .tup xs, .tup ys => match dkeys xs, dkeys ys with
    | some a, some b => decide (a = b)
    | _, _ => false
  | _, _ => false
def isKey : Bool → D → Bool
  | true, d => (dkeyT d).isSome
  | false, d => (dkey d).isSome
def dget (ks vs : List D) (k : D) : Option D := match ks, vs with
  | k' :: ks, v :: vs => if keq k' k then some v else dget ks vs k
  | _, _ => none
def repV : List D → List D → D → D → List D
  | k' :: ks, v' :: vs, k, v => (if keq k' k = true then v else v') :: repV ks vs k v
  | _, _, _, _ => []
def dputV (ks vs : List D) (k v : D) : List D := if (ks.any fun j => keq j k) = true then repV ks vs k v else vs ++ [v]
def dputK (ks : List D) (k : D) : List D := if (ks.any fun j => keq j k) = true then ks else ks ++ [k]
def cmpop (S : Store) : CO → D → D → Option Bool
  | .eq, d, e => pyEq d e
  | .ne, d, e => (pyEq d e).map (!·)
  | .lt, .int i, .int j => some (decide (i < j))
  | .le, .int i, .int j => some (decide (i ≤ j))
  | .gt, .int i, .int j => some (decide (j < i))
  | .ge, .int i, .int j => some (decide (j ≤ i))
  | .is_, .non, .non => some true
  | .is_, .ref _, _ => none
  | .is_, .fn _, _ => none
  | .is_, _, .non => some false
  | .is_, .bl a, .bl b => some (decide (a = b))
  | .isn, .non, .non => some false
  | .isn, .ref _, _ => none
  | .isn, .fn _, _ => none
  | .isn, _, .non => some true
  | .isn, .bl a, .bl b => some (!decide (a = b))
  | .in_, x, y => match dctOf S y with
    | some (t, ks, vs) => if isKey t x then some (dget ks vs x).isSome else none
    | none => match y with
      | .str _ => none
      | _ => (seqOf S y).bind fun q => pyIn x q.1 q.2
  | .nin, x, y => match dctOf S y with
    | some (t, ks, vs) => if isKey t x then some (!(dget ks vs x).isSome) else none
    | none => match y with
      | .str _ => none
      | _ => ((seqOf S y).bind fun q => pyIn x q.1 q.2).map (!·)
  | _, _, _ => none
def ixOf (n : Nat) (i : Int) : Option Nat := ixN n i
def index (S : Store) (d i : D) : Option D := match dctOf S d with
  | some (t, ks, vs) => if isKey t i then dget ks vs i else none
  | none => match i with
    | .int k => (seqs S d).bind fun xs => (ixOf xs.length k).bind fun j => xs[j]?
    | _ => none
def cutD (xs : List D) (lo hi : Option Int) : List D := (xs.drop (HT.sIx xs.length 0 lo)).take (HT.sIx xs.length xs.length hi - HT.sIx xs.length 0 lo)
def isKt : D → Bool
  | .kt _ => true
  | _ => false
def optB : List D → Store → Out (Option Int)
  | [], S => .ok none S
  | [.int i], S => .ok (some i) S
  | _, _ => .no
def slice (S : Store) (d : D) (a b : Option Int) : Option D := if isKt d then none else (seqOf S d).bind fun p => some (if p.1 = true then .tup (cutD p.2 a b) else .lst (cutD p.2 a b))
def revD (S : Store) (d : D) : Option D := (seqOf S d).bind fun p => some (if p.1 then .tup p.2.reverse else .lst p.2.reverse)

def maxI : List Int → Option Int
  | [] => none
  | x :: r => some (r.foldl (fun m y => if m < y then y else m) x)
def minI : List Int → Option Int
  | [] => none
  | x :: r => some (r.foldl (fun m y => if y < m then y else m) x)
def insI (x : Int) : List Int → List Int
  | [] => [x]
  | y :: r => if x ≤ y then x :: y :: r else y :: insI x r
def sortI : List Int → List Int
  | [] => []
  | x :: r => insI x (sortI r)
def isTy : Ty → D → Option Bool
  | .tup, .tup _ => some true
  | .tup, .kt _ => some true
  | .lst, .lst _ => some true
  | .lst, .kl _ => some true
  | _, .dct true _ _ => none
  | .dct, .dct false _ _ => some true
  | .int, .int _ => some true
  | .int, .bl _ => some true
  | .bool, .bl _ => some true
  | .str, .str _ => some true
  | _, .ref _ => none
  | _, .fn _ => none
  | _, _ => some false
def isTys : List Ty → D → Option Bool
  | [], _ => some false
  | t :: r, d => match isTy t d, isTys r d with
    | some a, some b => some (a || b)
    | _, _ => none
def bLen (S : Store) : List D → Option D
  | [d] => match d with
    | .str s => if line s.length then some (.int s.length) else none
    | _ => match dctOf S d with
      | some (false, ks, _) => some (.int ks.length)
      | some (true, _, _) => none
      | none => (seqs S d).map fun xs => .int xs.length
  | _ => none
def bAbs (S : Store) : List D → Option D
  | [.int i] => some (.int (if i < 0 then -i else i))
  | _ => none
def bMax1 (S : Store) : List D → Option D
  | [d] => (lseq S d).bind fun xs => (intsOf xs).bind fun ns => (maxI ns).map .int
  | _ => none
def bMin1 (S : Store) : List D → Option D
  | [d] => (lseq S d).bind fun xs => (intsOf xs).bind fun ns => (minI ns).map .int
  | _ => none
def bMax2 (S : Store) : List D → Option D
  | [.int i, .int j] => some (.int (if i < j then j else i))
  | _ => none
def bMin2 (S : Store) : List D → Option D
  | [.int i, .int j] => some (.int (if j < i then j else i))
  | _ => none
def bSum (S : Store) : List D → Option D
  | [d] => (lseq S d).bind fun xs => (intsOf xs).map fun ns => .int ns.sum
  | _ => none
def bAll (S : Store) : List D → Option D
  | [d] => (lseq S d).bind fun xs => (blsOf xs).map fun bs => .bl (bs.all id)
  | _ => none
def bAny (S : Store) : List D → Option D
  | [d] => (lseq S d).bind fun xs => (blsOf xs).map fun bs => .bl (bs.any id)
  | _ => none
def bInt (S : Store) : List D → Option D
  | [.int i] => some (.int i)
  | [.bl b] => some (.int (if b then 1 else 0))
  | _ => none
def bStr (S : Store) : List D → Option D
  | [.int i] => if decide (i.natAbs < 2 ^ 64) then some (.str (toString i)) else none
  | _ => none
def bList (S : Store) : List D → Option D
  | [d] => (seqs S d).map .lst
  | _ => none
def bTuple (S : Store) : List D → Option D
  | [d] => match d with
    | .kt _ => none
    | _ => (seqs S d).map .tup
  | _ => none
def bSorted (S : Store) : List D → Option D
  | [d] => (seqs S d).bind fun xs => (intsOf xs).map fun ns => .lst ((sortI ns).map .int)
  | _ => none
def bDivmod (S : Store) : List D → Option D
  | [.int i, .int j] => if decide (0 < j ∧ j < 1073741824) then some (.tup [.int (i / j), .int (i % j)]) else none
  | _ => none
def bGcd (S : Store) : List D → Option D
  | [.int i, .int j] => some (.int (Nat.gcd i.natAbs j.natAbs : Nat))
  | _ => none
def bfun (S : Store) : Bi → List D → Option D
  | .len => bLen S
  | .abs => bAbs S
  | .max1 => bMax1 S
  | .min1 => bMin1 S
  | .max2 => bMax2 S
  | .min2 => bMin2 S
  | .sum => bSum S
  | .all => bAll S
  | .any => bAny S
  | .int => bInt S
  | .str => bStr S
  | .list => bList S
  | .tuple => bTuple S
  | .sorted => bSorted S
  | .divmod => bDivmod S
  | .gcd => bGcd S
  | .set => fun _ => none
def metf (S : Store) : Me → D → List D → Option D
  | .get2, d, [k, x] => match dctOf S d with
    | some (t, ks, vs) => if isKey t k then some ((dget ks vs k).getD x) else none
    | none => none
  | _, _, _ => none
/-- what a for gives, item by item -/
def pairs : List D → List D → List D
  | x :: xs, y :: ys => .tup [x, y] :: pairs xs ys
  | _, _ => []
def upto (lo : Int) : Nat → List D
  | 0 => []
  | n + 1 => .int lo :: upto (lo + 1) n
def bnd (i : Int) : Bool := decide (-(2 ^ 62) ≤ i ∧ i < 2 ^ 62)
/-- what cannot change while it is walked -/
def seqI : D → Option (Bool × List D)
  | .tup xs => some (true, xs)
  | .kt xs => some (true, xs)
  | .lst xs => some (false, xs)
  | .kl xs => some (false, xs)
  | _ => none
def itemsOf : ItK → List D → Option (List D)
  | .over, [d] => (seqI d).map (·.2)
  | .keys, [.dct _ ks _] => some ks
  | .range1, [.int n] => if bnd n then some (upto 0 n.toNat) else none
  | .range2, [.int i, .int j] => if bnd i && bnd j then some (upto i (j - i).toNat) else none
  | .enum, [d] => (seqI d).map fun p => pairs (upto 0 p.2.length) p.2
  | .zip, [d, e] => match seqI d, seqI e with
    | some (t, xs), some (u, ys) => if t = u then some (pairs xs ys) else none
    | _, _ => none
  | .items, [.dct false ks vs] => some (pairs ks vs)
  | _, _ => none

/-! ### slots -/
def Rho.val (ρ : Rho) (i : Nat) : Option D := match ρ[i]? with
  | some (.v d) => some d
  | _ => none
def Rho.borrow (ρ : Rho) (i : Nat) : Option D := match ρ[i]? with
  | some (.ol xs) => some (.lst xs)
  | some (.od t ks vs) => some (.dct t ks vs)
  | _ => none
def wipeR (ρ : Rho) : List Nat → Rho
  | [] => ρ
  | v :: vs => (wipeR ρ vs).set v .no
def putAll (ρ : Rho) : List Nat → List D → Option Rho
  | [], [] => some ρ
  | i :: is, d :: ds => putAll (ρ.set i (.v d)) is ds
  | _, _ => none
def putTg (S : Store) (ρ : Rho) : Tg → D → Option Rho
  | .name i, d => some (ρ.set i (.v d))
  | .tup is, .tup xs => putAll ρ is xs
  | .tup is, .kt xs => putAll ρ is xs
  | _, _ => none

/-- the fields of an object of class c -/
def objOf (S : Store) (c : Nat) : D → Option (List (Str × D))
  | .ref n => match S[n]? with
    | some (.obj c' fs) => if c' = c then some fs else none
    | _ => none
  | _ => none
/-- gives the elements of a list comprehension, from the left -/
def compL (tg : Tg) (ρ : Rho) (test : Rho → Store → Out Bool) (f : Rho → Store → Out D) : List D → List D → Store → Out (List D)
  | acc, [], S => .ok acc S
  | acc, x :: xs, S => match putTg S ρ tg x with
    | none => .no
    | some ρ' => (test ρ' S).bind fun b S1 =>
        if b then (f ρ' S1).bind fun y S2 => if line acc.length then compL tg ρ test f (acc ++ [y]) xs S2 else .no
        else compL tg ρ test f acc xs S1

/-- what is fixed: the calls, the module's constants, its written tables, which class is below which -/
structure Ev where
  call : Call
  glo : Nat → Option D
  tab : Nat → List (Str × D)
  sub : Nat → Nat → Option Bool
def rgok (i j : Int) : Bool := bnd i && bnd j && decide ((j - i).toNat ≤ 1000000)
def rgl : List D → Option D
  | [.int n] => if rgok 0 n then some (.lst (upto 0 n.toNat)) else none
  | [.int i, .int j] => if rgok i j then some (.lst (upto i (j - i).toNat)) else none
  | _ => none
/-- the entries of a dict comprehension -/
def compD (tg : Tg) (ρ : Rho) (fk fv : Rho → Store → Out D) : List D → List D → List D → Store → Out (List D × List D)
  | ks, vs, [], S => .ok (ks, vs) S
  | ks, vs, x :: xs, S => match putTg S ρ tg x with
    | none => .no
    | some ρ' => (fk ρ' S).bind fun k S1 => (fv ρ' S1).bind fun v S2 =>
        if line ks.length && (dkey k).isSome then compD tg ρ fk fv (dputK ks k) (dputV ks vs k v) xs S2 else .no
/-- what keywords give, in the order of the parameters -/
def permD (p : List Nat) (ds : List D) : List D := p.filterMap fun i => ds[i]?
section
variable (ev : Ev)
mutual
def evalE (ρ : Rho) : E → Store → Out D
  | .no, _ => .no
  | .var i, S => .of (ρ.val i) S
  | .bor i, S => .of (ρ.borrow i) S
  | .con d, S => .ok d S
  | .glo k, S => .of (ev.glo k) S
  | .fnv f, S => .ok (.fn f) S
  | .tup es, S => (evalEs ρ es S).bind fun ds S1 => if line ds.length then .ok (.tup ds) S1 else .no
  | .star _, _ => .no
  | .lst es, S => (evalEs ρ es S).bind fun ds S1 => if line ds.length then .ok (.lst ds) S1 else .no
  | .cell e, S => (evalE ρ e S).bind fun d S1 => match d with
    | .lst xs => .ok (.ref S1.length) (S1 ++ [.lst xs])
    | .dct t ks vs => .ok (.ref S1.length) (S1 ++ [.dct t ks vs])
    | _ => .no
  | .dct0 t, S => .ok (.dct t [] []) S
  | .disp ks es, S => (evalEs ρ es S).bind fun ds S1 => if dispOk ks ds = true then .ok (.dct false (ks.map .str) ds) S1 else .no
  | .lrg es, S => (evalEs ρ es S).bind fun ds S1 => .of (rgl ds) S1
  | .kin neg k a, S => (evalE ρ a S).bind fun x S1 => match x with
    | .str z => .ok (.bl (if neg = true then !((ev.tab k).lookup z).isSome else ((ev.tab k).lookup z).isSome)) S1
    | _ => .no
  | .kidx k a, S => (evalE ρ a S).bind fun x S1 => match x with
    | .str z => .of ((ev.tab k).lookup z) S1
    | _ => .no
  | .bin o a b, S => (evalE ρ a S).bind fun x S1 => (evalE ρ b S1).bind fun y S2 => .of (binop S2 o x y) S2
  | .neg a, S => (evalE ρ a S).bind fun x S1 => match x with
    | .int i => .ok (.int (-i)) S1
    | _ => .no
  | .not a, S => (evalE ρ a S).bind fun x S1 => match x with
    | .bl b => .ok (.bl (!b)) S1
    | _ => .no
  | .and a b, S => (evalE ρ a S).bind fun x S1 => match x with
    | .bl true => evalE ρ b S1
    | .bl false => .ok (.bl false) S1
    | _ => .no
  | .or a b, S => (evalE ρ a S).bind fun x S1 => match x with
    | .bl false => evalE ρ b S1
    | .bl true => .ok (.bl true) S1
    | _ => .no
  | .ite c a b, S => (evalE ρ c S).bind fun x S1 => match x with
    | .bl true => evalE ρ a S1
    | .bl false => evalE ρ b S1
    | _ => .no
  | .cmp o a b, S => (evalE ρ a S).bind fun x S1 => (evalE ρ b S1).bind fun y S2 => .of ((cmpop S2 o x y).map .bl) S2
  | .chn o o' a b c, S => (evalE ρ a S).bind fun x S1 => (evalE ρ b S1).bind fun y S2 => match cmpop S2 o x y with
    | some true => (evalE ρ c S2).bind fun z S3 => .of ((cmpop S3 o' y z).map .bl) S3
    | some false => .ok (.bl false) S2
    | none => .no
  | .call f es, S => (evalEs ρ es S).bind fun ds S1 => ev.call f ds S1
  | .bi b es, S => (evalEs ρ es S).bind fun ds S1 => .of (bfun S1 b ds) S1
  | .mth m o es, S => (evalE ρ o S).bind fun x S1 => match dctOf S1 x with
    | none => .no
    | some _ => (evalEs ρ es S1).bind fun ds S2 => .of (metf S2 m x ds) S2
  | .idx a i, S => (evalE ρ a S).bind fun x S1 => (evalE ρ i S1).bind fun y S2 => .of (index S2 x y) S2
  | .slc a lo hi, S => (evalE ρ a S).bind fun x S1 => ((evalEs ρ lo S1).bind optB).bind fun l S2 => ((evalEs ρ hi S2).bind optB).bind fun h S3 => .of (slice S3 x l h) S3
  | .rev a, S => (evalE ρ a S).bind fun x S1 => .of (revD S1 x) S1
  | .lc own tg k it ifs elt, S => (evalEs ρ it S).bind fun ds S1 => match itemsOf k ds with
    | none => .no
    | some xs => ((compL tg (wipeR ρ own) (fun ρ' S => evalT ρ' ifs S) (fun ρ' S => evalE ρ' elt S) [] xs S1).shut).bind fun ys S2 => .ok (.lst ys) S2
  | .dc own tg k it ke ve, S => (evalEs ρ it S).bind fun ds S1 => match itemsOf k ds with
    | none => .no
    | some xs => ((compD tg (wipeR ρ own) (fun ρ' S => evalE ρ' ke S) (fun ρ' S => evalE ρ' ve S) [] [] xs S1).shut).bind fun p S2 => .ok (.dct false p.1 p.2) S2
  | .isi ts a, S => (evalE ρ a S).bind fun x S1 => .of ((isTys ts x).map .bl) S1
  | .fld c f a, S => (evalE ρ a S).bind fun x S1 => .of ((objOf S1 c x).bind fun fs => fs.lookup f) S1
  | .prop c f a, S => (evalE ρ a S).bind fun x S1 => match objOf S1 c x with
    | some _ => (ev.call f [x] S1).shut
    | none => .no
  | .meth c m f o es, S => (evalE ρ o S).bind fun x S1 => match (objOf S1 c x).bind fun fs => if (fs.lookup m).isSome then none else some () with
    | some _ => (evalEs ρ es S1).bind fun ds S2 => ev.call f (x :: ds) S2
    | none => .no
  | .new c f es, S => (evalEs ρ es S).bind fun ds S1 => (ev.call f (.ref S1.length :: ds) (S1 ++ [.obj c []])).bind fun r S2 => match r with
    | .non => .ok (.ref S1.length) S2
    | _ => .no
  | .callK f es ks p, S => (evalEs ρ es S).bind fun ds S1 => if ds.length = ks.length then ev.call f (permD p ds) S1 else .no
  | .methK c m f o es ks p, S => (evalE ρ o S).bind fun x S1 => match (objOf S1 c x).bind fun fs => if (fs.lookup m).isSome then none else some () with
    | some _ => (evalEs ρ es S1).bind fun ds S2 => if ds.length = ks.length then ev.call f (x :: permD p ds) S2 else .no
    | none => .no
  | .newK c f es ks p, S => (evalEs ρ es S).bind fun ds S1 => if ds.length = ks.length then (ev.call f (.ref S1.length :: permD p ds) (S1 ++ [.obj c []])).bind fun r S2 => match r with
    | .non => .ok (.ref S1.length) S2
    | _ => .no else .no
def evalEs (ρ : Rho) : List E → Store → Out (List D)
  | [], S => .ok [] S
  | .star e :: r, S => (evalE ρ e S).bind fun x S1 => match seqs S1 x with
    | none => .no
    | some xs => (evalEs ρ r S1).bind fun ys S2 => .ok (xs ++ ys) S2
  | e :: r, S => (evalE ρ e S).bind fun x S1 => (evalEs ρ r S1).bind fun ys S2 => .ok (x :: ys) S2
def evalT (ρ : Rho) : List E → Store → Out Bool
  | [], S => .ok true S
  | e :: _, S => (evalE ρ e S).bind fun x S1 => match x with
    | .bl b => .ok b S1
    | _ => .no
end

/-! ### statements -/
inductive Res where
  | nx (ρ : Rho)
  | rt (d : D)
def putF (f : Str) (d : D) : List (Str × D) → List (Str × D)
  | [] => [(f, d)]
  | p :: r => if p.1 = f then (f, d) :: r else p :: putF f d r
def slOf : Bool → D → Option Sl
  | false, d => some (.v d)
  | true, .lst xs => some (.ol xs)
  | true, .dct t ks vs => some (.od t ks vs)
  | true, _ => none
def setAt (xs : List D) (i : Int) (d : D) : Option (List D) := (ixOf xs.length i).map fun j => xs.set j d
def setD : Sl → D → D → Option Sl
  | .ol xs, .int i, d => (setAt xs i d).map .ol
  | .od t ks vs, k, d => if isKey t k && line ks.length then some (.od t (dputK ks k) (dputV ks vs k d)) else none
  | _, _, _ => none
def setCell (S : Store) : D → D → D → Option Store
  | .ref n, k, d => match S[n]?, k with
    | some (.lst xs), .int i => (setAt xs i d).map fun ys => S.set n (.lst ys)
    | some (.dct t ks vs), k => if isKey t k && line ks.length then some (S.set n (.dct t (dputK ks k) (dputV ks vs k d))) else none
    | _, _ => none
  | _, _, _ => none
def heval : Option D → List HE → Option (List D)
  | _, [] => some []
  | p, .con d :: r => (heval p r).map (d :: ·)
  | some d, .fld :: r => (heval (some d) r).map (d :: ·)
  | none, .fld :: _ => none
/-- the first suite that fits -/
def tryH (c : Nat) (p : Option D) (S : Store) : List (Nat × Option Nat × List HE) → Out Res
  | [] => .ex c p S
  | (h, _, hes) :: r => match ev.sub c h with
    | some true => (match heval (if c = h then p else none) hes with
      | some ds => .ok (.rt (.tup ds)) S
      | none => .no)
    | some false => tryH c p S r
    | none => .no
def loopF (tg : Tg) (body : Rho → Store → Out Res) : List D → Rho → Store → Out Res
  | [], ρ, S => .ok (.nx ρ) S
  | x :: xs, ρ, S => match putTg S ρ tg x with
    | none => .no
    | some ρ' => (body ρ' S).bind fun r S1 => match r with
      | .nx ρ2 => loopF tg body xs ρ2 S1
      | .rt d => .ok (.rt d) S1
/-- xs.pop(k) -/
def popAt (xs : List D) : D → Option (D × List D)
  | .int k => if line xs.length then (ixOf xs.length k).bind fun j => (xs[j]?).map fun y => (y, xs.eraseIdx j) else none
  | _ => none
mutual
def exec (ρ : Rho) : S → Store → Out Res
  | .no, _ => .no
  | .asg i e, S => (evalE ev ρ e S).bind fun d S1 => .ok (.nx (ρ.set i (.v d))) S1
  | .own i e, S => (evalE ev ρ e S).bind fun d S1 => match slOf true d with
    | some sl => .ok (.nx (ρ.set i sl)) S1
    | none => .no
  | .asgT is e, S => (evalE ev ρ e S).bind fun d S1 => match putTg S1 ρ (.tup is) d with
    | some ρ' => .ok (.nx ρ') S1
    | none => .no
  | .par2 i j oi oj a b, S => (evalE ev ρ a S).bind fun d S1 => (evalE ev ρ b S1).bind fun e S2 => match slOf oi d, slOf oj e with
    | some x, some y => .ok (.nx ((ρ.set i x).set j y)) S2
    | _, _ => .no
  | .par3 i j k a b c, S => (evalE ev ρ a S).bind fun x S1 => (evalE ev ρ b S1).bind fun y S2 => (evalE ev ρ c S2).bind fun z S3 => .ok (.nx (((ρ.set i (.v x)).set j (.v y)).set k (.v z))) S3
  | .parL is i es e, S => (evalEs ev ρ es S).bind fun ds S1 => (evalE ev ρ e S1).bind fun d S2 => match slOf true d, putAll ρ is ds with
    | some sl, some ρ' => .ok (.nx (ρ'.set i sl)) S2
    | _, _ => .no
  | .pop j i e, S => match ρ[i]? with
    | some (.ol xs) => (evalE ev ρ e S).bind fun d S1 => match popAt xs d with
      | some (y, ys) => .ok (.nx ((ρ.set i (.ol ys)).set j (.v y))) S1
      | none => .no
    | _ => .no
  | .setI i ix e, S => (evalE ev ρ e S).bind fun d S1 => match ρ[i]? with
    | some sl => if sl.own = true then (evalE ev ρ ix S1).bind fun k S2 => (match setD sl k d with
      | some sl' => .ok (.nx (ρ.set i sl')) S2
      | none => .no) else .no
    | none => .no
  | .setC o ix e, S => (evalE ev ρ e S).bind fun d S1 => (evalE ev ρ o S1).bind fun x S2 => (evalE ev ρ ix S2).bind fun k S3 => match setCell S3 x k d with
    | some S4 => .ok (.nx ρ) S4
    | none => .no
  | .setF c f o e, S => (evalE ev ρ e S).bind fun d S1 => (evalE ev ρ o S1).bind fun x S2 => match x, objOf S2 c x with
    | .ref n, some fs => if fs.length < 1000 then .ok (.nx ρ) (S2.set n (.obj c (putF f d fs))) else .no
    | _, _ => .no
  | .ex e, S => (evalE ev ρ e S).bind fun _ S1 => .ok (.nx ρ) S1
  | .app i e, S => match ρ[i]? with
    | some (.ol xs) => (evalE ev ρ e S).bind fun d S1 => if line xs.length = true then .ok (.nx (ρ.set i (.ol (xs ++ [d])))) S1 else .no
    | _ => .no
  | .ins0 i e, S => match ρ[i]? with
    | some (.ol xs) => (evalE ev ρ e S).bind fun d S1 => if line xs.length = true then .ok (.nx (ρ.set i (.ol (d :: xs)))) S1 else .no
    | _ => .no
  | .ife c t f, S => (evalE ev ρ c S).bind fun x S1 => match x with
    | .bl true => execs ρ t S1
    | .bl false => execs ρ f S1
    | _ => .no
  | .for_ tg k it body, S => (evalEs ev ρ it S).bind fun ds S1 => match itemsOf k ds with
    | none => .no
    | some xs => loopF tg (fun ρ' S' => execs ρ' body S') xs ρ S1
  | .ret e, S => (evalE ev ρ e S).bind fun d S1 => .ok (.rt d) S1
  | .retN, S => .ok (.rt .non) S
  | .rais c es, S => (evalEs ev ρ es S).bind fun ds S1 => match ds with
    | [] => .ex c none S1
    | [d] => .ex c (some d) S1
    | _ => .no
  | .try_ body hs, S => match execs ρ body S with
    | .ex c p S1 => tryH ev c p S1 hs
    | o => o
  | .frz i, S => match ρ[i]? with
    | some (.ol xs) => .ok (.nx (ρ.set i (.v (.lst xs)))) S
    | some (.od t ks vs) => .ok (.nx (ρ.set i (.v (.dct t ks vs)))) S
    | _ => .no
  | .pass, S => .ok (.nx ρ) S
def execs (ρ : Rho) : List S → Store → Out Res
  | [], S => .ok (.nx ρ) S
  | s :: r, S => (exec ρ s S).bind fun x S1 => match x with
    | .nx ρ' => execs ρ' r S1
    | .rt d => .ok (.rt d) S1
end
end

/-! ### defs -/
structure Fn where
  np : Nat
  n : Nat
  body : List S
structure Pg where
  fn : Nat → Option Fn
  glo : Nat → Option D
  tab : Nat → List (Str × D)
  sub : Nat → Nat → Option Bool
def rho0 (n : Nat) (ds : List D) : Rho := ds.map .v ++ List.replicate (n - ds.length) .no
def run (P : Pg) : Nat → Call
  | 0, _, _, _ => .no
  | k + 1, f, ds, S => match P.fn f with
    | none => .no
    | some fn => if ds.length = fn.np then (execs ⟨run P k, P.glo, P.tab, P.sub⟩ (rho0 fn.n ds) fn.body S).bind fun r S1 => (match r with
        | .rt d => .ok d S1
        | .nx _ => .ok .non S1) else .no
end G
set_option maxHeartbeats 1000000
namespace G
open PySem PySem.Spec PyProof.Rows L2

/-- stands for, or is an own list or dict of the frame -/
def RepX (g : Gc) (b : Bool) (F : Hp) (A : List Addr) (H : Hp) (v : V) (d : D) : Prop :=
  Rep g F A v d ∨ (b = true ∧ ∃ p, v = .ref p ∧ p ∉ A ∧ ((∃ xs vs, d = .lst xs ∧ H p = some (.lst vs) ∧ RepL g F A vs xs) ∨ (∃ t ks ws o vs, d = .dct t ks ws ∧ H p = some o ∧ DctR o ks vs t ∧ RepL g F A vs ws)))
theorem RepX.step {g : Gc} {b : Bool} {F F' : Hp} {A A' : List Addr} {H H' : Hp} {v : V} {d : D} (s : Step F A H F' A' H') (h : RepX g b F A H v d) : RepX g b F' A' H' v d := by
  rcases h with h | ⟨hb, p, e, n, h⟩
  · exact .inl (h.mono s.le s.px)
  · have hn : ∀ o, H p = some o → p ∉ A' := fun o q m => by
      have := s.frA p m n; rw [q] at this; cases this
    rcases h with ⟨xs, vs, e1, e2, r⟩ | ⟨t, ks, ws, o, vs, e1, e2, q, r⟩
    · exact .inr ⟨hb, p, e, hn _ e2, .inl ⟨xs, vs, e1, s.keep _ _ e2 n, r.mono s.le s.px⟩⟩
    · exact .inr ⟨hb, p, e, hn _ e2, .inr ⟨t, ks, ws, o, vs, e1, s.keep _ _ e2 n, q, r.mono s.le s.px⟩⟩
theorem RepX.no {g : Gc} {F : Hp} {A : List Addr} {H : Hp} {v : V} {d : D} (h : RepX g false F A H v d) : Rep g F A v d := by
  rcases h with h | ⟨hb, _⟩
  · exact h
  · cases hb
/-- lists of such -/
def RepXL (g : Gc) (b : Bool) (F : Hp) (A : List Addr) (H : Hp) : List V → List D → Prop
  | [], [] => True
  | v :: vs, d :: ds => RepX g b F A H v d ∧ RepXL g b F A H vs ds
  | [], _ :: _ => False
  | _ :: _, [] => False
theorem RepXL.step {g : Gc} {b : Bool} {F F' : Hp} {A A' : List Addr} {H H' : Hp} (s : Step F A H F' A' H') : ∀ {vs : List V} {ds : List D}, RepXL g b F A H vs ds → RepXL g b F' A' H' vs ds
  | [], [], _ => trivial
  | [], _ :: _, h => h.elim
  | _ :: _, [], h => h.elim
  | _ :: _, _ :: _, h => ⟨h.1.step s, RepXL.step s h.2⟩
theorem RepXL.no {g : Gc} {F : Hp} {A : List Addr} {H : Hp} : ∀ {vs : List V} {ds : List D}, RepXL g false F A H vs ds → RepL g F A vs ds
  | [], [], _ => trivial
  | [], _ :: _, h => h.elim
  | _ :: _, [], h => h.elim
  | _ :: _, _ :: _, h => ⟨h.1.no, RepXL.no h.2⟩
theorem RepXL.of {g : Gc} {b : Bool} {F : Hp} {A : List Addr} {H : Hp} : ∀ {vs : List V} {ds : List D}, RepL g F A vs ds → RepXL g b F A H vs ds
  | [], [], _ => trivial
  | [], _ :: _, h => h.elim
  | _ :: _, [], h => h.elim
  | _ :: _, _ :: _, h => ⟨.inl h.1, RepXL.of h.2⟩
theorem RepXL.app {g : Gc} {b : Bool} {F : Hp} {A : List Addr} {H : Hp} : ∀ {vs ws : List V} {ds es : List D}, RepXL g b F A H vs ds → RepXL g b F A H ws es → RepXL g b F A H (vs ++ ws) (ds ++ es)
  | [], _, [], _, _, h => h
  | [], _, _ :: _, _, h, _ => h.elim
  | _ :: _, _, [], _, h, _ => h.elim
  | _ :: _, _, _ :: _, _, h, k => ⟨h.1, RepXL.app h.2 k⟩

section
variable {g : Gc} {b : Bool} {F : Hp} {A : List Addr} {S : Store} {H : Hp} {v : V} {d : D}
theorem rx_int {i : Int} (r : RepX g b F A H v (.int i)) : v = .int i := by
  rcases r with r | ⟨_, p, _, _, ⟨xs, vs, e, _⟩ | ⟨t, ks, ws, o, vs, e, _⟩⟩
  · exact r
  · cases e
  · cases e
theorem rx_bl {i : Bool} (r : RepX g b F A H v (.bl i)) : v = .bl i := by
  rcases r with r | ⟨_, p, _, _, ⟨xs, vs, e, _⟩ | ⟨t, ks, ws, o, vs, e, _⟩⟩
  · exact r
  · cases e
  · cases e
theorem rx_str {i : Str} (r : RepX g b F A H v (.str i)) : v = .str i := by
  rcases r with r | ⟨_, p, _, _, ⟨xs, vs, e, _⟩ | ⟨t, ks, ws, o, vs, e, _⟩⟩
  · exact r
  · cases e
  · cases e
theorem rx_non (r : RepX g b F A H v .non) : v = .non := by
  rcases r with r | ⟨_, p, _, _, ⟨xs, vs, e, _⟩ | ⟨t, ks, ws, o, vs, e, _⟩⟩
  · exact r
  · cases e
  · cases e
theorem rx_tup (st : StR g F A S H) {xs : List D} (r : RepX g b F A H v (.tup xs)) : ∃ a vs, v = .ref a ∧ F a = some (.tup vs) ∧ H a = some (.tup vs) ∧ RepL g F A vs xs := by
  rcases r with r | ⟨_, p, _, _, ⟨xs, vs, e, _⟩ | ⟨t, ks, ws, o, vs, e, _⟩⟩
  · obtain ⟨a, vs, e, f, r⟩ := r
    exact ⟨a, vs, e, f, st.fin.tup f, r⟩
  · cases e
  · cases e
theorem rx_kt (st : StR g F A S H) {xs : List D} (r : RepX g b F A H v (.kt xs)) : ∃ a vs, v = .ref a ∧ SqT g.K F a vs ∧ SqT g.K H a vs ∧ RepL g F A vs xs := by
  rcases r with r | ⟨_, p, _, _, ⟨xs, vs, e, _⟩ | ⟨t, ks, ws, o, vs, e, _⟩⟩
  · obtain ⟨a, vs, e, f, r⟩ := r
    exact ⟨a, vs, e, f, st.fin.sqT f, r⟩
  · cases e
  · cases e
theorem rx_kl (st : StR g F A S H) {xs : List D} (r : RepX g b F A H v (.kl xs)) : ∃ a vs, v = .ref a ∧ SqL g.K F a vs ∧ SqL g.K H a vs ∧ RepL g F A vs xs := by
  rcases r with r | ⟨_, p, _, _, ⟨xs, vs, e, _⟩ | ⟨t, ks, ws, o, vs, e, _⟩⟩
  · obtain ⟨a, vs, e, f, r⟩ := r
    exact ⟨a, vs, e, f, st.fin.sqL f, r⟩
  · cases e
  · cases e
theorem rx_lst (st : StR g F A S H) {xs : List D} (r : RepX g b F A H v (.lst xs)) : ∃ a vs, v = .ref a ∧ H a = some (.lst vs) ∧ RepL g F A vs xs := by
  rcases r with r | ⟨_, p, e0, _, ⟨ys, vs, e, q, r⟩ | ⟨t, ks, ws, o, vs, e, _⟩⟩
  · obtain ⟨a, vs, e, f, r⟩ := r
    exact ⟨a, vs, e, st.fin.lst f, r⟩
  · cases e; exact ⟨p, vs, e0, q, r⟩
  · cases e
theorem rx_ref (st : StR g F A S H) {n : Nat} {c : Cell} (r : RepX g b F A H v (.ref n)) (e : S[n]? = some c) : ∃ a, v = .ref a ∧ A[n]? = some a ∧ CellR g F A H a c := by
  rcases r with r | ⟨_, p, e0, _, ⟨ys, vs, e, q, r⟩ | ⟨t, ks, ws, o, vs, e, _⟩⟩
  · obtain ⟨a, e1, e2⟩ := r
    obtain ⟨a', e3, _, c⟩ := st.cell n c e
    rw [e2] at e3; cases e3
    exact ⟨a, e1, e2, c⟩
  · cases e
  · cases e
/-- a list or a tuple that is read -/
theorem rx_seq (st : StR g F A S H) {t : Bool} {xs : List D} (r : RepX g b F A H v d) (e : seqOf S d = some (t, xs)) : ∃ a vs, v = .ref a ∧ (if t = true then SqT g.K H a vs else SqL g.K H a vs) ∧ RepL g F A vs xs := by
  cases d with
  | tup ys => cases e; obtain ⟨a, vs, e1, _, h, r⟩ := rx_tup st r; exact ⟨a, vs, e1, SqT.of h, r⟩
  | kt ys => cases e; obtain ⟨a, vs, e1, _, h, r⟩ := rx_kt st r; exact ⟨a, vs, e1, h, r⟩
  | lst ys => cases e; obtain ⟨a, vs, e1, h, r⟩ := rx_lst st r; exact ⟨a, vs, e1, SqL.of h, r⟩
  | kl ys => cases e; obtain ⟨a, vs, e1, _, h, r⟩ := rx_kl st r; exact ⟨a, vs, e1, h, r⟩
  | ref n =>
    simp only [seqOf] at e
    split at e
    · rename_i ys hc
      cases e
      obtain ⟨a, e1, _, vs, h, r⟩ := rx_ref st r hc
      exact ⟨a, vs, e1, SqL.of h, r⟩
    · cases e
  | _ => cases e
theorem rx_seqs (st : StR g F A S H) {xs : List D} (r : RepX g b F A H v d) (e : seqs S d = some xs) : ∃ a vs, v = .ref a ∧ (SqL g.K H a vs ∨ SqT g.K H a vs) ∧ RepL g F A vs xs := by
  unfold seqs at e
  cases h : seqOf S d with
  | none => rw [h] at e; cases e
  | some p =>
    rw [h] at e
    obtain ⟨t, ys⟩ := p
    have e' : ys = xs := Option.some.inj e
    subst e'
    obtain ⟨a, vs, e1, q, r⟩ := rx_seq st r h
    cases t with
    | true => exact ⟨a, vs, e1, .inr q, r⟩
    | false => exact ⟨a, vs, e1, .inl q, r⟩
theorem rx_dct (st : StR g F A S H) {t : Bool} {ks ws : List D} (r : RepX g b F A H v d) (e : dctOf S d = some (t, ks, ws)) : ∃ a o vs, v = .ref a ∧ Rd H a o ∧ DctR o ks vs t ∧ RepL g F A vs ws := by
  cases d with
  | dct t ks ws =>
    cases e
    rcases r with r | ⟨_, p, e0, _, ⟨ys, vs, e, q, r⟩ | ⟨t, ks, ws, o, vs, e, h, q, r⟩⟩
    · obtain ⟨a, o, vs, od, e1, f, q, r⟩ := r
      exact ⟨a, o, vs, e1, st.fin.rd (.inr ⟨od, f⟩), q, r⟩
    · cases e
    · cases e; exact ⟨p, o, vs, e0, .inl h, q, r⟩
  | ref n =>
    simp only [dctOf] at e
    split at e
    · rename_i t' ks' ws' hc
      cases e
      obtain ⟨a, e1, _, o, vs, h, q, r⟩ := rx_ref st r hc
      exact ⟨a, o, vs, e1, .inl h, q, r⟩
    · cases e
  | _ => cases e
end

/-! ### what is wanted behind an outcome -/
/-- how an error lies: its class, its own dict with its one field -/
def ExR (g : Gc) (fn : Nat → Str) (F : Hp) (A : List Addr) (H : Hp) (c : Nat) (pd : Option D) (cls : Value) (dd : Option Addr) : Prop :=
  cls = .ref (g.ca c) ∧ ∀ d, pd = some d → ∃ dx v, dd = some dx ∧ H dx = some (.xd [(fn c, v)]) ∧ Rep g F A v d
/-- what is fixed for the evaluation -/
structure Pc where
  g : Gc
  fn : Nat → Str
  pn : Nat → List Str
def PostOf (q : Pc) {α β : Type} (R : Hp → List Addr → Hp → β → α → Prop) (W : Value → Option Addr → Hp → Prop) (F : Hp) (A : List Addr) (H : Hp) (o : Out α) (Q : β → Hp → Prop) : Prop := match o with
  | .ok a S' => ∀ v F' A' H', Step F A H F' A' H' → StR q.g F' A' S' H' → R F' A' H' v a → Q v H'
  | .ex c pd S' => ∀ cls dd F' A' H', Step F A H F' A' H' → StR q.g F' A' S' H' → ExR q.g q.fn F' A' H' c pd cls dd → W cls dd H'
  | .no => False
section
variable {q : Pc} {α β γ δ : Type} {R : Hp → List Addr → Hp → β → α → Prop} {R2 : Hp → List Addr → Hp → δ → γ → Prop} {W : Value → Option Addr → Hp → Prop} {F F' : Hp} {A A' : List Addr} {H H' : Hp}
theorem PostOf.step {o : Out α} {Q : β → Hp → Prop} (s : Step F A H F' A' H') (h : PostOf q R W F A H o Q) : PostOf q R W F' A' H' o Q := by
  cases o with
  | ok a S => exact fun v F2 A2 H2 t st r => h v F2 A2 H2 (s.trans t) st r
  | ex c d S => exact fun cls dd F2 A2 H2 t st r => h cls dd F2 A2 H2 (s.trans t) st r
  | no => exact h
theorem PostOf.bind {o : Out α} {f : α → Store → Out γ} {Q : δ → Hp → Prop} {T : β → Hp → Prop} (h : PostOf q R2 W F A H (o.bind f) Q)
    (k : ∀ v F1 A1 H1 a S1, o = .ok a S1 → Step F A H F1 A1 H1 → StR q.g F1 A1 S1 H1 → R F1 A1 H1 v a → PostOf q R2 W F1 A1 H1 (f a S1) Q → T v H1) : PostOf q R W F A H o T := by
  cases o with
  | ok a S => exact fun v F1 A1 H1 s st r => k v F1 A1 H1 a S rfl s st r (PostOf.step s h)
  | ex c d S => exact h
  | no => exact h
theorem PostOf.of {o : Option α} {S : Store} {Q : β → Hp → Prop} (h : PostOf q R W F A H (.of o S) Q) : ∃ a, o = some a ∧ ∀ v F' A' H', Step F A H F' A' H' → StR q.g F' A' S H' → R F' A' H' v a → Q v H' := by
  cases o with
  | none => exact h.elim
  | some a => exact ⟨a, rfl, h⟩
theorem PostOf.imp {R' : Hp → List Addr → Hp → β → α → Prop} {o : Out α} {Q Q' : β → Hp → Prop} (h : PostOf q R W F A H o Q) (hr : ∀ F A H v a, R' F A H v a → R F A H v a) (hq : ∀ v H, Q v H → Q' v H) : PostOf q R' W F A H o Q' := by
  cases o with
  | ok a S => exact fun v F' A' H' s st r => hq _ _ (h v F' A' H' s st (hr _ _ _ _ _ r))
  | ex c d S => exact h
  | no => exact h
end
end G
set_option maxHeartbeats 4000000
namespace G
open PySem PySem.Spec PyProof.Rows L2
/-! ### tuple * 1 is the tuple itself -/
theorem tuple_mulW1 (l : Addr) (items : Array Value) (n : Nat) (dd : Option Addr) (sl : Array (Option Value)) (u : Tok) :
    Meets (Builtin.«tuple.__mul__» ⟨[.ref l, .int 1 u], []⟩) (fun _ R s => s.heap.get? l = some { cls := .type "tuple", dict := dd, data := .seq items n, slots := sl } ∧ R (.ok (.ret (Value.ref l))) s) :=
  .of_wp fun prog w A R s h => by
    obtain ⟨hp, g, d, tk, os⟩ := s
    obtain ⟨hl, h⟩ := h
    have f1 := AutoSeq1.idx_int
    have c1 : (items.isEmpty || (1 : Int) == 1) = true := by simp
    wp_walk using wpAny_loadPart' hl
    repeat (first
      | (refine wpAny_ite_true (decide_eq_true (by rw [c1])) ?_; wp_walk using wpAny_loadPart' hl)
      | (refine wpAny_ite_true c1 ?_; wp_walk using wpAny_loadPart' hl))
    all_goals first
      | exact ⟨_, rfl, h⟩
      | skip
def rRep1T (K : PySem.W.Frag) : R2 := fun x y H Q => ∃ l xs, x = .ref l ∧ y = .int 1 ∧ SqT K H l xs ∧ Q (.ref l) H
section
variable {X : Cx}
theorem op_rep1T : OpR X (binaryOp .Mult) (rRep1T X.K) := by
  intro pins s σ H x y v u Q I rx ry h
  obtain ⟨l, xs, rfl, rfl, hT, q⟩ := h
  cases rx
  obtain ⟨t, rfl⟩ := ry
  obtain ⟨its, r, ⟨⟨cls, dd, data, sl⟩, ho, hc, n, hd⟩, hs⟩ := I.tuple hT
  simp only at hc hd
  subst hc hd
  refine wpAny_binaryOp_repeat_ref (T := "tuple") (U := "int") (by decide) ⟨_, ho, rfl⟩ (fun s' => typeIs_int s' 1 t) noFill_tuple_mul F.fills_int_mul F.slot_int_rmul repeat_tuple F.slot_int_index.lookup
    (call_meets F.slot_int_rmul (typeIs_int s 1 t) F.entry_int_rmul (F.args_int_rmul_2 _ _) (int_rmul_tuple 1 t l its.toArray n dd sl)
      ⟨ho, rfl, ⟨_, ho, rfl⟩, call_meets F.slot_tuple_mul ⟨_, ho, rfl⟩ F.entry_tuple_mul (F.args_tuple_mul_2 _ _) (tuple_mulW1 l its.toArray n dd sl t) ⟨ho, ?_⟩⟩)
  exact ⟨.ref l, H, I, rfl, q⟩
end
end G
set_option maxHeartbeats 1000000
namespace G
open PySem PySem.Spec PyProof.Rows L2

def bOp : BO → Operator
  | .add => .Add | .sub => .Sub | .mul => .Mult | .fdiv => .FloorDiv | .mod => .Mod | .pow => .Pow | .shl => .LShift | .shr => .RShift | .band => .BitAnd | .bor => .BitOr
def cOp : CO → CmpOp
  | .eq => .Eq | .ne => .NotEq | .lt => .Lt | .le => .LtE | .gt => .Gt | .ge => .GtE | .is_ => .Is | .isn => .IsNot | .in_ => .In | .nin => .NotIn

/-- what follows a value that is d -/
abbrev Gets (q : Pc) (F : Hp) (A : List Addr) (H : Hp) (S : Store) (d : D) (Q : VK) : Prop := ∀ v F' A' H', Step F A H F' A' H' → StR q.g F' A' S H' → Rep q.g F' A' v d → Q v H'
section
variable {q : Pc} {F : Hp} {A : List Addr} {S : Store} {H : Hp} {Q : VK}
theorem Gets.here {v : V} {d : D} (k : Gets q F A H S d Q) (st : StR q.g F A S H) (r : Rep q.g F A v d) : Q v H := k v F A H Step.refl st r
theorem Gets.lst {xs : List D} {vs : List V} (k : Gets q F A H S (.lst xs) Q) (st : StR q.g F A S H) (r : RepL q.g F A vs xs) {p : Addr} (hp : H p = none) : Q (.ref p) (upd H p (.lst vs)) := by
  obtain ⟨s, st'⟩ := st.new (o := .lst vs) hp
  exact k _ _ _ _ s st' ⟨p, vs, rfl, upd_same, r.mono s.le s.px⟩
theorem Gets.tup {xs : List D} {vs : List V} (k : Gets q F A H S (.tup xs) Q) (st : StR q.g F A S H) (r : RepL q.g F A vs xs) {p : Addr} (hp : H p = none) : Q (.ref p) (upd H p (.tup vs)) := by
  obtain ⟨s, st'⟩ := st.new (o := .tup vs) hp
  exact k _ _ _ _ s st' ⟨p, vs, rfl, upd_same, r.mono s.le s.px⟩
theorem line_ok {n : Nat} (h : line n = true) : n ≤ sizeLine := by
  have h' : n ≤ 1000000 := of_decide_eq_true h
  rw [sizeLine_eq]; omega
theorem line_lt {n : Nat} (h : line n = true) : n < sizeLine := by
  have h' : n ≤ 1000000 := of_decide_eq_true h
  rw [sizeLine_eq]; omega
theorem small_ok {i j : Int} (h : (small i || small j) = true) : CMul i j := by
  simp only [small, Bool.or_eq_true, decide_eq_true_eq] at h
  exact h
theorem RepL.rep {g : Gc} {F : Hp} {A : List Addr} {ds : List D} {vs : List V} (h : RepL g F A vs ds) : ∀ k : Nat, RepL g F A (List.replicate k vs).flatten (List.replicate k ds).flatten
  | 0 => trivial
  | k + 1 => by
    rw [List.replicate_succ, List.replicate_succ, List.flatten_cons, List.flatten_cons]
    exact RepL.app h (RepL.rep h k)
end

section
variable {X : Cx} {q : Pc}
def rBin (q : Pc) (o : BO) : R2 := fun x y H Q => ∃ b b' F A S d e res, StR q.g F A S H ∧ RepX q.g b F A H x d ∧ RepX q.g b' F A H y e ∧ binop S o d e = some res ∧ Gets q F A H S res Q
theorem op_bin (hK : X.K = q.g.K) (o : BO) : OpR X (binaryOp (bOp o)) (rBin q o) := by
  intro pins s σ H x y v u Q I rx ry h
  obtain ⟨b, b', F, A, S, d, e, res, st, r1, r2, hb, k⟩ := h
  unfold binop at hb
  split at hb
  · cases hb
    rw [rx_int r1] at rx; rw [rx_int r2] at ry
    exact op_add pins s σ H _ _ v u Q I rx ry ⟨_, _, rfl, rfl, k.here st rfl⟩
  · cases hb
    rw [rx_int r1] at rx; rw [rx_bl r2] at ry
    exact op_add_ib pins s σ H _ _ v u Q I rx ry ⟨_, _, rfl, rfl, k.here st rfl⟩
  · split at hb
    · rename_i hl
      cases hb
      rw [rx_str r1] at rx; rw [rx_str r2] at ry
      exact op_add_str pins s σ H _ _ v u Q I rx ry ⟨_, _, rfl, rfl, line_ok hl, k.here st rfl⟩
    · cases hb
  · split at hb
    · rename_i hl
      cases hb
      obtain ⟨a, vs, rfl, f1, h1, q1⟩ := rx_tup st r1
      obtain ⟨a2, vs2, rfl, f2, h2, q2⟩ := rx_tup st r2
      refine op_catA pins s σ H _ _ v u Q I rx ry ⟨a, a2, vs, vs2, rfl, rfl, SqT.of h1, SqT.of h2, by rw [q1.len, q2.len]; exact line_ok hl, fun z => ?_, fun _ z => ?_, fun _ _ p hp => ?_⟩
      · subst z
        refine k.here st ⟨a2, vs2, rfl, f2, ?_⟩
        have := RepL.app q1 q2
        simpa using this
      · subst z
        refine k.here st ⟨a, vs, rfl, f1, ?_⟩
        have := RepL.app q1 q2
        simpa using this
      · exact k.tup st (RepL.app q1 q2) hp
    · cases hb
  · split at hb
    · rename_i hl
      cases hb
      obtain ⟨a, vs, rfl, h1, q1⟩ := rx_lst st r1
      obtain ⟨a2, vs2, rfl, h2, q2⟩ := rx_lst st r2
      exact op_cat pins s σ H _ _ v u Q I rx ry ⟨a, a2, vs, vs2, rfl, rfl, h1, h2, by rw [q1.len, q2.len]; exact line_ok hl, fun p hp => k.lst st (RepL.app q1 q2) hp⟩
    · cases hb
  · cases hb
    rw [rx_int r1] at rx; rw [rx_int r2] at ry
    exact op_sub pins s σ H _ _ v u Q I rx ry ⟨_, _, rfl, rfl, k.here st rfl⟩
  · split at hb
    · rename_i hl
      cases hb
      rw [rx_int r1] at rx; rw [rx_int r2] at ry
      exact op_mul pins s σ H _ _ v u Q I rx ry ⟨_, _, rfl, rfl, small_ok hl, k.here st rfl⟩
    · cases hb
  · split at hb
    · rename_i hl
      cases hb
      simp only [Bool.and_eq_true, decide_eq_true_eq] at hl
      obtain ⟨a, vs, rfl, h1, q1⟩ := rx_lst st r1
      rw [rx_int r2] at ry
      exact op_rep pins s σ H _ _ v u Q I rx ry ⟨a, _, vs, rfl, rfl, h1, by omega, by omega, by rw [q1.len]; exact line_ok hl.2, fun p hp => k.lst st (q1.rep _) hp⟩
    · cases hb
  · split at hb
    · rename_i hl
      cases hb
      subst hl
      obtain ⟨a, vs, rfl, f1, h1, q1⟩ := rx_tup st r1
      rw [rx_int r2] at ry
      exact op_rep1T pins s σ H _ _ v u Q I rx ry ⟨a, vs, rfl, rfl, SqT.of h1, k.here st ⟨a, vs, rfl, f1, q1⟩⟩
    split at hb
    · rename_i hl
      cases hb
      simp only [Bool.and_eq_true, decide_eq_true_eq] at hl
      obtain ⟨a, vs, rfl, f1, h1, q1⟩ := rx_tup st r1
      rw [rx_int r2] at ry
      refine op_repT pins s σ H _ _ v u Q I rx ry ⟨a, _, vs, rfl, rfl, SqT.of h1, fun z => ?_, hl.1.1, hl.1.2.1, by rw [q1.len]; exact hl.2, fun p hp => k.tup st (q1.rep _) hp⟩
      subst z
      exact hl.1.2.2 (List.length_eq_zero_iff.mp q1.len.symm)
    · cases hb
  · split at hb
    · rename_i hl
      cases hb
      rw [rx_int r1] at rx; rw [rx_int r2] at ry
      exact op_fdivN pins s σ H _ _ v u Q I rx ry ⟨_, _, rfl, rfl, (show CDivN _ _ from (of_decide_eq_true hl : _ ∧ _)), k.here st rfl⟩
    · cases hb
  · split at hb
    · rename_i hl
      cases hb
      rw [rx_int r1] at rx; rw [rx_int r2] at ry
      exact op_modN pins s σ H _ _ v u Q I rx ry ⟨_, _, rfl, rfl, of_decide_eq_true hl, k.here st rfl⟩
    · cases hb
  · split at hb
    · rename_i hl
      cases hb
      simp only [Bool.and_eq_true, decide_eq_true_eq] at hl
      rw [rx_int r1] at rx; rw [rx_int r2] at ry
      exact op_pow pins s σ H _ _ v u Q I rx ry ⟨_, _, rfl, rfl, ⟨hl.1.1, by omega, hl.2⟩, k.here st rfl⟩
    · cases hb
  · split at hb
    · rename_i hl
      cases hb
      simp only [Bool.and_eq_true, decide_eq_true_eq] at hl
      rw [rx_int r1] at rx; rw [rx_int r2] at ry
      exact op_shl pins s σ H _ _ v u Q I rx ry ⟨_, _, rfl, rfl, ⟨hl.1.1, by omega, hl.2⟩, k.here st rfl⟩
    · cases hb
  · split at hb
    · rename_i hl
      cases hb
      rw [rx_int r1] at rx; rw [rx_int r2] at ry
      exact op_shr pins s σ H _ _ v u Q I rx ry ⟨_, _, rfl, rfl, of_decide_eq_true hl, k.here st rfl⟩
    · cases hb
  · cases hb
    rw [rx_int r1] at rx; rw [rx_int r2] at ry
    exact op_and pins s σ H _ _ v u Q I rx ry ⟨_, _, rfl, rfl, k.here st rfl⟩
  · cases hb
    rw [rx_int r1] at rx; rw [rx_int r2] at ry
    exact op_or pins s σ H _ _ v u Q I rx ry ⟨_, _, rfl, rfl, k.here st rfl⟩
  · cases hb
end

/-! ### comparisons -/
mutual
theorem rep_dp {g : Gc} {F : Hp} {A : List Addr} {H : Hp} (fi : FIn F H) : ∀ {d : D} {v : V} {p : PyData}, Rep g F A v d → toPy d = some p → Dp g.K H v p
  | .non, v, p, r, e => by cases r; cases e; exact .non
  | .bl b, v, p, r, e => by cases r; cases e; exact .bl b
  | .int i, v, p, r, e => by cases r; cases e; exact .int i
  | .str s, v, p, r, e => by cases r; cases e; exact .str s
  | .tup xs, v, p, r, e => by
    obtain ⟨a, vs, rfl, f, r⟩ := r
    simp only [toPy, Option.map_eq_some_iff] at e
    obtain ⟨ps, e1, rfl⟩ := e
    exact .tup (SqT.of (fi.tup f)) (rep_dps fi r e1)
  | .kt xs, v, p, r, e => by
    obtain ⟨a, vs, rfl, f, r⟩ := r
    simp only [toPy, Option.map_eq_some_iff] at e
    obtain ⟨ps, e1, rfl⟩ := e
    exact .tup (fi.sqT f) (rep_dps fi r e1)
  | .lst xs, v, p, r, e => by
    obtain ⟨a, vs, rfl, f, r⟩ := r
    simp only [toPy, Option.map_eq_some_iff] at e
    obtain ⟨ps, e1, rfl⟩ := e
    exact .lst (SqL.of (fi.lst f)) (rep_dps fi r e1)
  | .kl xs, v, p, r, e => by
    obtain ⟨a, vs, rfl, f, r⟩ := r
    simp only [toPy, Option.map_eq_some_iff] at e
    obtain ⟨ps, e1, rfl⟩ := e
    exact .lst (fi.sqL f) (rep_dps fi r e1)
  | .dct _ _ _, v, p, r, e => by cases e
  | .ref _, v, p, r, e => by cases e
  | .fn _, v, p, r, e => by cases e
theorem rep_dps {g : Gc} {F : Hp} {A : List Addr} {H : Hp} (fi : FIn F H) : ∀ {ds : List D} {vs : List V} {ps : List PyData}, RepL g F A vs ds → toPys ds = some ps → DpAll g.K H vs ps
  | [], [], ps, r, e => by cases e; exact .nil
  | [], _ :: _, ps, r, e => r.elim
  | _ :: _, [], ps, r, e => r.elim
  | d :: ds, v :: vs, ps, r, e => by
    simp only [toPys] at e
    split at e
    · rename_i p ps' e1 e2
      cases e
      exact .cons (rep_dp fi r.1 e1) (rep_dps fi r.2 e2)
    · cases e
end
theorem rx_dp {g : Gc} {b : Bool} {F : Hp} {A : List Addr} {S : Store} {H : Hp} {v : V} {d : D} {p : PyData} (st : StR g F A S H) (r : RepX g b F A H v d) (e : toPy d = some p) : Dp g.K H v p := by
  rcases r with r | ⟨_, a, e0, _, ⟨ys, vs, e1, h, r⟩ | ⟨t, ks, ws, o, vs, e1, _⟩⟩
  · exact rep_dp st.fin r e
  · subst e1 e0
    simp only [toPy, Option.map_eq_some_iff] at e
    obtain ⟨ps, e1, rfl⟩ := e
    exact .lst (SqL.of h) (rep_dps st.fin r e1)
  · subst e1; cases e
theorem flat_v {g : Gc} {F : Hp} {A : List Addr} {v : V} {d : D} (r : Rep g F A v d) (h : flatD d = true) : flatV v = true := by
  cases d <;> first | (cases r; rfl) | cases h
theorem rx_flat {g : Gc} {b : Bool} {F : Hp} {A : List Addr} {H : Hp} {v : V} {d : D} (r : RepX g b F A H v d) (h : flatD d = true) : Rep g F A v d := by
  rcases r with r | ⟨_, a, e0, _, ⟨ys, vs, e1, _⟩ | ⟨t, ks, ws, o, vs, e1, _⟩⟩
  · exact r
  · subst e1; cases h
  · subst e1; cases h
theorem flat_eq {g : Gc} {F : Hp} {A : List Addr} {v w : V} {d e : D} (r : Rep g F A v d) (s : Rep g F A w e) (h : flatD d = true) (k : flatD e = true) : eqV v w = eqF d e := by
  cases d <;> first | (cases h; done) | (cases e <;> first | (cases k; done) | (cases r; cases s; rfl))
theorem flat_all {g : Gc} {F : Hp} {A : List Addr} : ∀ {ds : List D} {vs : List V}, RepL g F A vs ds → ds.all flatD = true → vs.all flatV = true
  | [], [], _, _ => rfl
  | [], _ :: _, r, _ => r.elim
  | _ :: _, [], r, _ => r.elim
  | d :: ds, v :: vs, r, h => by
    simp only [List.all_cons, Bool.and_eq_true] at h ⊢
    exact ⟨flat_v r.1 h.1, flat_all r.2 h.2⟩
theorem flat_any {g : Gc} {F : Hp} {A : List Addr} {x : V} {dx : D} (rx : Rep g F A x dx) (hx : flatD dx = true) : ∀ {ds : List D} {vs : List V}, RepL g F A vs ds → ds.all flatD = true → inV x vs = ds.any fun y => eqF y dx
  | [], [], _, _ => rfl
  | [], _ :: _, r, _ => r.elim
  | _ :: _, [], r, _ => r.elim
  | d :: ds, v :: vs, r, h => by
    simp only [List.all_cons, Bool.and_eq_true] at h
    have ih := flat_any rx hx r.2 h.2
    unfold inV at ih ⊢
    rw [List.any_cons, List.any_cons, ih, flat_eq r.1 rx h.1 hx]

/-! ### dicts -/
theorem keq_k {d e : D} {k j : Key} (h1 : dkey d = some k) (h2 : dkey e = some j) : keq d e = decide (k = j) := by
  cases d <;> first | (cases h1; done) | (cases e <;> first | (cases h2; done) | (cases h1; cases h2; simp [keq]))
theorem keq_t {d e : D} {k j : List Key} (h1 : dkeyT d = some k) (h2 : dkeyT e = some j) : keq d e = decide (k = j) := by
  cases d <;> first | (cases h1; done) | skip
  cases e <;> first | (cases h2; done) | skip
  simp only [dkeyT] at h1 h2
  simp [keq, h1, h2]
def RepO (g : Gc) (F : Hp) (A : List Addr) : Option V → Option D → Prop
  | some v, some d => Rep g F A v d
  | none, none => True
  | _, _ => False
theorem dget_k {g : Gc} {F : Hp} {A : List Addr} {e : D} {k : Key} (he : dkey e = some k) : ∀ {l : List (Key × V)} {ks ws : List D}, ks.map dkey = l.map (fun p => some p.1) → RepL g F A (l.map (·.2)) ws → RepO g F A (valV l k) (dget ks ws e)
  | [], [], [], _, _ => trivial
  | [], [], _ :: _, _, r => r.elim
  | [], _ :: _, _, h, _ => by simp at h
  | _ :: _, [], _, h, _ => by simp at h
  | p :: l, d :: ks, [], h, r => r.elim
  | p :: l, d :: ks, w :: ws, h, r => by
    simp only [List.map_cons, List.cons.injEq] at h
    have hk := keq_k h.1 he
    simp only [dget, hk]
    by_cases z : p.1 = k
    · rw [valV_pos z, decide_eq_true z]; exact r.1
    · rw [valV_neg z, decide_eq_false z]; exact dget_k he h.2 r.2
theorem dget_t {g : Gc} {F : Hp} {A : List Addr} {e : D} {k : List Key} (he : dkeyT e = some k) : ∀ {l : List (List Key × V)} {ks ws : List D}, ks.map dkeyT = l.map (fun p => some p.1) → RepL g F A (l.map (·.2)) ws → RepO g F A (valV l k) (dget ks ws e)
  | [], [], [], _, _ => trivial
  | [], [], _ :: _, _, r => r.elim
  | [], _ :: _, _, h, _ => by simp at h
  | _ :: _, [], _, h, _ => by simp at h
  | p :: l, d :: ks, [], h, r => r.elim
  | p :: l, d :: ks, w :: ws, h, r => by
    simp only [List.map_cons, List.cons.injEq] at h
    have hk := keq_t h.1 he
    simp only [dget, hk]
    by_cases z : p.1 = k
    · rw [valV_pos z, decide_eq_true z]; exact r.1
    · rw [valV_neg z, decide_eq_false z]; exact dget_t he h.2 r.2
theorem rep_key {g : Gc} {F : Hp} {A : List Addr} {v : V} {d : D} {k : Key} (r : Rep g F A v d) (h : dkey d = some k) : v = kV k := by
  cases d <;> first | (cases h; done) | (cases h; exact r)
theorem rep_keys {g : Gc} {F : Hp} {A : List Addr} : ∀ {ds : List D} {vs : List V} {ks : List Key}, RepL g F A vs ds → dkeys ds = some ks → vs = ks.map kV
  | [], [], ks, _, e => by cases e; rfl
  | [], _ :: _, _, r, _ => r.elim
  | _ :: _, [], _, r, _ => r.elim
  | d :: ds, v :: vs, ks, r, e => by
    simp only [dkeys] at e
    split at e
    · rename_i k ks' e1 e2
      cases e
      rw [rep_key r.1 e1, rep_keys r.2 e2]; rfl
    · cases e
theorem rep_keyT {g : Gc} {F : Hp} {A : List Addr} {v : V} {d : D} {k : List Key} (r : Rep g F A v d) (h : dkeyT d = some k) : ∃ a, v = .ref a ∧ F a = some (.tup (k.map kV)) := by
  cases d <;> first | (cases h; done) | skip
  obtain ⟨a, vs, e, f, r⟩ := r
  exact ⟨a, e, by rw [f, rep_keys r h]⟩
theorem key_flat {b t : Bool} {g : Gc} {F : Hp} {A : List Addr} {H : Hp} {v : V} {d : D} (r : RepX g b F A H v d) (h : isKey t d = true) : Rep g F A v d := by
  rcases r with r | ⟨_, a, e0, _, ⟨ys, vs, e1, _⟩ | ⟨t2, ks, ws, o, vs, e1, _⟩⟩
  · exact r
  · subst e1; cases t <;> simp [isKey, dkey, dkeyT] at h
  · subst e1; cases t <;> simp [isKey, dkey, dkeyT] at h
/-- what a dict gives for a key -/
theorem dct_get {g : Gc} {F : Hp} {A : List Addr} {S : Store} {H : Hp} (st : StR g F A S H) {a : Addr} {o : HO} {ks ws : List D} {vs : List V} {t : Bool} (rd : Rd H a o) (dr : DctR o ks vs t) (r : RepL g F A vs ws) {v : V} {d : D} (rk : Rep g F A v d) (hk : isKey t d = true) :
    ∃ ov, DGet H a v ov ∧ RepO g F A ov (dget ks ws d) := by
  cases t with
  | false =>
    obtain ⟨l, rfl, e1, rfl⟩ := dr
    cases e : dkey d with
    | none => simp [isKey, e] at hk
    | some k =>
      refine ⟨valV l k, .inl ⟨l, k, rd, rep_key rk e, rfl⟩, dget_k e e1 r⟩
  | true =>
    obtain ⟨l, rfl, e1, rfl⟩ := dr
    cases e : dkeyT d with
    | none => simp [isKey, e] at hk
    | some k =>
      obtain ⟨a2, e2, f⟩ := rep_keyT rk e
      exact ⟨valV l k, .inr ⟨l, k, a2, rd, e2, st.fin.tup f, rfl⟩, dget_t e e1 r⟩
theorem RepO.isSome {g : Gc} {F : Hp} {A : List Addr} {ov : Option V} {od : Option D} (r : RepO g F A ov od) : ov.isSome = od.isSome := by
  cases ov <;> cases od <;> first | rfl | exact r.elim
end G
set_option maxHeartbeats 1000000
namespace G
open PySem PySem.Spec PyProof.Rows L2

section
variable {X : Cx} {q : Pc}
/-- in a comparison: room, and the written part -/
def rCmp (q : Pc) (o : CO) : R2 := fun x y H Q => ∃ b b' F A S d e res, StR q.g F A S H ∧ RepX q.g b F A H x d ∧ RepX q.g b' F A H y e ∧ cmpop S o d e = some res ∧ Gets q F A H S (.bl res) Q
theorem rx_isnon {g : Gc} {b : Bool} {F : Hp} {A : List Addr} {S : Store} {H : Hp} {v : V} {d : D} (st : StR g F A S H) (r : RepX g b F A H v d) (h : d ≠ .non) (h2 : ∀ n, d ≠ .ref n) (h3 : ∀ n, d ≠ .fn n) : v ≠ .non := by
  intro z
  subst z
  cases d with
  | non => exact h rfl
  | bl x => have := rx_bl r; cases this
  | int x => have := rx_int r; cases this
  | str x => have := rx_str r; cases this
  | tup x => obtain ⟨_, _, e, _⟩ := rx_tup st r; cases e
  | kt x => obtain ⟨_, _, e, _⟩ := rx_kt st r; cases e
  | lst x => obtain ⟨_, _, e, _⟩ := rx_lst st r; cases e
  | kl x => obtain ⟨_, _, e, _⟩ := rx_kl st r; cases e
  | dct t k w => obtain ⟨_, _, _, e, _⟩ := rx_dct st r rfl; cases e
  | ref n => exact h2 n rfl
  | fn n => exact h3 n rfl
theorem in_seq {b b' : Bool} {F : Hp} {A : List Addr} {S : Store} {H : Hp} {x y : V} {d e : D} {t : Bool} {xs : List D} {res neg : Bool} {Q : VK} (hr : X.A.units + 65 < cLine) (hK : X.K = q.g.K) (st : StR q.g F A S H) (r1 : RepX q.g b F A H x d) (r2 : RepX q.g b' F A H y e) (hs : seqOf S e = some (t, xs)) (hp : pyIn d t xs = some res)
    {pins : List (Addr × Obj)} {s : Shared} {σ : L2.St} {v u : Value} (I : Inv X pins σ H s) (rx : RelV x v) (ry : RelV y u) (k : Q (.bl (if neg = true then !res else res)) H) :
    wpAny (model X.prog X.w) X.A (compareOp (if neg = true then .NotIn else .In) v u) (EP X pins σ Q) X.xe s := by
  obtain ⟨a, vs, rfl, hq, r⟩ := rx_seq st r2 hs
  unfold pyIn at hp
  split at hp
  · rename_i hf
    cases hp
    simp only [Bool.and_eq_true] at hf
    have rf := rx_flat r1 hf.1
    have hq' : SqL X.K H a vs ∨ SqT X.K H a vs := by
      rw [hK]
      cases t with
      | true => exact .inr hq
      | false => exact .inl hq
    have ee := flat_any rf hf.1 r hf.2
    cases neg with
    | false =>
      refine op_in_seq pins s σ H _ _ v u Q I rx ry ⟨a, vs, rfl, hq', flat_v rf hf.1, flat_all r hf.2, ?_⟩
      show Q (.bl (inV x vs)) H
      rw [ee]; exact k
    | true =>
      refine op_notIn_seq pins s σ H _ _ v u Q I rx ry ⟨a, vs, rfl, hq', flat_v rf hf.1, flat_all r hf.2, ?_⟩
      show Q (.bl (!inV x vs)) H
      rw [ee]; exact k
  · split at hp
    · cases hp
    · split at hp
      · rename_i p ps e1 e2
        split at hp
        · rename_i hf
          cases hp
          simp only [Bool.and_eq_true] at hf
          have ht : t = false := by
            cases t <;> simp_all
          subst ht
          have d1 := rx_dp st r1 e1
          have d2 : Dp X.K H (.ref a) (.list ps) := .lst (by rw [hK]; exact hq) (by rw [hK]; exact rep_dps st.fin r e2)
          rw [← hK] at d1
          cases neg with
          | false => exact op_inD hr pins s σ H _ _ v u Q I rx ry ⟨p, ps, d1, d2, hf.1, hf.2, k⟩
          | true => exact op_notInD hr pins s σ H _ _ v u Q I rx ry ⟨p, ps, d1, d2, hf.1, hf.2, k⟩
        · cases hp
      · cases hp
theorem in_dct {b b' : Bool} {F : Hp} {A : List Addr} {S : Store} {H : Hp} {x y : V} {d e : D} {t : Bool} {ks ws : List D} {neg : Bool} {Q : VK} (hr : X.A.units + 65 < cLine) (st : StR q.g F A S H) (r1 : RepX q.g b F A H x d) (r2 : RepX q.g b' F A H y e) (hs : dctOf S e = some (t, ks, ws)) (hk : isKey t d = true)
    {pins : List (Addr × Obj)} {s : Shared} {σ : L2.St} {v u : Value} (I : Inv X pins σ H s) (rx : RelV x v) (ry : RelV y u) (k : Q (.bl (if neg = true then !(dget ks ws d).isSome else (dget ks ws d).isSome)) H) :
    wpAny (model X.prog X.w) X.A (compareOp (if neg = true then .NotIn else .In) v u) (EP X pins σ Q) X.xe s := by
  obtain ⟨a, o, vs, rfl, rd, dr, r⟩ := rx_dct st r2 hs
  obtain ⟨ov, dg, ro⟩ := dct_get st rd dr r (key_flat r1 hk) hk
  have e2 := ro.isSome
  cases ry
  cases neg with
  | false => exact d_in (by omega) I dg rx fun s' I' => ⟨.bl ov.isSome, H, I', rfl, by rw [e2]; exact k⟩
  | true => exact d_notIn (by omega) I dg rx fun s' I' => ⟨.bl (!ov.isSome), H, I', rfl, by rw [e2]; exact k⟩
theorem op_cmp (hK : X.K = q.g.K) (hr : X.A.units + 65 < cLine) (o : CO) : OpR X (compareOp (cOp o)) (rCmp q o) := by
  intro pins s σ H x y v u Q I rx ry h
  obtain ⟨b, b', F, A, S, d, e, res, st, r1, r2, hb, k⟩ := h
  have eqd : ∀ {res : Bool}, pyEq d e = some res → ∃ p p', Dp X.K H x p ∧ Dp X.K H y p' ∧ SeqAt.shaped p = true ∧ SeqAt.shaped p' = true ∧ res = PyData.eqv p p' := by
    intro res h
    unfold pyEq at h
    split at h
    · rename_i p p' e1 e2
      split at h
      · rename_i hf
        cases h
        simp only [Bool.and_eq_true] at hf
        exact ⟨p, p', by rw [hK]; exact rx_dp st r1 e1, by rw [hK]; exact rx_dp st r2 e2, hf.1, hf.2, rfl⟩
      · cases h
    · cases h
  unfold cmpop at hb
  split at hb
  · obtain ⟨p, p', d1, d2, s1, s2, rfl⟩ := eqd hb
    exact op_eqD (by omega) pins s σ H _ _ v u Q I rx ry ⟨p, p', d1, d2, s1, s2, k.here st rfl⟩
  · simp only [Option.map_eq_some_iff] at hb
    obtain ⟨z, hb, rfl⟩ := hb
    obtain ⟨p, p', d1, d2, s1, s2, rfl⟩ := eqd hb
    exact op_neD (by omega) pins s σ H _ _ v u Q I rx ry ⟨p, p', d1, d2, s1, s2, k.here st rfl⟩
  · cases hb
    rw [rx_int r1] at rx; rw [rx_int r2] at ry
    exact op_lt pins s σ H _ _ v u Q I rx ry ⟨_, _, rfl, rfl, k.here st rfl⟩
  · cases hb
    rw [rx_int r1] at rx; rw [rx_int r2] at ry
    exact op_le pins s σ H _ _ v u Q I rx ry ⟨_, _, rfl, rfl, k.here st rfl⟩
  · cases hb
    rw [rx_int r1] at rx; rw [rx_int r2] at ry
    exact op_gt pins s σ H _ _ v u Q I rx ry ⟨_, _, rfl, rfl, k.here st rfl⟩
  · cases hb
    rw [rx_int r1] at rx; rw [rx_int r2] at ry
    exact op_ge pins s σ H _ _ v u Q I rx ry ⟨_, _, rfl, rfl, k.here st rfl⟩
  · cases hb
    have e2 := rx_non r2
    refine op_isN pins s σ H _ _ v u Q I rx ry ⟨e2, ?_⟩
    rw [rx_non r1]; exact k.here st rfl
  · cases hb
  · cases hb
  · cases hb
    rename_i h1 h2 h3
    refine op_isN pins s σ H _ _ v u Q I rx ry ⟨rx_non r2, ?_⟩
    rw [decide_eq_false (rx_isnon st r1 (fun z => h1 z) (fun n z => h2 n z) (fun n z => h3 n z))]; exact k.here st rfl
  · cases hb
    rw [rx_bl r1] at rx; rw [rx_bl r2] at ry
    exact op_is_bl pins s σ H _ _ v u Q I rx ry ⟨_, _, rfl, rfl, k.here st rfl⟩
  · cases hb
    have e2 := rx_non r2
    refine op_notN pins s σ H _ _ v u Q I rx ry ⟨e2, ?_⟩
    rw [rx_non r1]; exact k.here st rfl
  · cases hb
  · cases hb
  · cases hb
    rename_i h1 h2 h3
    refine op_notN pins s σ H _ _ v u Q I rx ry ⟨rx_non r2, ?_⟩
    rw [decide_eq_false (rx_isnon st r1 (fun z => h1 z) (fun n z => h2 n z) (fun n z => h3 n z))]; exact k.here st rfl
  · cases hb
    rw [rx_bl r1] at rx; rw [rx_bl r2] at ry
    exact op_isnot_bl pins s σ H _ _ v u Q I rx ry ⟨_, _, rfl, rfl, k.here st rfl⟩
  · split at hb
    · rename_i t ks ws hd
      split at hb
      · rename_i hk
        cases hb
        exact in_dct (neg := false) hr st r1 r2 hd hk I rx ry (k.here st rfl)
      · cases hb
    · split at hb
      · cases hb
      · simp only [Option.bind_eq_some_iff] at hb
        obtain ⟨⟨t, xs⟩, h1, h2⟩ := hb
        exact in_seq (neg := false) hr hK st r1 r2 h1 h2 I rx ry (k.here st rfl)
  · split at hb
    · rename_i t ks ws hd
      split at hb
      · rename_i hk
        cases hb
        exact in_dct (neg := true) hr st r1 r2 hd hk I rx ry (k.here st rfl)
      · cases hb
    · split at hb
      · cases hb
      · simp only [Option.map_eq_some_iff, Option.bind_eq_some_iff] at hb
        obtain ⟨z, ⟨⟨t, xs⟩, h1, h2⟩, rfl⟩ := hb
        exact in_seq (neg := true) hr hK st r1 r2 h1 h2 I rx ry (k.here st rfl)
  · cases hb

/-! ### subscripts -/
theorem ix_dct (hu : X.A.units + 1 < cLine) : IxR X (fun x y H Q => ∃ a v, x = .ref a ∧ DGet H a y (some v) ∧ Q v H) := by
  intro value slice pins s σ H x y v u Q I rx ry h hs
  obtain ⟨a, z, rfl, dg, k⟩ := h
  cases rx
  have hT := dict_typeIs I dg
  unfold subscriptTail
  refine wpAny_bind ?_
  rw [getitemInPython_of_ne hT.not_modules]
  refine wpAny_bind (wpAny_specialOf hT PySem.F.slot_dict_getitem.lookup ?_)
  have fin : wpAny (model X.prog X.w) X.A (subscripted slice false (.ref a) u) (fun r s₃ => wpAny (model X.prog X.w) X.A (letTemporaryGo value (.ref a) r >>= fun _ => pure r) (EP X pins σ Q) X.xe s₃) X.xe s := by
    rw [hs]
    exact wpAny_operating (d_getItem hu I dg ry fun w' s3 I3 rw' => wpAny_bind (wpAny_letTemporaryGo (wpAny_pure ⟨z, H, I3, rw', k⟩)))
  first
    | exact wpAny_pure (wpAny_bind fin)
    | exact wpAny_bind (wpAny_pure (wpAny_bind fin))
    | exact wpAny_bind fin
def rIdx (q : Pc) : R2 := fun x y H Q => ∃ b b' F A S d e res, StR q.g F A S H ∧ RepX q.g b F A H x d ∧ RepX q.g b' F A H y e ∧ index S d e = some res ∧ Gets q F A H S res Q
theorem ix_idx (hK : X.K = q.g.K) (hr : X.A.units + 65 < cLine) : IxR X (rIdx q) := by
  intro value slice pins s σ H x y v u Q I rx ry h hs
  obtain ⟨b, b', F, A, S, d, e, res, st, r1, r2, hb, k⟩ := h
  unfold index at hb
  split at hb
  · rename_i t ks ws hd
    split at hb
    · rename_i hk
      obtain ⟨a, o, vs, rfl, rd, dr, r⟩ := rx_dct st r1 hd
      obtain ⟨ov, dg, ro⟩ := dct_get st rd dr r (key_flat r2 hk) hk
      rw [hb] at ro
      cases ov with
      | none => exact ro.elim
      | some z => exact ix_dct (by omega) value slice pins s σ H _ _ v u Q I rx ry ⟨a, z, rfl, dg, k.here st ro⟩ hs
    · cases hb
  · split at hb
    · rename_i i
      simp only [Option.bind_eq_some_iff] at hb
      obtain ⟨xs, h1, j, h2, h3⟩ := hb
      obtain ⟨a, vs, rfl, hq, r⟩ := rx_seqs st r1 h1
      obtain ⟨z, hz, rz⟩ := r.get h3
      have ey := rx_int r2
      subst ey
      have ha : atI vs i = some z := by
        unfold atI
        rw [r.len]
        unfold ixOf at h2
        rw [h2]
        exact hz
      rw [← hK] at hq
      rcases hq with hq | hq
      · exact ix_list value slice pins s σ H _ _ v u Q I rx ry ⟨a, vs, i, z, rfl, rfl, hq, ha, k.here st rz⟩ hs
      · exact ix_tup value slice pins s σ H _ _ v u Q I rx ry ⟨a, vs, i, z, rfl, rfl, hq, ha, k.here st rz⟩ hs
    · cases hb
/-- a slice -/
theorem RepL.cut {g : Gc} {F : Hp} {A : List Addr} {ds : List D} {vs : List V} (r : RepL g F A vs ds) (lo hi : Option Int) : RepL g F A (cutV vs lo hi) (cutD ds lo hi) := by
  unfold cutV cutD
  rw [r.len]
  exact (r.drop _).take _
def rSlc (q : Pc) : V → Option Int → Option Int → Hp → VK → Prop := fun x lo hi H Q => ∃ b F A S d t xs, StR q.g F A S H ∧ RepX q.g b F A H x d ∧ isKt d = false ∧ seqOf S d = some (t, xs) ∧ Gets q F A H S (if t = true then .tup (cutD xs lo hi) else .lst (cutD xs lo hi)) Q
theorem sl_slc (hK : X.K = q.g.K) : L2.SlR X (rSlc q) := by
  intro pins s σ H x v vl vu lo hi sl Q I rx hs pl pu h
  obtain ⟨b, F, A, S, d, t, xs, st, r1, hkt, he, k⟩ := h
  cases t with
  | false =>
    obtain ⟨a, vs, rfl, hq, r⟩ := rx_seq st r1 he
    have hq : SqL q.g.K H a vs := hq
    rw [← hK] at hq
    exact sl_list pins s σ H _ v vl vu lo hi sl Q I rx hs pl pu ⟨a, vs, rfl, hq, fun p hp => Gets.lst k st (r.cut lo hi) hp⟩
  | true =>
    cases d with
    | tup ys =>
      cases he
      obtain ⟨a, vs, rfl, hf, hq, r⟩ := rx_tup st r1
      refine sl_tupA pins s σ H _ v vl vu lo hi sl Q I rx hs pl pu ⟨a, vs, rfl, SqT.of hq, fun z => ?_, fun _ p hp => Gets.tup k st (r.cut lo hi) hp⟩
      refine Gets.here k st ⟨a, vs, rfl, hf, ?_⟩
      have hc := r.cut lo hi
      have e1 : cutV vs lo hi = vs := by
        unfold cutV
        rw [z.1, z.2, List.drop_zero, Nat.sub_zero, List.take_length]
      rw [e1] at hc
      exact hc
    | kt ys => cases hkt
    | lst ys => cases he
    | kl ys => cases he
    | ref n =>
      simp only [seqOf] at he
      split at he <;> cases he
    | _ => cases he
end
end G
set_option maxHeartbeats 1000000
namespace G
open PySem PySem.Spec PyProof.Rows L2

theorem foldMax : ∀ (l : List Int) (x : Int), (l.foldl (fun m y => if m < y then y else m) x ∈ x :: l) ∧ ∀ y ∈ x :: l, y ≤ l.foldl (fun m y => if m < y then y else m) x
  | [], x => ⟨by simp, by simp⟩
  | z :: l, x => by
    have h := foldMax l (if x < z then z else x)
    simp only [List.foldl_cons]
    refine ⟨?_, fun y hy => ?_⟩
    · have := h.1
      by_cases c : x < z
      · rw [if_pos c] at this ⊢
        rcases List.mem_cons.mp this with e | e
        · rw [e]; simp
        · exact List.mem_cons_of_mem _ (List.mem_cons_of_mem _ e)
      · rw [if_neg c] at this ⊢
        rcases List.mem_cons.mp this with e | e
        · rw [e]; simp
        · exact List.mem_cons_of_mem _ (List.mem_cons_of_mem _ e)
    · have h2 := h.2 (if x < z then z else x) (by simp)
      rcases List.mem_cons.mp hy with e | e
      · rw [e]; refine Int.le_trans ?_ h2; split <;> omega
      · rcases List.mem_cons.mp e with e | e
        · rw [e]; refine Int.le_trans ?_ h2; split <;> omega
        · exact h.2 y (List.mem_cons_of_mem _ e)
theorem foldMin : ∀ (l : List Int) (x : Int), (l.foldl (fun m y => if y < m then y else m) x ∈ x :: l) ∧ ∀ y ∈ x :: l, l.foldl (fun m y => if y < m then y else m) x ≤ y
  | [], x => ⟨by simp, by simp⟩
  | z :: l, x => by
    have h := foldMin l (if z < x then z else x)
    simp only [List.foldl_cons]
    refine ⟨?_, fun y hy => ?_⟩
    · have := h.1
      by_cases c : z < x
      · rw [if_pos c] at this ⊢
        rcases List.mem_cons.mp this with e | e
        · rw [e]; simp
        · exact List.mem_cons_of_mem _ (List.mem_cons_of_mem _ e)
      · rw [if_neg c] at this ⊢
        rcases List.mem_cons.mp this with e | e
        · rw [e]; simp
        · exact List.mem_cons_of_mem _ (List.mem_cons_of_mem _ e)
    · have h2 := h.2 (if z < x then z else x) (by simp)
      rcases List.mem_cons.mp hy with e | e
      · rw [e]; refine Int.le_trans h2 ?_; split <;> omega
      · rcases List.mem_cons.mp e with e | e
        · rw [e]; refine Int.le_trans h2 ?_; split <;> omega
        · exact h.2 y (List.mem_cons_of_mem _ e)
theorem maxI_is {ns : List Int} {r : Int} (h : maxI ns = some r) : 0 < ns.length ∧ ∀ m, m ∈ ns → (∀ y, y ∈ ns → y ≤ m) → m = r := by
  cases ns with
  | nil => cases h
  | cons x l =>
    cases h
    have f := foldMax l x
    exact ⟨by simp, fun m hm hy => Int.le_antisymm (f.2 m hm) (hy _ f.1)⟩
theorem minI_is {ns : List Int} {r : Int} (h : minI ns = some r) : 0 < ns.length ∧ ∀ m, m ∈ ns → (∀ y, y ∈ ns → m ≤ y) → m = r := by
  cases ns with
  | nil => cases h
  | cons x l =>
    cases h
    have f := foldMin l x
    exact ⟨by simp, fun m hm hy => Int.le_antisymm (hy _ f.1) (f.2 m hm)⟩
theorem insI_perm (x : Int) : ∀ l : List Int, (insI x l).Perm (x :: l)
  | [] => List.Perm.refl _
  | y :: r => by
    unfold insI
    split
    · exact List.Perm.refl _
    · exact ((insI_perm x r).cons y).trans (List.Perm.swap _ _ _)
theorem sortI_perm : ∀ l : List Int, (sortI l).Perm l
  | [] => List.Perm.refl _
  | x :: r => (insI_perm x (sortI r)).trans ((sortI_perm r).cons x)
theorem insI_sorted (x : Int) : ∀ l : List Int, l.Pairwise (· ≤ ·) → (insI x l).Pairwise (· ≤ ·)
  | [], _ => by simp [insI]
  | y :: r, h => by
    unfold insI
    have h' := List.pairwise_cons.mp h
    split
    · rename_i c
      refine List.pairwise_cons.mpr ⟨fun z hz => ?_, h⟩
      rcases List.mem_cons.mp hz with e | e
      · rw [e]; exact c
      · exact Int.le_trans c (h'.1 z e)
    · rename_i c
      refine List.pairwise_cons.mpr ⟨fun z hz => ?_, insI_sorted x r h'.2⟩
      rcases List.mem_cons.mp ((insI_perm x r).mem_iff.mp hz) with e | e
      · rw [e]; omega
      · exact h'.1 z e
theorem sortI_sorted : ∀ l : List Int, (sortI l).Pairwise (· ≤ ·)
  | [] => List.Pairwise.nil
  | x :: r => insI_sorted x _ (sortI_sorted r)

theorem intsOf_map : ∀ {xs : List D} {ns : List Int}, intsOf xs = some ns → xs = ns.map D.int
  | [], ns, h => by cases h; rfl
  | x :: r, ns, h => by
    cases x with
    | int i =>
      simp only [intsOf, Option.map_eq_some_iff] at h
      obtain ⟨ms, e, rfl⟩ := h
      rw [intsOf_map e]; rfl
    | _ => cases h
theorem blsOf_map : ∀ {xs : List D} {ns : List Bool}, blsOf xs = some ns → xs = ns.map D.bl
  | [], ns, h => by cases h; rfl
  | x :: r, ns, h => by
    cases x with
    | bl i =>
      simp only [blsOf, Option.map_eq_some_iff] at h
      obtain ⟨ms, e, rfl⟩ := h
      rw [blsOf_map e]; rfl
    | _ => cases h

section
variable {q : Pc} {X : Cx} {b : Bool} {F : Hp} {A : List Addr} {S : Store} {H : Hp} {v : V} {d : D}
theorem rx_lseq (st : StR q.g F A S H) {xs : List D} (r : RepX q.g b F A H v d) (e : lseq S d = some xs) : ∃ a vs, v = .ref a ∧ SqL q.g.K H a vs ∧ RepL q.g F A vs xs := by
  unfold lseq at e
  split at e
  · rename_i h
    cases e
    exact rx_seq st r h
  · cases e
theorem one_of {vs : List V} {d : D} (r : RepXL q.g b F A H vs [d]) : ∃ v, vs = [v] ∧ RepX q.g b F A H v d := by
  match vs, r with
  | [v], r => exact ⟨v, rfl, r.1⟩
  | [], r => exact r.elim
  | _ :: _ :: _, r => exact r.2.elim
theorem two_of {vs : List V} {d e : D} (r : RepXL q.g b F A H vs [d, e]) : ∃ v w, vs = [v, w] ∧ RepX q.g b F A H v d ∧ RepX q.g b F A H w e := by
  match vs, r with
  | [v, w], r => exact ⟨v, w, rfl, r.1, r.2.1⟩
  | [], r => exact r.elim
  | [_], r => exact r.2.elim
  | _ :: _ :: _ :: _, r => exact r.2.2.elim
/-- what a built-in function gives -/
def rBi (q : Pc) (k : Bi) : List V → Hp → VK → Prop := fun vs H Q => ∃ F A S ds res, StR q.g F A S H ∧ RepXL q.g true F A H vs ds ∧ bfun S k ds = some res ∧ Gets q F A H S res Q


theorem bi_abs : CallR X (.builtin "abs") (rBi q .abs) := by
  intro pins s σ H xs us Q I r h
  obtain ⟨F, A, S, ds, res, st, rl, hb, k⟩ := h
  replace hb : bAbs S ds = some res := hb
  unfold bAbs at hb
  split at hb <;> try (cases hb; done)
  cases hb
  obtain ⟨v, rfl, r1⟩ := one_of rl
  rw [rx_int r1] at r
  exact call_abs pins s σ H _ us Q I r ⟨_, rfl, k.here st rfl⟩
theorem bi_max2 (hc : X.calm = true) : CallR X (.builtin "max") (rBi q .max2) := by
  intro pins s σ H xs us Q I r h
  obtain ⟨F, A, S, ds, res, st, rl, hb, k⟩ := h
  replace hb : bMax2 S ds = some res := hb
  unfold bMax2 at hb
  split at hb <;> try (cases hb; done)
  cases hb
  obtain ⟨v, w, rfl, r1, r2⟩ := two_of rl
  rw [rx_int r1, rx_int r2] at r
  exact call_max2 hc pins s σ H _ us Q I r ⟨_, _, rfl, k.here st rfl⟩
theorem bi_min2 (hc : X.calm = true) : CallR X (.builtin "min") (rBi q .min2) := by
  intro pins s σ H xs us Q I r h
  obtain ⟨F, A, S, ds, res, st, rl, hb, k⟩ := h
  replace hb : bMin2 S ds = some res := hb
  unfold bMin2 at hb
  split at hb <;> try (cases hb; done)
  cases hb
  obtain ⟨v, w, rfl, r1, r2⟩ := two_of rl
  rw [rx_int r1, rx_int r2] at r
  exact call_min2 hc pins s σ H _ us Q I r ⟨_, _, rfl, k.here st rfl⟩
theorem bi_gcd : CallR X (.builtin "math.gcd") (rBi q .gcd) := by
  intro pins s σ H xs us Q I r h
  obtain ⟨F, A, S, ds, res, st, rl, hb, k⟩ := h
  replace hb : bGcd S ds = some res := hb
  unfold bGcd at hb
  split at hb <;> try (cases hb; done)
  cases hb
  obtain ⟨v, w, rfl, r1, r2⟩ := two_of rl
  rw [rx_int r1, rx_int r2] at r
  exact cr_gcd pins s σ H _ us Q I r ⟨_, _, rfl, k.here st rfl⟩
theorem bi_divmod : CallR X (.builtin "divmod") (rBi q .divmod) := by
  intro pins s σ H xs us Q I r h
  obtain ⟨F, A, S, ds, res, st, rl, hb, k⟩ := h
  replace hb : bDivmod S ds = some res := hb
  unfold bDivmod at hb
  split at hb <;> try (cases hb; done)
  split at hb <;> try (cases hb; done)
  rename_i hc
  cases hb
  obtain ⟨v, w, rfl, r1, r2⟩ := two_of rl
  rw [rx_int r1, rx_int r2] at r
  exact call_divmod pins s σ H _ us Q I r ⟨_, _, rfl, (show CDiv _ _ from of_decide_eq_true (p := 0 < _ ∧ _ < 1073741824) hc), fun p hp => Gets.tup (xs := [.int _, .int _]) (vs := [.int _, .int _]) k st ⟨rfl, rfl, trivial⟩ hp⟩
theorem bi_int : CallR X (.type "int") (rBi q .int) := by
  intro pins s σ H xs us Q I r h
  obtain ⟨F, A, S, ds, res, st, rl, hb, k⟩ := h
  replace hb : bInt S ds = some res := hb
  unfold bInt at hb
  split at hb <;> try (cases hb; done)
  · cases hb
    obtain ⟨v, rfl, r1⟩ := one_of rl
    rw [rx_int r1] at r
    exact call_int1 pins s σ H _ us Q I r (.inl ⟨_, rfl, k.here st rfl⟩)
  · cases hb
    obtain ⟨v, rfl, r1⟩ := one_of rl
    rw [rx_bl r1] at r
    exact call_int1 pins s σ H _ us Q I r (.inr ⟨_, rfl, k.here st rfl⟩)
theorem log2_of {n : Nat} (h : n < 2 ^ 64) : n.log2 < 1920 := by
  by_cases z : n = 0
  · subst z; decide
  · exact Nat.lt_of_lt_of_le ((Nat.log2_lt z).mpr h) (by decide)
theorem bi_str : CallR X (.type "str") (rBi q .str) := by
  intro pins s σ H xs us Q I r h
  obtain ⟨F, A, S, ds, res, st, rl, hb, k⟩ := h
  replace hb : bStr S ds = some res := hb
  unfold bStr at hb
  split at hb <;> try (cases hb; done)
  split at hb <;> try (cases hb; done)
  rename_i hc
  cases hb
  obtain ⟨v, rfl, r1⟩ := one_of rl
  rw [rx_int r1] at r
  exact call_str_int pins s σ H _ us Q I r ⟨_, rfl, log2_of (of_decide_eq_true hc), k.here st rfl⟩
theorem bi_max1 (hK : X.K = q.g.K) (hc : X.calm = true) : CallR X (.builtin "max") (rBi q .max1) := by
  intro pins s σ H xs us Q I r h
  obtain ⟨F, A, S, ds, res, st, rl, hb, k⟩ := h
  replace hb : bMax1 S ds = some res := hb
  unfold bMax1 at hb
  split at hb <;> try (cases hb; done)
  simp only [Option.bind_eq_some_iff, Option.map_eq_some_iff] at hb
  obtain ⟨ys, h1, ns, h2, m, h3, rfl⟩ := hb
  obtain ⟨v, rfl, r1⟩ := one_of rl
  obtain ⟨a, vs, rfl, hq, rr⟩ := rx_lseq st r1 h1
  rw [intsOf_map h2] at rr
  rw [rr.of_ints, ← hK] at hq
  obtain ⟨l0, l1⟩ := maxI_is h3
  exact cr_max hc pins s σ H _ us Q I r ⟨a, ns, rfl, hq, l0, fun m' h1 h2 => by rw [l1 m' h1 h2]; exact k.here st rfl⟩
theorem bi_min1 (hK : X.K = q.g.K) (hc : X.calm = true) : CallR X (.builtin "min") (rBi q .min1) := by
  intro pins s σ H xs us Q I r h
  obtain ⟨F, A, S, ds, res, st, rl, hb, k⟩ := h
  replace hb : bMin1 S ds = some res := hb
  unfold bMin1 at hb
  split at hb <;> try (cases hb; done)
  simp only [Option.bind_eq_some_iff, Option.map_eq_some_iff] at hb
  obtain ⟨ys, h1, ns, h2, m, h3, rfl⟩ := hb
  obtain ⟨v, rfl, r1⟩ := one_of rl
  obtain ⟨a, vs, rfl, hq, rr⟩ := rx_lseq st r1 h1
  rw [intsOf_map h2] at rr
  rw [rr.of_ints, ← hK] at hq
  obtain ⟨l0, l1⟩ := minI_is h3
  exact cr_min hc pins s σ H _ us Q I r ⟨a, ns, rfl, hq, l0, fun m' h1 h2 => by rw [l1 m' h1 h2]; exact k.here st rfl⟩
theorem bi_sum (hK : X.K = q.g.K) (hc : X.calm = true) : CallR X (.builtin "sum") (rBi q .sum) := by
  intro pins s σ H xs us Q I r h
  obtain ⟨F, A, S, ds, res, st, rl, hb, k⟩ := h
  replace hb : bSum S ds = some res := hb
  unfold bSum at hb
  split at hb <;> try (cases hb; done)
  simp only [Option.bind_eq_some_iff, Option.map_eq_some_iff] at hb
  obtain ⟨ys, h1, ns, h2, rfl⟩ := hb
  obtain ⟨v, rfl, r1⟩ := one_of rl
  obtain ⟨a, vs, rfl, hq, rr⟩ := rx_lseq st r1 h1
  rw [intsOf_map h2] at rr
  rw [rr.of_ints, ← hK] at hq
  exact cr_sum hc pins s σ H _ us Q I r ⟨a, ns, rfl, hq, k.here st rfl⟩
theorem bi_all (hK : X.K = q.g.K) (hc : X.calm = true) : CallR X (.builtin "all") (rBi q .all) := by
  intro pins s σ H xs us Q I r h
  obtain ⟨F, A, S, ds, res, st, rl, hb, k⟩ := h
  replace hb : bAll S ds = some res := hb
  unfold bAll at hb
  split at hb <;> try (cases hb; done)
  simp only [Option.bind_eq_some_iff, Option.map_eq_some_iff] at hb
  obtain ⟨ys, h1, ns, h2, rfl⟩ := hb
  obtain ⟨v, rfl, r1⟩ := one_of rl
  obtain ⟨a, vs, rfl, hq, rr⟩ := rx_lseq st r1 h1
  rw [blsOf_map h2] at rr
  rw [rr.of_bls, ← hK] at hq
  exact cr_all hc pins s σ H _ us Q I r ⟨a, ns, rfl, hq, k.here st rfl⟩
theorem bi_any (hK : X.K = q.g.K) (hc : X.calm = true) : CallR X (.builtin "any") (rBi q .any) := by
  intro pins s σ H xs us Q I r h
  obtain ⟨F, A, S, ds, res, st, rl, hb, k⟩ := h
  replace hb : bAny S ds = some res := hb
  unfold bAny at hb
  split at hb <;> try (cases hb; done)
  simp only [Option.bind_eq_some_iff, Option.map_eq_some_iff] at hb
  obtain ⟨ys, h1, ns, h2, rfl⟩ := hb
  obtain ⟨v, rfl, r1⟩ := one_of rl
  obtain ⟨a, vs, rfl, hq, rr⟩ := rx_lseq st r1 h1
  rw [blsOf_map h2] at rr
  rw [rr.of_bls, ← hK] at hq
  exact cr_any hc pins s σ H _ us Q I r ⟨a, ns, rfl, hq, k.here st rfl⟩
theorem bi_list (hK : X.K = q.g.K) : CallR X (.type "list") (fun vs H Q => ∃ F A S ds, ∃ xs : D × List D, StR q.g F A S H ∧ RepXL q.g true F A H vs ds ∧ ds = [xs.1] ∧ seqs S xs.1 = some xs.2 ∧ ∀ p vs', RepL q.g F A vs' xs.2 → H p = none → Q (.ref p) (upd H p (.lst vs'))) := by
  intro pins s σ H xs us Q I r h
  obtain ⟨F, A, S, ds, ⟨d, ys⟩, st, rl, e, hb, k⟩ := h
  subst e
  obtain ⟨v, rfl, r1⟩ := one_of rl
  obtain ⟨a, vs, rfl, hq, rr⟩ := rx_seqs st r1 hb
  rw [← hK] at hq
  exact call_list_of pins s σ H _ us Q I r ⟨a, vs, rfl, hq, fun p hp => k p vs rr hp⟩
theorem bi_tuple (hK : X.K = q.g.K) : CallR X (.type "tuple") (rBi q .tuple) := by
  intro pins s σ H xs us Q I r h
  obtain ⟨F, A, S, ds, res, st, rl, hb, k⟩ := h
  replace hb : bTuple S ds = some res := hb
  unfold bTuple at hb
  split at hb <;> try (cases hb; done)
  rename_i d
  have hk : ∀ ws, d ≠ .kt ws := fun ws e => by subst e; cases hb
  replace hb : (seqs S d).map D.tup = some res := by revert hb; cases d <;> first | exact id | (intro z; cases z)
  obtain ⟨v, rfl, r1⟩ := one_of rl
  simp only [Option.map_eq_some_iff] at hb
  obtain ⟨ys, hb, rfl⟩ := hb
  unfold seqs at hb
  simp only [Option.map_eq_some_iff] at hb
  obtain ⟨⟨t, zs⟩, hb, rfl⟩ := hb
  obtain ⟨a, vs, rfl, hq, rr⟩ := rx_seq st r1 hb
  cases t with
  | false =>
    have hq : SqL q.g.K H a vs := hq
    rw [← hK] at hq
    exact call_tuple_of pins s σ H _ us Q I r ⟨a, vs, rfl, .inl ⟨hq, fun p hp => Gets.tup k st rr hp⟩⟩
  | true =>
    have hq : SqT q.g.K H a vs := hq
    rw [← hK] at hq
    refine call_tuple_of pins s σ H _ us Q I r ⟨a, vs, rfl, .inr ⟨hq, ?_⟩⟩
    cases d with
    | tup ws =>
      cases hb
      rcases r1 with r1 | ⟨_, p, e0, _, ⟨xs, vs, e, _⟩ | ⟨t, ks, ws, o, vs, e, _⟩⟩
      · exact k.here st r1
      · cases e
      · cases e
    | kt ws => exact absurd rfl (hk ws)
    | ref n =>
      simp only [seqOf] at hb
      split at hb <;> cases hb
    | _ => cases hb
theorem bi_sorted (hK : X.K = q.g.K) : CallR X (.builtin "sorted") (fun vs H Q => ∃ F A S ds, ∃ xs : D × List D, ∃ ns, StR q.g F A S H ∧ RepXL q.g true F A H vs ds ∧ ds = [xs.1] ∧ lseq S xs.1 = some xs.2 ∧ intsOf xs.2 = some ns ∧ ∀ p, H p = none → Q (.ref p) (upd H p (.lst ((sortI ns).map V.int)))) := by
  intro pins s σ H xs us Q I r h
  obtain ⟨F, A, S, ds, ⟨d, ys⟩, ns, st, rl, e, hb, h2, k⟩ := h
  subst e
  obtain ⟨v, rfl, r1⟩ := one_of rl
  obtain ⟨a, vs, rfl, hq, rr⟩ := rx_lseq st r1 hb
  have h2 : ys = ns.map D.int := intsOf_map h2
  have rr : RepL q.g F A vs ys := rr
  rw [h2] at rr
  rw [rr.of_ints, ← hK] at hq
  exact cr_sortedI pins s σ H _ us Q I r ⟨a, ns, rfl, hq, fun ns' p h1 h2 hp => by
    have e := PySem.W.ksm_same (h1.trans (sortI_perm ns).symm) h2 (sortI_sorted ns)
    rw [e]; exact k p hp⟩
theorem bi_len (hK : X.K = q.g.K) : CallR X (.builtin "len") (rBi q .len) := by
  intro pins s σ H xs us Q I r h
  obtain ⟨F, A, S, ds, res, st, rl, hb, k⟩ := h
  replace hb : bLen S ds = some res := hb
  unfold bLen at hb
  split at hb <;> try (cases hb; done)
  rename_i d
  obtain ⟨v, rfl, r1⟩ := one_of rl
  split at hb
  · rename_i z
    split at hb <;> try (cases hb; done)
    rename_i hl
    cases hb
    rw [rx_str r1] at r
    exact call_len pins s σ H _ us Q I r ⟨_, _, rfl, ⟨line_ok hl, rfl⟩, k.here st rfl⟩
  · split at hb <;> try (cases hb; done)
    · rename_i ks ws hd
      cases hb
      obtain ⟨a, o, vs, rfl, rd, dr, rr⟩ := rx_dct st r1 hd
      obtain ⟨l, rfl, e1, e2⟩ := dr
      obtain ⟨u, rfl, ru⟩ := vals1 r
      cases ru
      have el : ks.length = l.length := by have := congrArg List.length e1; simpa using this
      exact d_len I rd fun t s' I' => ⟨.int l.length, H, I', ⟨t, rfl⟩, by rw [← el]; exact k.here st rfl⟩
    · simp only [Option.map_eq_some_iff] at hb
      obtain ⟨ys, hb, rfl⟩ := hb
      obtain ⟨a, vs, rfl, hq, rr⟩ := rx_seqs st r1 hb
      rw [← hK] at hq
      refine call_len pins s σ H _ us Q I r ⟨_, vs.length, rfl, ?_, by rw [rr.len]; exact k.here st rfl⟩
      rcases hq with hq | hq
      · exact .inl ⟨vs, hq, rfl⟩
      · exact .inr ⟨vs, hq, rfl⟩
end
end G
set_option maxHeartbeats 1000000
namespace G
open PySem PySem.Spec PyProof.Rows L2
theorem zip_lookup : ∀ {ps : List Str} {us : List Value}, us.length = ps.length → ∀ n ∈ ps, ((ps.zip us).lookup n).isNone = false
  | [], _, _, n, h => by cases h
  | p :: ps, [], hl, _, _ => by cases hl
  | p :: ps, u :: us, hl, n, h => by
    rw [List.zip_cons_cons, List.lookup_cons]
    by_cases e : n == p
    · rw [e]; rfl
    · have e' : (n == p) = false := by simpa using e
      rw [e']
      rcases List.mem_cons.mp h with z | z
      · rw [z] at e; exact absurd (by simp) e
      · exact zip_lookup (by simpa using hl) n z
theorem zip_binds : ∀ {ps : List Str} {us : List Value} (acc : List (Str × Value)), us.length = ps.length → ps.Nodup → (∀ p ∈ ps, ∀ v, (p, v) ∉ acc) → ps.filterMap (fun n => ((acc ++ ps.zip us).lookup n).map (n, ·)) = ps.zip us
  | [], _, _, _, _, _ => by simp
  | p :: ps, [], _, hl, _, _ => by cases hl
  | p :: ps, u :: us, acc, hl, nd, na => by
    have nd' := List.nodup_cons.mp nd
    have l1 : (acc ++ (p, u) :: ps.zip us).lookup p = some u := by
      rw [List.lookup_append]
      have : acc.lookup p = none := by
        cases e : acc.lookup p with
        | none => rfl
        | some v => exact absurd (PySem.mem_of_lookup e) (na p (by simp) v)
      rw [this]; simp [List.lookup]
    rw [List.zip_cons_cons, List.filterMap_cons, l1]
    have := zip_binds (ps := ps) (us := us) (acc ++ [(p, u)]) (by simpa using hl) nd'.2 (fun q hq v m => by
      rcases List.mem_append.mp m with m | m
      · exact na q (List.mem_cons_of_mem _ hq) v m
      · rw [List.mem_singleton] at m; cases m; exact nd'.1 hq)
    rw [List.append_assoc] at this
    simp only [List.singleton_append] at this
    simp only [Option.map_some]
    rw [this]
theorem bind_all {fd : FuncData} {ps : List Str} (h1 : fd.params.posonlyargs = []) (h2 : fd.params.kwonlyargs = []) (h3 : fd.params.vararg = none) (h4 : fd.params.kwarg = none) (h5 : fd.defaults = .none) (h6 : fd.params.args.map (·.arg) = ps) (nd : ps.Nodup) (us : List Value) (hl : us.length = ps.length) : bindArgs fd ⟨us, []⟩ = pure (ps.zip us) := by
  have hz := zip_binds (us := us) [] hl nd (fun _ _ _ m => by cases m)
  have hm : ps.filter (fun n => ((ps.zip us).lookup n).isNone) = [] := by
    rw [List.filter_eq_nil_iff]
    intro n hn
    rw [zip_lookup hl n hn]; simp
  simp only [List.nil_append] at hz
  unfold bindArgs
  simp only [h1, h2, h3, h4, h5, h6, List.map_nil, List.nil_append, seqItems?, List.append_nil, hl]
  simp [hz, hm]
  rfl
end G
set_option maxHeartbeats 1000000
namespace G
open PySem PySem.Spec PyProof.Rows L2
def gP {α : Type} (perm : List Nat) (us ws : List α) : List α := us ++ perm.filterMap fun i => ws[i]?
def kwOk (ps : List Str) (n : Nat) (ks : List Str) (perm : List Nat) : Bool := decide (n ≤ ps.length) && decide ((perm.filterMap fun i => ks[i]?) = ps.drop n) && decide ks.Nodup && (perm.all fun i => decide (i < ks.length)) && ks.all fun k => decide (k ∈ ps.drop n)
theorem lookup_nomem {k : Str} : ∀ {l : List (Str × Value)}, k ∉ l.map (·.1) → l.lookup k = none
  | [], _ => rfl
  | p :: l, h => by
    rw [List.lookup_cons]
    have h1 : (k == p.1) = false := by
      simp only [List.map_cons, List.mem_cons, not_or] at h
      simpa using h.1
    rw [h1]
    exact lookup_nomem (fun m => h (by simp only [List.map_cons]; exact List.mem_cons_of_mem _ m))
theorem kw_loop (ps : List Str) (f : Str × Value → List (Str × Value) × List (Str × Value) → Sem (ForInStep (List (Str × Value) × List (Str × Value)))) (hf : ∀ x s, ps.contains x.1 = true → (s.1.lookup x.1).isSome = false → f x s = pure (.yield (s.1 ++ [(x.1, x.2)], s.2))) :
    ∀ (kw : List (Str × Value)) (sl ex : List (Str × Value)), (∀ p ∈ kw, p.1 ∈ ps) → (kw.map (·.1)).Nodup → (∀ p ∈ kw, p.1 ∉ sl.map (·.1)) → forIn kw (sl, ex) f = pure (sl ++ kw, ex)
  | [], sl, ex, _, _, _ => by simp
  | p :: kw, sl, ex, h1, h2, h3 => by
    have e := hf p (sl, ex) (by simpa using h1 p List.mem_cons_self) (by rw [lookup_nomem (h3 p List.mem_cons_self)]; rfl)
    rw [List.forIn_cons, e]
    simp only [List.map_cons, List.nodup_cons] at h2
    have := kw_loop ps f hf kw (sl ++ [p]) ex (fun q hq => h1 q (List.mem_cons_of_mem _ hq)) h2.2 (fun q hq m => by
      rw [List.map_append, List.mem_append] at m
      rcases m with m | m
      · exact h3 q (List.mem_cons_of_mem _ hq) m
      · simp only [List.map_cons, List.map_nil, List.mem_singleton] at m
        exact h2.1 (m ▸ List.mem_map.mpr ⟨q, hq, rfl⟩))
    rw [pure_bind]
    show forIn kw (sl ++ [p], ex) f = _
    rw [this]
    simp
theorem lookup_some {k : Str} : ∀ {l : List (Str × Value)}, k ∈ l.map (·.1) → (l.lookup k).isNone = false
  | [], h => by simp at h
  | p :: l, h => by
    rw [List.lookup_cons]
    by_cases z : k == p.1
    · rw [z]; rfl
    · have z' : (k == p.1) = false := by simpa using z
      rw [z']
      refine lookup_some (l := l) ?_
      rcases List.mem_cons.mp h with e | e
      · rw [e] at z; exact absurd (by simp) z
      · exact e
theorem zip_fst : ∀ (ps : List Str) (us : List Value), (ps.zip us).map (·.1) = ps.take us.length
  | [], _ => by simp
  | _ :: _, [] => by simp
  | p :: ps, u :: us => by simp [zip_fst ps us]
theorem bind_kw {fd : FuncData} {ps : List Str} (h1 : fd.params.posonlyargs = []) (h2 : fd.params.kwonlyargs = []) (h3 : fd.params.vararg = none) (h4 : fd.params.kwarg = none) (h5 : fd.defaults = .none) (h6 : fd.params.args.map (·.arg) = ps) (nd : ps.Nodup) (us : List Value) (kw : List (Str × Value))
    (hl : us.length ≤ ps.length) (hk : ∀ p ∈ kw, p.1 ∈ ps.drop us.length) (hn : (kw.map (·.1)).Nodup) (ha : ∀ p ∈ ps.drop us.length, p ∈ kw.map (·.1)) (rs : List Value) (hr : ps.filterMap (fun n => ((ps.zip us ++ kw).lookup n).map (n, ·)) = ps.zip rs) : bindArgs fd ⟨us, kw⟩ = pure (ps.zip rs) := by
  have hz : (ps.zip us).map (·.1) = ps.take us.length := by
    exact zip_fst ps us
  have hd : ∀ p ∈ kw, p.1 ∉ (ps.zip us).map (·.1) := fun p hp m => by
    rw [hz] at m
    have h0 := hk p hp
    have nd2 := nd
    rw [← List.take_append_drop us.length ps, List.nodup_append] at nd2
    exact nd2.2.2 _ m _ h0 rfl
  have hmiss : ps.filter (fun n => ((ps.zip us ++ kw).lookup n).isNone) = [] := by
    rw [List.filter_eq_nil_iff]
    intro n hn
    rw [lookup_some ?_]
    · simp
    · rw [List.map_append, List.mem_append, hz]
      rw [← List.take_append_drop us.length ps, List.mem_append] at hn
      exact hn.imp id (ha n)
  unfold bindArgs
  simp only [h1, h2, h3, h4, h5, h6, List.map_nil, List.nil_append, seqItems?, List.append_nil]
  rw [kw_loop ps _ ?hf kw (ps.zip us) [] (fun p hp => List.drop_subset _ _ (hk p hp)) hn hd]
  case hf =>
    intro x s e1 e2
    rw [e1, e2]
    rfl
  simp [hr, hmiss, show ¬ us.length > ps.length by omega]
  rfl
/-- the values in the order of the parameters -/
theorem perm_lookup {ks : List Str} (nd : ks.Nodup) : ∀ {perm : List Nat} {qs : List Str} {ws : List Value}, ws.length = ks.length → perm.filterMap (fun i => ks[i]?) = qs → (∀ i ∈ perm, i < ks.length) → ∀ (acc : List (Str × Value)), (∀ k ∈ ks, k ∉ acc.map (·.1)) → qs.filterMap (fun n => ((acc ++ ks.zip ws).lookup n).map (n, ·)) = qs.zip (perm.filterMap fun i => ws[i]?)
  | [], qs, ws, hl, h, _, acc, _ => by
    simp at h; subst h; simp
  | i :: perm, qs, ws, hl, h, hi, acc, ha => by
    have hi0 := hi i List.mem_cons_self
    rw [List.filterMap_cons, List.getElem?_eq_getElem hi0] at h
    simp only at h
    subst h
    have hw : i < ws.length := by omega
    have e : (acc ++ ks.zip ws).lookup ks[i] = some ws[i] := by
      rw [List.lookup_append, lookup_nomem (ha _ (List.getElem_mem hi0))]
      have : ∀ {ks : List Str} {ws : List Value} {i : Nat}, ks.Nodup → (h1 : i < ks.length) → (h2 : i < ws.length) → (ks.zip ws).lookup ks[i] = some ws[i] := by
        intro ks
        induction ks with
        | nil => intro ws i _ h1; simp at h1
        | cons k ks ih =>
          intro ws i nd h1 h2
          cases ws with
          | nil => simp at h2
          | cons w ws =>
            rw [List.zip_cons_cons, List.lookup_cons]
            cases i with
            | zero => simp
            | succ i =>
              simp only [List.nodup_cons] at nd
              have hne : (ks[i]'(by simpa using h1) == k) = false := by
                have : ks[i]'(by simpa using h1) ≠ k := fun z => nd.1 (z ▸ List.getElem_mem _)
                simpa using this
              simp only [List.getElem_cons_succ]
              rw [hne]
              exact ih nd.2 (by simpa using h1) (by simpa using h2)
      rw [this nd hi0 hw]; rfl
    rw [List.filterMap_cons, e]
    simp only [Option.map_some]
    rw [perm_lookup nd hl rfl (fun j hj => hi j (List.mem_cons_of_mem _ hj)) acc ha]
    rw [List.filterMap_cons, List.getElem?_eq_getElem hw]
    simp
theorem fm_congr {α β : Type} {f g : α → Option β} : ∀ {l : List α}, (∀ x ∈ l, f x = g x) → l.filterMap f = l.filterMap g
  | [], _ => rfl
  | x :: l, h => by
    rw [List.filterMap_cons, List.filterMap_cons, h x List.mem_cons_self, fm_congr fun y hy => h y (List.mem_cons_of_mem _ hy)]
theorem kbn_of {K : PySem.W.Frag} {fd : FuncData} {ps : List Str} (h1 : fd.params.posonlyargs = []) (h2 : fd.params.kwonlyargs = []) (h3 : fd.params.vararg = none) (h4 : fd.params.kwarg = none) (h5 : fd.defaults = .none) (h6 : fd.params.args.map (·.arg) = ps) (nd : ps.Nodup) {n : Nat} {ks : List Str} {perm : List Nat} (hk : kwOk ps n ks perm = true) : KBn K fd ps n ks (gP perm) (gP perm) := by
  unfold kwOk at hk
  simp only [Bool.and_eq_true, decide_eq_true_eq, List.all_eq_true] at hk
  obtain ⟨⟨⟨⟨k1, k2⟩, k3⟩, k4⟩, k5⟩ := hk
  have hmem : ∀ k, k ∈ ps.drop n → k ∈ ks := fun k hk => by
    rw [← k2] at hk
    obtain ⟨i, _, e⟩ := List.mem_filterMap.mp hk
    exact List.mem_of_getElem? e
  refine ⟨fun s us ws _ l1 l2 => ?_, fun {vs us zs ws} r rz => ?_⟩
  · have hz := zip_fst ps us
    have hkz : (ks.zip ws).map (·.1) = ks := by
      rw [zip_fst, l2, List.take_length]
    have hsp : ps = ps.take n ++ ps.drop n := (List.take_append_drop n ps).symm
    have nd2 : (ps.take n ++ ps.drop n).Nodup := by rw [← hsp]; exact nd
    rw [List.nodup_append] at nd2
    have hzt : ps.zip us = (ps.take n).zip us := by
      have e : ps.zip us = (ps.take n ++ ps.drop n).zip (us ++ []) := by rw [← hsp, List.append_nil]
      rw [e, List.zip_append (by simp; omega)]
      simp
    refine BindsTo.of_eq (bind_kw h1 h2 h3 h4 h5 h6 nd us (ks.zip ws) (by omega) (fun p hp => ?_) (by rw [hkz]; exact k3) (fun p hp => ?_) _ ?_)
    · rw [l1]; exact k5 _ (by rw [← hkz]; exact List.mem_map.mpr ⟨p, hp, rfl⟩)
    · rw [hkz]; rw [l1] at hp; exact hmem p hp
    · have hF : ∀ q ∈ ps.take n, (ps.zip us ++ ks.zip ws).lookup q = ((ps.take n).zip us).lookup q := fun q hq => by
        rw [List.lookup_append, hzt]
        have : (((ps.take n).zip us).lookup q).isNone = false := lookup_some (by rw [zip_fst, l1]; simpa [List.take_take] using hq)
        cases e : ((ps.take n).zip us).lookup q with
        | none => rw [e] at this; cases this
        | some v => rfl
      have e0 : ps.filterMap (fun q => ((ps.zip us ++ ks.zip ws).lookup q).map (q, ·)) = (ps.take n).filterMap (fun q => ((ps.zip us ++ ks.zip ws).lookup q).map (q, ·)) ++ (ps.drop n).filterMap (fun q => ((ps.zip us ++ ks.zip ws).lookup q).map (q, ·)) := by
        rw [← List.filterMap_append, ← hsp]
      have eA : (ps.take n).filterMap (fun q => ((ps.zip us ++ ks.zip ws).lookup q).map (q, ·)) = (ps.take n).zip us := by
        have := zip_binds (ps := ps.take n) (us := us) [] (by simp; omega) nd2.1 (by simp)
        simp only [List.nil_append] at this
        rw [← this]
        exact fm_congr fun q hq => by rw [hF q hq]
      have eB := perm_lookup k3 (perm := perm) l2 k2 k4 (ps.zip us) (fun k hk m => by
        rw [hz, l1] at m
        exact nd2.2.2 _ m _ (k5 k hk) rfl)
      rw [e0, eA, eB]
      unfold gP
      have e1 : ps.zip (us ++ perm.filterMap fun i => ws[i]?) = (ps.take n ++ ps.drop n).zip (us ++ perm.filterMap fun i => ws[i]?) := by rw [← hsp]
      rw [e1, List.zip_append (by simp; omega)]
  · unfold gP
    refine r.append ?_
    clear k2 k4
    induction perm with
    | nil => exact .nil
    | cons i perm ih =>
      rw [List.filterMap_cons, List.filterMap_cons]
      have hg : ∀ {zs : List V} {ws : List Value} (i : Nat), Vals zs ws → (zs[i]? = none ∧ ws[i]? = none) ∨ ∃ v u, zs[i]? = some v ∧ ws[i]? = some u ∧ RelV v u := by
        intro zs ws i h
        induction h generalizing i with
        | nil => exact .inl ⟨by simp, by simp⟩
        | cons a b ih2 =>
          cases i with
          | zero => exact .inr ⟨_, _, rfl, rfl, a⟩
          | succ i => simpa using ih2 i
      rcases hg i rz with ⟨e1, e2⟩ | ⟨v, u, e1, e2, e3⟩
      · rw [e1, e2]; exact ih
      · rw [e1, e2]; exact .cons e3 ih
end G
set_option maxHeartbeats 1000000
namespace G
open PySem PySem.Spec PyProof.Rows L2

/-- how an answer is wanted: to be read (true: an own list of the frame may be lent), or new and nobody's yet -/
inductive Md where
  | x (b : Bool)
  | new
  deriving DecidableEq
def Md.nn : Md → Bool
  | .x _ => true
  | .new => false
/-- new since H0, nobody's yet -/
def RepN (g : Gc) (H0 : Hp) (F : Hp) (A : List Addr) (H : Hp) (v : V) (d : D) : Prop :=
  ∃ p, v = .ref p ∧ p ∉ A ∧ F p = none ∧ H0 p = none ∧ ((∃ xs vs, d = .lst xs ∧ H p = some (.lst vs) ∧ RepL g F A vs xs) ∨ (∃ t ks ws o vs, d = .dct t ks ws ∧ H p = some o ∧ DctR o ks vs t ∧ RepL g F A vs ws))
def RepM (g : Gc) (H0 : Hp) : Md → Hp → List Addr → Hp → V → D → Prop
  | .x b => RepX g b
  | .new => RepN g H0
theorem RepM.of {g : Gc} {H0 : Hp} {m : Md} {F : Hp} {A : List Addr} {H : Hp} {v : V} {d : D} (hm : m.nn = true) (r : Rep g F A v d) : RepM g H0 m F A H v d := by
  cases m with
  | x b => exact .inl r
  | new => cases hm

/-! ### the readings -/
theorem Out.bind_assoc {α β γ : Type} (x : Out α) (f : α → Store → Out β) (g : β → Store → Out γ) : (x.bind f).bind g = x.bind fun a S => (f a S).bind g := by cases x <;> rfl
def asB : D → Store → Out Bool
  | .bl b, S => .ok b S
  | _, _ => .no
abbrev RB (F : Hp) (A : List Addr) (H : Hp) (b d : Bool) : Prop := b = d
section
variable (q : Pc) (ev : Ev) (W : XK)
def tE (m : Md) (e : E) : TE := fun σ H Q => ∃ F A ρ S, StR q.g F A S H ∧ EnvR q.g F A H ρ σ ∧ PostOf q (RepM q.g H m) W F A H (evalE ev ρ e S) Q
def tT (e : E) : TT := fun σ H Q => ∃ F A ρ S, StR q.g F A S H ∧ EnvR q.g F A H ρ σ ∧ PostOf q RB W F A H ((evalE ev ρ e S).bind asB) Q
def tA (b : Bool) (es : List E) : TA := fun σ H Q => ∃ F A ρ S, StR q.g F A S H ∧ EnvR q.g F A H ρ σ ∧ PostOf q (RepXL q.g b) W F A H (evalEs ev ρ es S) Q
end
theorem pe_imp {X : Cx} {e : Expr} {t t' : TE} (h : PE X e t) (i : ∀ σ H Q, t' σ H Q → t σ H Q) : PE X e t' := ⟨fun pins s σ H Q I w => h.run pins s σ H Q I (i σ H Q w)⟩
theorem pt_imp {X : Cx} {e : Expr} {t t' : TT} (h : PT X e t) (i : ∀ σ H Q, t' σ H Q → t σ H Q) : PT X e t' := ⟨fun pins s σ H Q I w => h.run pins s σ H Q I (i σ H Q w)⟩
theorem pa_imp {X : Cx} {e : List Expr} {t t' : TA} (h : PA X e t) (i : ∀ σ H Q, t' σ H Q → t σ H Q) : PA X e t' := ⟨fun pos pins s σ H Q I w => h.run pos pins s σ H Q I (i σ H Q w)⟩

section
variable {X : Cx} {q : Pc} {ev : Ev} {W : XK} {m : Md} {a b c x : Expr} {e e1 e2 e3 : E} {es : List E} {pos : Pos}

/-! ### from new to what is wanted -/
theorem Step.give {F F' : Hp} {A A' : List Addr} {H H' : Hp} {p : Addr} {o : HO} (s : Step F A H F' A' H') (hp : H p = none) (hf : F' p = none) : Step F A H (upd F' p o) A' H' :=
  ⟨s.le.trans (Le.new hf), s.px, s.keep, fun a na q n => by
    by_cases z : a = p
    · rw [z, hp]; exact id
    · rw [upd_ne z] at q; exact s.frF a na q n, s.frA, s.live⟩
theorem Step.mut {F F' : Hp} {A A' : List Addr} {H H' : Hp} {p : Addr} {o : HO} (s : Step F A H F' A' H') (hp : H p = none) : Step F A H F' A' (upd H' p o) :=
  ⟨s.le, s.px, fun a u e n => by
    rw [upd_ne (ne_of_none e hp)]; exact s.keep a u e n, s.frF, s.frA, fun a h => by
    by_cases z : a = p
    · rw [z, upd_same]; exact fun y => nomatch y
    · rw [upd_ne z]; exact s.live a h⟩
theorem new_x {e' : E} (h : PE X x (tE q ev W .new e')) (b : Bool) : PE X x (tE q ev W (.x b) e') := by
  refine ⟨fun pins s σ H Q I hw => ?_⟩
  refine thn (h.run pins s σ H (fun v H1 => (Q v H1) ∨ (∃ p o, v = .ref p ∧ H1 p = some o ∧ Mut (some o) ∧ ∀ od, Q v (upd H1 p (.frz od o)))) I ?_) fun u s1 ⟨v, H1, I1, r1, q1⟩ => ?_
  · obtain ⟨F, A, ρ, S, st, en, po⟩ := hw
    refine ⟨F, A, ρ, S, st, en, ?_⟩
    cases ho : evalE ev ρ e' S with
    | no => rw [ho] at po; exact po
    | ex c d S' => rw [ho] at po; exact po
    | ok d S' =>
      rw [ho] at po
      intro v F' A' H' stp st' r
      obtain ⟨p, rfl, hA, hF, hH, ⟨xs, vs, rfl, hp, rl⟩ | ⟨t, ks, ws, o, vs, rfl, hp, dr, rl⟩⟩ := r
      · obtain ⟨le, st2⟩ := st'.give hp hF hA
        exact .inl (po (.ref p) _ A' H' (stp.give hH hF) st2 (.inl ⟨p, vs, rfl, upd_same, rl.mono le List.prefix_rfl⟩))
      · refine .inr ⟨p, o, rfl, hp, mut_dct dr, fun od => ?_⟩
        have st1 := st'.mut (o := .frz od o) hF hA
        obtain ⟨le, st2⟩ := st1.give upd_same hF hA
        exact po (.ref p) _ A' _ ((stp.mut hH).give hH hF) st2 (.inl ⟨p, o, vs, od, rfl, upd_same, dr, rl.mono le List.prefix_rfl⟩)
  · rcases q1 with q1 | ⟨p, o, rfl, hp, mu, q1⟩
    · exact ⟨v, H1, I1, r1, q1⟩
    · obtain ⟨od, I2⟩ := I1.lock hp mu
      exact ⟨_, _, I2, r1, q1 od⟩
theorem new_m {e' : E} (h : PE X x (tE q ev W .new e')) (m : Md) : PE X x (tE q ev W m e') := by
  cases m with
  | x b => exact new_x h b
  | new => exact h
theorem RepX.up {g : Gc} {b : Bool} {F : Hp} {A : List Addr} {H : Hp} {v : V} {d : D} (h : RepX g false F A H v d) : RepX g b F A H v d := .inl h.no

/-! ### names, constants -/
theorem s_var {i : Nat} {y : Str} (hm : m.nn = true) (h1 : X.N[i]? = some y) (h2 : Vis X.env.scope y) (h3 : (y == ("__debug__" : Str)) = false) (h4 : (y == ("__classdict__" : Str)) = false) : PE X (.Name y pos) (tE q ev W m (.var i)) := by
  refine pe_imp (pe_var h1 h2 h3 h4) fun σ H Q ⟨F, A, ρ, S, st, en, po⟩ => ?_
  obtain ⟨d, hd, po⟩ := PostOf.of po
  unfold Rho.val at hd
  split at hd <;> cases hd
  rename_i hd
  obtain ⟨o, ho, v, e, r⟩ := en.at_ i _ hd
  subst e
  exact ⟨v, ho, po v F A H Step.refl st (.of hm r)⟩
theorem s_bor {i : Nat} {y : Str} (h1 : X.N[i]? = some y) (h2 : Vis X.env.scope y) (h3 : (y == ("__debug__" : Str)) = false) (h4 : (y == ("__classdict__" : Str)) = false) : PE X (.Name y pos) (tE q ev W (.x true) (.bor i)) := by
  refine pe_imp (pe_var h1 h2 h3 h4) fun σ H Q ⟨F, A, ρ, S, st, en, po⟩ => ?_
  obtain ⟨d, hd, po⟩ := PostOf.of po
  unfold Rho.borrow at hd
  split at hd <;> cases hd
  · rename_i xs hd
    obtain ⟨o, ho, p, vs, e, hp, r, hf, ha⟩ := en.at_ i _ hd
    subst e
    exact ⟨_, ho, po _ F A H Step.refl st (.inr ⟨rfl, p, rfl, ha, .inl ⟨xs, vs, rfl, hp, r⟩⟩)⟩
  · rename_i t ks ws hd
    obtain ⟨o, ho, p, h, vs, e, hp, dr, r, hf, ha⟩ := en.at_ i _ hd
    subst e
    exact ⟨_, ho, po _ F A H Step.refl st (.inr ⟨rfl, p, rfl, ha, .inr ⟨t, ks, ws, h, vs, rfl, hp, dr, r⟩⟩)⟩
def litOf : Const → Option (D × V)
  | .int i => some (.int i, .int i)
  | .bool b => some (.bl b, .bl b)
  | .none => some (.non, .non)
  | .str s => some (.str s, .str s)
  | _ => none
theorem s_con {k : Const} {j : Nat} {d : D} {v : V} (hm : m.nn = true) (h : litOf k = some (d, v)) : PE X (.Constant k j pos) (tE q ev W m (.con d)) := by
  have go : ∀ {t : V}, PE X (.Constant k j pos) (tC t) → (∀ F A, Rep q.g F A t d) → PE X (.Constant k j pos) (tE q ev W m (.con d)) := fun {t} h r =>
    pe_imp h fun σ H Q ⟨F, A, ρ, S, st, en, po⟩ => po t F A H Step.refl st (.of hm (r F A))
  cases k <;> (try (cases h; done)) <;> (cases h) <;> first
    | exact go pe_int fun _ _ => rfl
    | exact go pe_bl fun _ _ => rfl
    | exact go pe_non fun _ _ => rfl
    | exact go pe_str fun _ _ => rfl
theorem s_glo {k : Nat} {y : Str} {u : Value} {v : V} {d : D} (hm : m.nn = true) (hg : Gl X y) (h1 : X.mg y = some u) (r : RelV v u) (hr : ∀ F A, Rep q.g F A v d) (hk : ev.glo k = some d) (hd : (y == ("__debug__" : Str)) = false) : PE X (.Name y pos) (tE q ev W m (.glo k)) := by
  refine pe_imp (pe_glob hg h1 r hd) fun σ H Q ⟨F, A, ρ, S, st, en, po⟩ => ?_
  obtain ⟨d', hd', po⟩ := PostOf.of po
  rw [hk] at hd'; cases hd'
  exact po v F A H Step.refl st (.of hm (hr F A))
theorem s_fnv {f : Nat} {y : Str} (hm : m.nn = true) (hg : Gl X y) (h1 : X.mg y = some (.ref (q.g.fa f))) (hd : (y == ("__debug__" : Str)) = false) : PE X (.Name y pos) (tE q ev W m (.fnv f)) := by
  refine pe_imp (pe_glob hg h1 (v := .ref (q.g.fa f)) rfl hd) fun σ H Q ⟨F, A, ρ, S, st, en, po⟩ => ?_
  exact po _ F A H Step.refl st (.of hm rfl)
theorem s_no : PE X x (tE q ev W m .no) := ⟨fun pins s σ H Q I ⟨F, A, ρ, S, st, en, po⟩ => po.elim⟩

/-! ### operators -/
theorem s_bin {o : BO} (hm : m.nn = true) (hK : X.K = q.g.K) (ha : PE X a (tE q ev W (.x true) e1)) (hb : PE X b (tE q ev W (.x true) e2)) : PE X (.BinOp a (bOp o) b pos) (tE q ev W m (.bin o e1 e2)) := by
  refine pe_imp (pe_op (op_bin hK o) ha hb) fun σ H Q ⟨F, A, ρ, S, st, en, po⟩ => ?_
  simp only [evalE] at po
  refine ⟨F, A, ρ, S, st, en, PostOf.bind po fun v F1 A1 H1 d S1 _ s1 st1 r1 po => ?_⟩
  refine ⟨F1, A1, ρ, S1, st1, en.step s1, PostOf.bind po fun w F2 A2 H2 d2 S2 _ s2 st2 r2 po => ?_⟩
  obtain ⟨res, hr, po⟩ := PostOf.of po
  exact ⟨true, true, F2, A2, S2, d, d2, res, st2, r1.step s2, r2, hr, fun v' F' A' H' s' st' r' => po v' F' A' H' s' st' (.of hm r')⟩
theorem s_cmp {o : CO} (hm : m.nn = true) (hK : X.K = q.g.K) (hu : X.A.units + 65 < cLine) (hb0 : behindInMarks (cOp o) b = false) (ha : PE X a (tE q ev W (.x true) e1)) (hb : PE X b (tE q ev W (.x true) e2)) : PE X (.Compare a [cOp o] [b] pos) (tE q ev W m (.cmp o e1 e2)) := by
  refine pe_imp (pe_cmpR (op_cmp hK hu o) ha hb hb0) fun σ H Q ⟨F, A, ρ, S, st, en, po⟩ => ?_
  simp only [evalE] at po
  refine ⟨F, A, ρ, S, st, en, PostOf.bind po fun v F1 A1 H1 d S1 _ s1 st1 r1 po => ?_⟩
  refine ⟨F1, A1, ρ, S1, st1, en.step s1, PostOf.bind po fun w F2 A2 H2 d2 S2 _ s2 st2 r2 po => ?_⟩
  obtain ⟨res, hr, po⟩ := PostOf.of po
  rw [Option.map_eq_some_iff] at hr
  obtain ⟨r, hr, rfl⟩ := hr
  exact ⟨true, true, F2, A2, S2, d, d2, r, st2, r1.step s2, r2, hr, fun v' F' A' H' s' st' r' => po v' F' A' H' s' st' (.of hm r')⟩
theorem t_cmp {o : CO} (hK : X.K = q.g.K) (hu : X.A.units + 65 < cLine) (hb0 : behindInMarks (cOp o) b = false) (ha : PE X a (tE q ev W (.x true) e1)) (hb : PE X b (tE q ev W (.x true) e2)) : PT X (.Compare a [cOp o] [b] pos) (tT q ev W (.cmp o e1 e2)) := by
  refine pt_imp (pt_cmpR (op_cmp hK hu o) ha hb hb0) fun σ H Q ⟨F, A, ρ, S, st, en, po⟩ => ?_
  simp only [evalE, Out.bind_assoc] at po
  refine ⟨F, A, ρ, S, st, en, PostOf.bind po fun v F1 A1 H1 d S1 _ s1 st1 r1 po => ?_⟩
  refine ⟨F1, A1, ρ, S1, st1, en.step s1, PostOf.bind po fun w F2 A2 H2 d2 S2 _ s2 st2 r2 po => ?_⟩
  cases hr : cmpop S2 o d d2 with
  | none => rw [hr] at po; exact po.elim
  | some r =>
  rw [hr] at po
  exact ⟨true, true, F2, A2, S2, d, d2, r, st2, r1.step s2, r2, hr, fun v' F' A' H' s' st' r' => ⟨r, r', po _ F' A' H' s' st' rfl⟩⟩
theorem s_chn {o o' : CO} (hm : m.nn = true) (hK : X.K = q.g.K) (hu : X.A.units + 65 < cLine) (hb0 : lastMarks [cOp o, cOp o'] [b, c] = false) (ha : PE X a (tE q ev W (.x true) e1)) (hb : PE X b (tE q ev W (.x true) e2)) (hc : PE X c (tE q ev W (.x true) e3)) : PE X (.Compare a [cOp o, cOp o'] [b, c] pos) (tE q ev W m (.chn o o' e1 e2 e3)) := by
  refine pe_imp (pe_chain (op_cmp hK hu o) (op_cmp hK hu o') ha hb hc hb0) fun σ H Q ⟨F, A, ρ, S, st, en, po⟩ => ?_
  simp only [evalE] at po
  refine ⟨F, A, ρ, S, st, en, PostOf.bind po fun v F1 A1 H1 d S1 _ s1 st1 r1 po => ?_⟩
  refine ⟨F1, A1, ρ, S1, st1, en.step s1, PostOf.bind po fun w F2 A2 H2 d2 S2 _ s2 st2 r2 po => ?_⟩
  cases hr : cmpop S2 o d d2 with
  | none => rw [hr] at po; exact po.elim
  | some r =>
    rw [hr] at po
    refine ⟨true, true, F2, A2, S2, d, d2, r, st2, r1.step s2, r2, hr, fun v' F' A' H' s' st' r' => ⟨r, r', ?_⟩⟩
    cases r with
    | false =>
      exact po (.bl false) F' A' H' s' st' (.of hm rfl)
    | true =>
      have po := PostOf.step s' po
      refine ⟨F', A', ρ, S2, st', (en.step s1).step (s2.trans s'), PostOf.bind po fun w F3 A3 H3 d3 S3 _ s3 st3 r3 po => ?_⟩
      obtain ⟨res, hr, po⟩ := PostOf.of po
      rw [Option.map_eq_some_iff] at hr
      obtain ⟨z, hr, rfl⟩ := hr
      exact ⟨true, true, F3, A3, S3, d2, d3, z, st3, (r2.step s').step s3, r3, hr, fun v' F' A' H' s' st' r' => po v' F' A' H' s' st' (.of hm r')⟩
theorem t_chn {o o' : CO} (hK : X.K = q.g.K) (hu : X.A.units + 65 < cLine) (hb0 : lastMarks [cOp o, cOp o'] [b, c] = false) (ha : PE X a (tE q ev W (.x true) e1)) (hb : PE X b (tE q ev W (.x true) e2)) (hc : PE X c (tE q ev W (.x true) e3)) : PT X (.Compare a [cOp o, cOp o'] [b, c] pos) (tT q ev W (.chn o o' e1 e2 e3)) := by
  refine pt_imp (pt_chain (op_cmp hK hu o) (op_cmp hK hu o') ha hb hc hb0) fun σ H Q ⟨F, A, ρ, S, st, en, po⟩ => ?_
  simp only [evalE, Out.bind_assoc] at po
  refine ⟨F, A, ρ, S, st, en, PostOf.bind po fun v F1 A1 H1 d S1 _ s1 st1 r1 po => ?_⟩
  refine ⟨F1, A1, ρ, S1, st1, en.step s1, PostOf.bind po fun w F2 A2 H2 d2 S2 _ s2 st2 r2 po => ?_⟩
  cases hr : cmpop S2 o d d2 with
  | none => rw [hr] at po; exact po.elim
  | some r =>
    simp only [hr] at po
    refine ⟨true, true, F2, A2, S2, d, d2, r, st2, r1.step s2, r2, hr, fun v' F' A' H' s' st' r' => ⟨r, r', ?_⟩⟩
    cases r with
    | false =>
      exact ⟨false, rfl, po false F' A' H' s' st' rfl⟩
    | true =>
      have po := PostOf.step s' po
      simp only [Out.bind_assoc] at po
      refine ⟨F', A', ρ, S2, st', (en.step s1).step (s2.trans s'), PostOf.bind po fun w F3 A3 H3 d3 S3 _ s3 st3 r3 po => ?_⟩
      cases hr : cmpop S3 o' d2 d3 with
      | none => rw [hr] at po; exact po.elim
      | some z =>
      rw [hr] at po
      exact ⟨true, true, F3, A3, S3, d2, d3, z, st3, (r2.step s').step s3, r3, hr, fun v' F' A' H' s' st' r' => ⟨z, r', po _ F' A' H' s' st' rfl⟩⟩
theorem s_neg (hm : m.nn = true) (ha : PE X a (tE q ev W (.x false) e1)) : PE X (.UnaryOp .USub a pos) (tE q ev W m (.neg e1)) := by
  refine pe_imp (pe_un un_neg ha) fun σ H Q ⟨F, A, ρ, S, st, en, po⟩ => ?_
  simp only [evalE] at po
  refine ⟨F, A, ρ, S, st, en, PostOf.bind po fun v F1 A1 H1 d S1 _ s1 st1 r1 po => ?_⟩
  split at po
  · exact ⟨_, rx_int r1, po _ F1 A1 H1 Step.refl st1 (.of hm rfl)⟩
  · exact po.elim

/-! ### tests -/
theorem bl_of {F : Hp} {A : List Addr} {H : Hp} {b : Bool} {v : V} {k : Bool} (r : RepX q.g b F A H v (.bl k)) : v = .bl k := rx_bl r
theorem t_val (ha : PE X a (tE q ev W (.x false) e1)) (he : ∀ whole, isTrue a X.env whole = (do let v ← whole; standAt a.pos; holding [v] (truthy v))) : PT X a (tT q ev W e1) := by
  refine pt_imp (pt_val ha he) fun σ H Q ⟨F, A, ρ, S, st, en, po⟩ => ?_
  refine ⟨F, A, ρ, S, st, en, PostOf.bind po fun v F1 A1 H1 d S1 _ s1 st1 r1 po => ?_⟩
  unfold asB at po
  split at po
  · exact ⟨_, rx_bl r1, po _ F1 A1 H1 Step.refl st1 rfl⟩
  · exact po.elim
theorem eval_not {ρ : Rho} {S : Store} : evalE ev ρ (.not e1) S = ((evalE ev ρ e1 S).bind asB).bind fun b S1 => .ok (.bl (!b)) S1 := by
  simp only [evalE]
  cases evalE ev ρ e1 S with
  | ok d S1 => cases d <;> rfl
  | ex c d S => rfl
  | no => rfl
theorem eval_and {ρ : Rho} {S : Store} : evalE ev ρ (.and e1 e2) S = ((evalE ev ρ e1 S).bind asB).bind fun b S1 => if b = true then evalE ev ρ e2 S1 else .ok (.bl false) S1 := by
  simp only [evalE]
  cases evalE ev ρ e1 S with
  | ok d S1 =>
    cases d with
    | bl b => cases b <;> rfl
    | _ => rfl
  | ex c d S => rfl
  | no => rfl
theorem eval_or {ρ : Rho} {S : Store} : evalE ev ρ (.or e1 e2) S = ((evalE ev ρ e1 S).bind asB).bind fun b S1 => if b = true then .ok (.bl true) S1 else evalE ev ρ e2 S1 := by
  simp only [evalE]
  cases evalE ev ρ e1 S with
  | ok d S1 =>
    cases d with
    | bl b => cases b <;> rfl
    | _ => rfl
  | ex c d S => rfl
  | no => rfl
theorem eval_ite {ρ : Rho} {S : Store} : evalE ev ρ (.ite e1 e2 e3) S = ((evalE ev ρ e1 S).bind asB).bind fun b S1 => if b = true then evalE ev ρ e2 S1 else evalE ev ρ e3 S1 := by
  simp only [evalE]
  cases evalE ev ρ e1 S with
  | ok d S1 =>
    cases d with
    | bl b => cases b <;> rfl
    | _ => rfl
  | ex c d S => rfl
  | no => rfl
theorem asB_ok {b : Bool} {S : Store} : (Out.ok (D.bl b) S).bind asB = .ok b S := rfl
theorem t_not (ha : PT X a (tT q ev W e1)) : PT X (.UnaryOp .Not a pos) (tT q ev W (.not e1)) := by
  refine pt_imp (pt_not ha) fun σ H Q ⟨F, A, ρ, S, st, en, po⟩ => ?_
  rw [eval_not, Out.bind_assoc] at po
  refine ⟨F, A, ρ, S, st, en, PostOf.bind po fun v F1 A1 H1 d S1 _ s1 st1 r1 po => ?_⟩
  cases r1
  exact po _ F1 A1 H1 Step.refl st1 rfl
theorem t_and {r : List Expr} (ha : PT X a (tT q ev W e1)) (hb : PW X (.BoolOp .And (b :: r) pos) (tT q ev W e2)) : PT X (.BoolOp .And (a :: b :: r) pos) (tT q ev W (.and e1 e2)) := by
  refine pt_imp (pw_and ha hb).pt fun σ H Q ⟨F, A, ρ, S, st, en, po⟩ => ?_
  rw [eval_and, Out.bind_assoc] at po
  refine ⟨F, A, ρ, S, st, en, PostOf.bind po fun v F1 A1 H1 d S1 _ s1 st1 r1 po => ?_⟩
  cases r1
  cases v with
  | true => rw [if_pos rfl] at po ⊢; exact ⟨F1, A1, ρ, S1, st1, en.step s1, po⟩
  | false => rw [if_neg (by simp)] at po ⊢; exact po _ F1 A1 H1 Step.refl st1 rfl
theorem t_or {r : List Expr} (ha : PT X a (tT q ev W e1)) (hb : PW X (.BoolOp .Or (b :: r) pos) (tT q ev W e2)) : PT X (.BoolOp .Or (a :: b :: r) pos) (tT q ev W (.or e1 e2)) := by
  refine pt_imp (pw_or ha hb).pt fun σ H Q ⟨F, A, ρ, S, st, en, po⟩ => ?_
  rw [eval_or, Out.bind_assoc] at po
  refine ⟨F, A, ρ, S, st, en, PostOf.bind po fun v F1 A1 H1 d S1 _ s1 st1 r1 po => ?_⟩
  cases r1
  cases v with
  | true => rw [if_pos rfl] at po ⊢; exact po _ F1 A1 H1 Step.refl st1 rfl
  | false => rw [if_neg (by simp)] at po ⊢; exact ⟨F1, A1, ρ, S1, st1, en.step s1, po⟩
theorem pw_bool {o : BoolOp} {l : List Expr} {t : TT} (h : PT X (.BoolOp o l pos) t) : PW X (.BoolOp o l pos) t := ⟨fun whole pins s σ H Q I w => h.run pins s σ H Q I w⟩
theorem s_not (hm : m.nn = true) (ha : PE X a (tE q ev W (.x false) e1)) : PE X (.UnaryOp .Not a pos) (tE q ev W m (.not e1)) := by
  refine pe_imp (pe_not ha) fun σ H Q ⟨F, A, ρ, S, st, en, po⟩ => ?_
  simp only [evalE] at po
  refine ⟨F, A, ρ, S, st, en, PostOf.bind po fun v F1 A1 H1 d S1 _ s1 st1 r1 po => ?_⟩
  split at po
  · exact ⟨_, rx_bl r1, po _ F1 A1 H1 Step.refl st1 (.of hm rfl)⟩
  · exact po.elim
theorem s_and {r : List Expr} (hm : m.nn = true) (ha : PE X a (tE q ev W (.x false) e1)) (hb : PE X (.BoolOp .And (b :: r) pos) (tE q ev W m e2)) : PE X (.BoolOp .And (a :: b :: r) pos) (tE q ev W m (.and e1 e2)) := by
  refine pe_imp (pe_and ha hb) fun σ H Q ⟨F, A, ρ, S, st, en, po⟩ => ?_
  simp only [evalE] at po
  refine ⟨F, A, ρ, S, st, en, PostOf.bind po fun v F1 A1 H1 d S1 _ s1 st1 r1 po => ?_⟩
  split at po
  · refine ⟨_, rx_bl r1, ?_⟩
    rw [if_pos rfl]
    cases m with
    | new => cases hm
    | x b => exact ⟨F1, A1, ρ, S1, st1, en.step s1, po⟩
  · refine ⟨_, rx_bl r1, ?_⟩
    rw [if_neg (by simp)]
    exact po _ F1 A1 H1 Step.refl st1 (.of hm rfl)
  · exact po.elim
theorem s_or {r : List Expr} (hm : m.nn = true) (ha : PE X a (tE q ev W (.x false) e1)) (hb : PE X (.BoolOp .Or (b :: r) pos) (tE q ev W m e2)) : PE X (.BoolOp .Or (a :: b :: r) pos) (tE q ev W m (.or e1 e2)) := by
  refine pe_imp (pe_or ha hb) fun σ H Q ⟨F, A, ρ, S, st, en, po⟩ => ?_
  simp only [evalE] at po
  refine ⟨F, A, ρ, S, st, en, PostOf.bind po fun v F1 A1 H1 d S1 _ s1 st1 r1 po => ?_⟩
  split at po
  · refine ⟨_, rx_bl r1, ?_⟩
    rw [if_neg (by simp)]
    cases m with
    | new => cases hm
    | x b => exact ⟨F1, A1, ρ, S1, st1, en.step s1, po⟩
  · refine ⟨_, rx_bl r1, ?_⟩
    rw [if_pos rfl]
    exact po _ F1 A1 H1 Step.refl st1 (.of hm rfl)
  · exact po.elim
theorem s_ite {b' : Bool} (hc : PT X c (tT q ev W e1)) (ha : PE X a (tE q ev W (.x b') e2)) (hb : PE X b (tE q ev W (.x b') e3)) : PE X (.IfExp c a b pos) (tE q ev W (.x b') (.ite e1 e2 e3)) := by
  refine pe_imp (pe_ifExp hc ha hb) fun σ H Q ⟨F, A, ρ, S, st, en, po⟩ => ?_
  rw [eval_ite] at po
  refine ⟨F, A, ρ, S, st, en, PostOf.bind po fun v F1 A1 H1 d S1 _ s1 st1 r1 po => ?_⟩
  cases r1
  cases v with
  | true => rw [if_pos rfl] at po ⊢; exact ⟨F1, A1, ρ, S1, st1, en.step s1, po⟩
  | false => rw [if_neg (by simp)] at po ⊢; exact ⟨F1, A1, ρ, S1, st1, en.step s1, po⟩

/-! ### lists of expressions -/
theorem a_nil {b : Bool} : PA X [] (tA q ev W b []) := by
  refine pa_imp pa_nil fun σ H Q ⟨F, A, ρ, S, st, en, po⟩ => ?_
  simp only [evalEs] at po
  exact po [] F A H Step.refl st trivial
theorem RepXL.cons {g : Gc} {b : Bool} {F : Hp} {A : List Addr} {H : Hp} {v : V} {d : D} {vs : List V} {ds : List D} (h : RepX g b F A H v d) (k : RepXL g b F A H vs ds) : RepXL g b F A H (v :: vs) (d :: ds) := ⟨h, k⟩
def E.star? : E → Bool
  | .star _ => true
  | _ => false
theorem evalEs_cons {ρ : Rho} {S : Store} (h : e1.star? = false) : evalEs ev ρ (e1 :: es) S = (evalE ev ρ e1 S).bind fun x S1 => (evalEs ev ρ es S1).bind fun ys S2 => .ok (x :: ys) S2 := by
  cases e1 <;> first | (cases h; done) | (simp only [evalEs])
theorem a_cons {b' : Bool} {xs : List Expr} (h0 : e1.star? = false) (hs : starEach (a :: xs) X.env = (false, eval a X.env) :: starEach xs X.env) (ha : PE X a (tE q ev W (.x b') e1)) (hr : PA X xs (tA q ev W b' es)) : PA X (a :: xs) (tA q ev W b' (e1 :: es)) := by
  refine pa_imp (pa_cons ha hr hs) fun σ H Q ⟨F, A, ρ, S, st, en, po⟩ => ?_
  rw [evalEs_cons h0] at po
  refine ⟨F, A, ρ, S, st, en, PostOf.bind po fun v F1 A1 H1 d S1 _ s1 st1 r1 po => ?_⟩
  refine ⟨F1, A1, ρ, S1, st1, en.step s1, PostOf.bind po fun w F2 A2 H2 d2 S2 _ s2 st2 r2 po => ?_⟩
  exact po _ F2 A2 H2 Step.refl st2 (.cons (RepX.step s2 r1) r2)
theorem a_star {xs : List Expr} (hK : X.K = q.g.K) (hs : starEach (.Starred a pos :: xs) X.env = (true, eval a X.env) :: starEach xs X.env) (ha : PE X a (tE q ev W (.x true) e1)) (hr : PA X xs (tA q ev W false es)) : PA X (.Starred a pos :: xs) (tA q ev W false (.star e1 :: es)) := by
  refine pa_imp (StX.pa_star ha hr hs) fun σ H Q ⟨F, A, ρ, S, st, en, po⟩ => ?_
  simp only [evalEs] at po
  refine ⟨F, A, ρ, S, st, en, PostOf.bind po fun v F1 A1 H1 d S1 _ s1 st1 r1 po => ?_⟩
  cases hd : seqs S1 d with
  | none => rw [hd] at po; exact po.elim
  | some ys =>
    rw [hd] at po
    obtain ⟨p, vs, rfl, hq, rl⟩ := rx_seqs st1 r1 hd
    rw [← hK] at hq
    refine ⟨p, vs, rfl, hq.symm, F1, A1, ρ, S1, st1, en.step s1, PostOf.bind po fun w F2 A2 H2 d2 S2 _ s2 st2 r2 po => ?_⟩
    exact po _ F2 A2 H2 Step.refl st2 (RepXL.app (RepXL.of (rl.mono s2.le s2.px)) r2)
theorem s_tup {k : Nat} {xs : List Expr} (hm : m.nn = true) (ha : PA X xs (tA q ev W false es)) : PE X (.Tuple xs k pos) (tE q ev W m (.tup es)) := by
  refine pe_imp (pe_tup ha) fun σ H Q ⟨F, A, ρ, S, st, en, po⟩ => ?_
  simp only [evalE] at po
  refine ⟨F, A, ρ, S, st, en, PostOf.bind po fun v F1 A1 H1 d S1 _ s1 st1 r1 po => ?_⟩
  have rl := r1.no
  split at po
  · rename_i hl
    refine ⟨by rw [rl.len]; exact line_ok hl, fun p hp => ?_⟩
    exact Gets.tup (fun v' F' A' H' s' st' r' => po v' F' A' H' s' st' (.of hm r')) st1 rl hp
  · exact po.elim
/-- a new list -/
theorem newL {F : Hp} {A : List Addr} {H0 H : Hp} {S : Store} {xs : List D} {vs : List V} {Q : VK} (po : PostOf q (RepM q.g H0 .new) W F A H (.ok (.lst xs) S) Q) (st : StR q.g F A S H) (h0 : ∀ p, H p = none → H0 p = none) (rl : RepL q.g F A vs xs) {p : Addr} (hp : H p = none) : Q (.ref p) (upd H p (.lst vs)) := by
  obtain ⟨s2, st2, hf, ha⟩ := st.own (o := .lst vs) hp
  exact po (.ref p) F A _ s2 st2 ⟨p, rfl, ha, hf, h0 p hp, .inl ⟨xs, vs, rfl, upd_same, rl⟩⟩
theorem Step.non {F F' : Hp} {A A' : List Addr} {H H' : Hp} (s : Step F A H F' A' H') {p : Addr} (h : H' p = none) : H p = none := by
  cases e : H p with
  | none => rfl
  | some o => exact absurd h (s.live p (by rw [e]; exact fun z => nomatch z))
theorem n_lst {xs : List Expr} (ha : PA X xs (tA q ev W false es)) : PE X (.List xs pos) (tE q ev W .new (.lst es)) := by
  refine pe_imp (pe_lst ha) fun σ H Q ⟨F, A, ρ, S, st, en, po⟩ => ?_
  simp only [evalE] at po
  refine ⟨F, A, ρ, S, st, en, PostOf.bind po fun v F1 A1 H1 d S1 _ s1 st1 r1 po => ?_⟩
  have rl := r1.no
  split at po
  · rename_i hl
    exact ⟨by rw [rl.len]; exact line_ok hl, fun p hp => newL po st1 (fun p h => s1.non h) rl hp⟩
  · exact po.elim
/-- what surely answers a list -/
def isLD : E → Bool
  | .lst _ => true
  | .lc .. => true
  | _ => false
theorem isLD_ok {ev : Ev} {ρ : Rho} {e : E} (h : isLD e = true) {S S' : Store} {d : D} (he : evalE ev ρ e S = .ok d S') : ∃ xs, d = .lst xs := by
  cases e <;> (try (cases h; done))
  · rename_i es
    simp only [evalE] at he
    cases h1 : evalEs ev ρ es S with
    | ok a S1 =>
      rw [h1] at he
      simp only [Out.bind] at he
      split at he
      · cases he; exact ⟨_, rfl⟩
      · cases he
    | ex c d S1 => rw [h1] at he; cases he
    | no => rw [h1] at he; cases he
  · rename_i own tg k it ifs elt
    simp only [evalE] at he
    cases h1 : evalEs ev ρ it S with
    | ok a S1 =>
      rw [h1] at he
      simp only [Out.bind] at he
      split at he
      · cases he
      · split at he
        · cases he; exact ⟨_, rfl⟩
        · cases he
        · cases he
    | ex c d S1 => rw [h1] at he; cases he
    | no => rw [h1] at he; cases he
theorem add_lst {S : Store} {d r : D} {ys : List D} (h : binop S .add d (.lst ys) = some r) : ∃ xs, d = .lst xs ∧ line (xs.length + ys.length) = true ∧ r = .lst (xs ++ ys) := by
  cases d <;> (try (cases h; done))
  rename_i xs
  have h : (if line (xs.length + ys.length) then some (D.lst (xs ++ ys)) else none) = some r := h
  split at h
  · rename_i hl
    cases h
    exact ⟨xs, rfl, hl, rfl⟩
  · cases h
theorem n_add (hd : isLD e2 = true) (ha : PE X a (tE q ev W (.x true) e1)) (hb : PE X b (tE q ev W (.x true) e2)) : PE X (.BinOp a .Add b pos) (tE q ev W .new (.bin .add e1 e2)) := by
  have op : OpR X (binaryOp .Add) (fun x y H Q => ∃ b b' F A S xs ys, StR q.g F A S H ∧ RepX q.g b F A H x (.lst xs) ∧ RepX q.g b' F A H y (.lst ys) ∧ line (xs.length + ys.length) = true ∧ (∀ us p, RepL q.g F A us (xs ++ ys) → H p = none → Q (.ref p) (upd H p (.lst us)))) := by
    intro pins s σ H x y v u Q I rx ry h
    obtain ⟨b, b', F, A, S, xs, ys, st, r1, r2, hl, k⟩ := h
    obtain ⟨a, vs, rfl, h1, q1⟩ := rx_lst st r1
    obtain ⟨a2, vs2, rfl, h2, q2⟩ := rx_lst st r2
    exact op_cat pins s σ H _ _ v u Q I rx ry ⟨a, a2, vs, vs2, rfl, rfl, h1, h2, by rw [q1.len, q2.len]; exact line_ok hl, fun p hp => k _ p (RepL.app q1 q2) hp⟩
  refine pe_imp (pe_op op ha hb) fun σ H Q ⟨F, A, ρ, S, st, en, po⟩ => ?_
  simp only [evalE] at po
  refine ⟨F, A, ρ, S, st, en, PostOf.bind po fun v F1 A1 H1 d S1 _ s1 st1 r1 po => ?_⟩
  refine ⟨F1, A1, ρ, S1, st1, en.step s1, PostOf.bind po fun w F2 A2 H2 d2 S2 he s2 st2 r2 po => ?_⟩
  obtain ⟨ys, rfl⟩ := isLD_ok hd he
  obtain ⟨res, hr, po⟩ := PostOf.of po
  obtain ⟨xs, rfl, hl, rfl⟩ := add_lst hr
  refine ⟨true, true, F2, A2, S2, xs, ys, st2, r1.step s2, r2, hl, fun us p rl hp => ?_⟩
  exact newL (H0 := H) (W := W) po st2 (fun p h => s1.non (s2.non h)) rl hp
theorem n_dct0K : PE X (.Dict [] [] pos) (tE q ev W .new (.dct0 false)) := by
  refine pe_imp pe_dnewK fun σ H Q ⟨F, A, ρ, S, st, en, po⟩ => ?_
  intro p hp
  obtain ⟨s2, st2, hf, ha⟩ := st.own (o := .dK []) hp
  exact po (.ref p) F A _ s2 st2 ⟨p, rfl, ha, hf, hp, .inr ⟨false, [], [], .dK [], [], rfl, upd_same, ⟨[], rfl, rfl, rfl⟩, trivial⟩⟩
theorem n_dct0T : PE X (.Dict [] [] pos) (tE q ev W .new (.dct0 true)) := by
  refine pe_imp pe_dnewT fun σ H Q ⟨F, A, ρ, S, st, en, po⟩ => ?_
  intro p hp
  obtain ⟨s2, st2, hf, ha⟩ := st.own (o := .dT []) hp
  exact po (.ref p) F A _ s2 st2 ⟨p, rfl, ha, hf, hp, .inr ⟨true, [], [], .dT [], [], rfl, upd_same, ⟨[], rfl, rfl, rfl⟩, trivial⟩⟩
theorem StR.adopt {g : Gc} {F : Hp} {A : List Addr} {S : Store} {H : Hp} {p : Addr} {c : Cell} (s : StR g F A S H) (hf : F p = none) (ha : p ∉ A) (r : CellR g F (A ++ [p]) H p c) : StR g F (A ++ [p]) (S ++ [c]) H := by
  have px : A <+: A ++ [p] := List.prefix_append _ _
  refine ⟨by simp [s.len], ?_, s.fin, fun n c' hc => ?_⟩
  · rw [List.nodup_append]
    exact ⟨s.nd, by simp, fun x hx y hy e => ha (by rw [List.mem_singleton.mp hy] at e; exact e ▸ hx)⟩
  · by_cases hn : n < S.length
    · rw [List.getElem?_append_left hn] at hc
      obtain ⟨a, e1, e2, e3⟩ := s.cell n c' hc
      exact ⟨a, Px.get px e1, e2, e3.mono (Le.refl F) px rfl⟩
    · have hn2 : n = S.length := by
        have := (List.getElem?_eq_some_iff.mp hc).1
        simp at this; omega
      subst hn2
      rw [List.getElem?_append_right (Nat.le_refl _), Nat.sub_self] at hc
      cases hc
      refine ⟨p, ?_, hf, r⟩
      rw [← s.len, List.getElem?_append_right (Nat.le_refl _), Nat.sub_self]; rfl
theorem Step.adopt {F F' : Hp} {A A' : List Addr} {H H' : Hp} {p : Addr} (s : Step F A H F' A' H') (hp : H p = none) : Step F A H F' (A' ++ [p]) H' :=
  ⟨s.le, s.px.trans (List.prefix_append _ _), s.keep, s.frF, fun a m n => by
    rcases List.mem_append.mp m with m | m
    · exact s.frA a m n
    · rw [List.mem_singleton.mp m]; exact hp, s.live⟩
/-- a new object becomes a cell -/
theorem s_cell (hm : m.nn = true) (ha : PE X a (tE q ev W .new e1)) : PE X a (tE q ev W m (.cell e1)) := by
  refine pe_imp ha fun σ H Q ⟨F, A, ρ, S, st, en, po⟩ => ?_
  simp only [evalE] at po
  refine ⟨F, A, ρ, S, st, en, ?_⟩
  cases ho : evalE ev ρ e1 S with
  | no => rw [ho] at po; exact po
  | ex c d S' => rw [ho] at po; exact po
  | ok d S' =>
    rw [ho] at po
    intro v F' A' H' stp st' r
    obtain ⟨p, rfl, hA, hF, hH, ⟨xs, vs, rfl, hp, rl⟩ | ⟨t, ks, ws, o, vs, rfl, hp, dr, rl⟩⟩ := r
    · refine po (.ref p) F' (A' ++ [p]) H' (stp.adopt hH) (st'.adopt hF hA ⟨vs, hp, rl.mono (Le.refl _) (List.prefix_append _ _)⟩) (.of hm ⟨p, rfl, ?_⟩)
      rw [← st'.len, List.getElem?_append_right (Nat.le_refl _), Nat.sub_self]; rfl
    · refine po (.ref p) F' (A' ++ [p]) H' (stp.adopt hH) (st'.adopt hF hA ⟨o, vs, hp, dr, rl.mono (Le.refl _) (List.prefix_append _ _)⟩) (.of hm ⟨p, rfl, ?_⟩)
      rw [← st'.len, List.getElem?_append_right (Nat.le_refl _), Nat.sub_self]; rfl
theorem s_idx (hm : m.nn = true) (hK : X.K = q.g.K) (hu : X.A.units + 65 < cLine) (hs : PlainIx b) (ha : PE X a (tE q ev W (.x true) e1)) (hb : PE X b (tE q ev W (.x true) e2)) : PE X (.Subscript a b pos) (tE q ev W m (.idx e1 e2)) := by
  refine pe_imp (pe_ix (ix_idx hK hu) ha hb hs) fun σ H Q ⟨F, A, ρ, S, st, en, po⟩ => ?_
  simp only [evalE] at po
  refine ⟨F, A, ρ, S, st, en, PostOf.bind po fun v F1 A1 H1 d S1 _ s1 st1 r1 po => ?_⟩
  refine ⟨F1, A1, ρ, S1, st1, en.step s1, PostOf.bind po fun w F2 A2 H2 d2 S2 _ s2 st2 r2 po => ?_⟩
  obtain ⟨res, hr, po⟩ := PostOf.of po
  exact ⟨true, true, F2, A2, S2, d, d2, res, st2, RepX.step s2 r1, r2, hr, fun v' F' A' H' s' st' r' => po v' F' A' H' s' st' (.of hm r')⟩
end
end G
set_option maxHeartbeats 1000000
namespace G
open PySem PySem.Spec PyProof.Rows L2

/-! ### what is seen of a text -/
def nstar : Expr → Bool
  | .Starred _ _ => false
  | _ => true
theorem starEach_cons {a : Expr} {xs : List Expr} {env : Env} (h : nstar a = true) : starEach (a :: xs) env = (false, eval a env) :: starEach xs env := by
  cases a <;> first | rfl | cases h
theorem starEach_star {a : Expr} {pos : Pos} {xs : List Expr} {env : Env} : starEach (.Starred a pos :: xs) env = (true, eval a env) :: starEach xs env := rfl
theorem back_any {pos : Pos} {env : Env} : ∀ {xs : List Expr}, xs.all nstar = true → (backTo pos (starEach xs env)).any (·.1) = false
  | [], _ => rfl
  | a :: xs, h => by
    simp only [List.all_cons, Bool.and_eq_true] at h
    rw [starEach_cons h.1]
    show (false || (backTo pos (starEach xs env)).any (·.1)) = false
    rw [back_any h.2]; rfl
theorem back_all {pos : Pos} {env : Env} : ∀ {xs : List Expr}, xs.all nstar = true → (backTo pos (starEach xs env)).all (fun x => !x.1) = true
  | [], _ => rfl
  | a :: xs, h => by
    simp only [List.all_cons, Bool.and_eq_true] at h
    rw [starEach_cons h.1]
    show (true && (backTo pos (starEach xs env)).all (fun x => !x.1)) = true
    rw [back_all h.2]; rfl
def nset : Expr → Bool
  | .Set _ _ _ => false
  | _ => true
theorem marks_of {op : CmpOp} {b : Expr} (h : nset b = true) : behindInMarks op b = false := by
  cases b <;> first | rfl | cases h
theorem lastMarks_of {o o' : CmpOp} {b c : Expr} (h : nset c = true) : lastMarks [o, o'] [b, c] = false := marks_of h
theorem folded_of {b : Expr} {env : Env} (h : nset b = true) (x : Value) : foldedSetIterable b env x = pure x := by
  cases b <;> first | rfl | cases h
def ncall : Expr → Bool
  | .Call _ _ _ _ => false
  | _ => true
theorem base_of {o : Expr} {m : Str} {env : Env} {w : Sem Value} (h : ncall o = true) : attributeBase o m env w = w := by
  cases o <;> first | rfl | cases h
def plainTest : Expr → Bool
  | .UnaryOp .Not _ _ => false
  | .BoolOp _ _ _ => false
  | .IfExp _ _ _ _ => false
  | .Compare _ _ _ _ => false
  | _ => true
theorem test_of {a : Expr} {env : Env} (h : plainTest a = true) (whole : Sem Value) : isTrue a env whole = (do let v ← whole; standAt a.pos; holding [v] (truthy v)) := by
  cases a with
  | UnaryOp op x p => cases op <;> first | rfl | cases h
  | _ => first | rfl | cases h
def nslice : Expr → Bool
  | .Slice _ _ _ _ => false
  | _ => true
theorem plainIx_of {b : Expr} (h : nslice b = true) : PlainIx b := by
  intro o i
  cases b <;> first | rfl | cases h
theorem eval_meth {o : Expr} {m : Str} {apos pos : Pos} {args : List Expr} {env : Env} (ho : ncall o = true) (hl : (apos.endLine == pos.line) = true) (ha : args.all nstar = true) (hn : args.length < 20) :
    eval (.Call (.Attribute o m apos) args [] pos) env = (do
      let ov ← eval o env
      standAt apos.atName
      let (f, first) ← holding [ov] (getMethod ov m (do return (← importBound o env).getD true))
      callWith pos f first (backTo pos (starEach args env)) (backToKw pos (keywordEach [] env))) := by
  rw [arm_eval_Call, base_of ho]
  have hf : methodCallForm (args.length + ([] : List Keyword).length) (backTo pos (starEach args env)) (backToKw pos (keywordEach [] env)) = true := by
    unfold methodCallForm
    rw [back_all ha]
    simp [keywordEach, backToKw]
    omega
  unfold methodCall
  rw [hf]
  unfold calleeOf methodCallPos
  simp only [hl, if_true, Bool.not_true, Bool.false_or]
  simp

section
variable {X : Cx} {q : Pc} {ev : Ev} {W : XK} {m : Md} {a b c x : Expr} {e e1 e2 e3 : E} {es : List E} {pos p : Pos}
/-! ### slices -/
theorem s_slc {lo hi : Option Expr} {p2 : Pos} {ls hs : List E} (hm : m.nn = true) (hK : X.K = q.g.K) (ha : PE X a (tE q ev W (.x true) e1))
    (hl : (lo = none ∧ ls = []) ∨ ∃ x e, lo = some x ∧ ls = [e] ∧ e.star? = false ∧ PE X x (tE q ev W (.x false) e)) (hh : (hi = none ∧ hs = []) ∨ ∃ x e, hi = some x ∧ hs = [e] ∧ e.star? = false ∧ PE X x (tE q ev W (.x false) e)) :
    PE X (.Subscript a (.Slice lo hi none p2) pos) (tE q ev W m (.slc e1 ls hs)) := by
  let T : List E → TO := fun ls σ H Q => ∃ F A ρ S, StR q.g F A S H ∧ EnvR q.g F A H ρ σ ∧ PostOf q (fun _ _ _ (o o' : Option Int) => o = o') W F A H ((evalEs ev ρ ls S).bind optB) Q
  have part : ∀ {lo : Option Expr} {ls : List E}, ((lo = none ∧ ls = []) ∨ ∃ x e, lo = some x ∧ ls = [e] ∧ e.star? = false ∧ PE X x (tE q ev W (.x false) e)) → PO X lo (T ls) := by
    intro lo ls h
    rcases h with ⟨rfl, rfl⟩ | ⟨x, e, rfl, rfl, hs, hx⟩
    · refine ⟨fun pins s σ H Q I ⟨F, A, ρ, S, st, en, po⟩ => po_none.run pins s σ H Q I ?_⟩
      simp only [evalEs] at po
      exact po none F A H Step.refl st rfl
    · refine ⟨fun pins s σ H Q I ⟨F, A, ρ, S, st, en, po⟩ => (po_some hx).run pins s σ H Q I ?_⟩
      rw [evalEs_cons hs] at po
      simp only [evalEs, Out.bind_assoc] at po
      refine ⟨F, A, ρ, S, st, en, PostOf.bind po fun v F1 A1 H1 d S1 _ s1 st1 r1 po => ?_⟩
      cases d with
      | int i => exact ⟨i, rx_int r1, po (some i) F1 A1 H1 Step.refl st1 rfl⟩
      | _ => exact po.elim
  refine pe_imp (pe_slice (sl_slc hK) ha (part hl) (part hh)) fun σ H Q ⟨F, A, ρ, S, st, en, po⟩ => ?_
  simp only [evalE] at po
  refine ⟨F, A, ρ, S, st, en, PostOf.bind po fun v F1 A1 H1 d S1 _ s1 st1 r1 po => ?_⟩
  refine ⟨F1, A1, ρ, S1, st1, en.step s1, PostOf.bind po fun l F2 A2 H2 l' S2 _ s2 st2 r2 po => ?_⟩
  subst r2
  refine ⟨F2, A2, ρ, S2, st2, (en.step s1).step s2, PostOf.bind po fun u F3 A3 H3 u' S3 _ s3 st3 r3 po => ?_⟩
  subst r3
  obtain ⟨res, hr, po⟩ := PostOf.of po
  unfold slice at hr
  split at hr
  · cases hr
  · rename_i hk
    rw [Option.bind_eq_some_iff] at hr
    obtain ⟨⟨t, xs⟩, h1, h2⟩ := hr
    cases h2
    exact ⟨true, F3, A3, S3, d, t, xs, st3, RepX.step s3 (RepX.step s2 r1), by simpa using hk, h1, fun v' F' A' H' s' st' r' => po v' F' A' H' s' st' (.of hm r')⟩

/-! ### built-in functions -/
theorem s_biB {k : Bi} {id : String} {x : Str} {xs : List Expr} (hm : m.nn = true) (hc : CallR X (.builtin id) (rBi q k)) (hg : Gl X x) (hx : (X.mg x = none ∧ bootBuiltins x = some (.builtin id)) ∨ X.mg x = some (.builtin id)) (hn : x ≠ "__name__") (hdb : (x == ("__debug__" : Str)) = false)
    (hst : (a :: xs).all nstar = true) (ha : PA X (a :: xs) (tA q ev W true es)) : PE X (.Call (.Name x p) (a :: xs) [] pos) (tE q ev W m (.bi k es)) := by
  have hst2 : nstar a = true ∧ xs.all nstar = true := by simpa using hst
  have key : PE X (.Call (.Name x p) (a :: xs) [] pos) (tCB (rBi q k) (tA q ev W true es)) := by
    rcases hx with ⟨h1, h2⟩ | h1
    · exact pe_callB hc hg h1 h2 ha hn hdb (starEach_cons hst2.1) (back_any hst2.2)
    · exact pe_callBfun hc hg h1 ha hdb (starEach_cons hst2.1) (back_any hst2.2)
  refine pe_imp key fun σ H Q ⟨F, A, ρ, S, st, en, po⟩ => ?_
  simp only [evalE] at po
  refine ⟨F, A, ρ, S, st, en, PostOf.bind po fun vs F1 A1 H1 ds S1 _ s1 st1 r1 po => ?_⟩
  obtain ⟨res, hr, po⟩ := PostOf.of po
  exact ⟨F1, A1, S1, ds, res, st1, r1, hr, fun v' F' A' H' s' st' r' => po v' F' A' H' s' st' (.of hm r')⟩
theorem s_biT {k : Bi} {T : String} {x : Str} {xs : List Expr} (hm : m.nn = true) (hc : CallR X (.type T) (rBi q k)) (hg : Gl X x) (h1 : X.mg x = none) (h2 : bootBuiltins x = some (.type T)) (hn : x ≠ "__name__") (hdb : (x == ("__debug__" : Str)) = false)
    (hst : (a :: xs).all nstar = true) (ha : PA X (a :: xs) (tA q ev W true es)) : PE X (.Call (.Name x p) (a :: xs) [] pos) (tE q ev W m (.bi k es)) := by
  have hst2 : nstar a = true ∧ xs.all nstar = true := by simpa using hst
  refine pe_imp (pe_callTy hc hg h1 h2 ha hn hdb (starEach_cons hst2.1) (back_any hst2.2)) fun σ H Q ⟨F, A, ρ, S, st, en, po⟩ => ?_
  simp only [evalE] at po
  refine ⟨F, A, ρ, S, st, en, PostOf.bind po fun vs F1 A1 H1 ds S1 _ s1 st1 r1 po => ?_⟩
  obtain ⟨res, hr, po⟩ := PostOf.of po
  exact ⟨F1, A1, S1, ds, res, st1, r1, hr, fun v' F' A' H' s' st' r' => po v' F' A' H' s' st' (.of hm r')⟩
/-- list(x): a new list -/
theorem n_list (hK : X.K = q.g.K) (hg : Gl X "list") (h1 : X.mg "list" = none) (hs : nstar a = true) (ha : PA X [a] (tA q ev W true es)) : PE X (.Call (.Name "list" p) [a] [] pos) (tE q ev W .new (.bi .list es)) := by
  refine pe_imp (pe_callTy (bi_list hK) hg h1 (by first | rfl | decide +kernel) ha (by decide) (by decide) (starEach_cons hs) rfl) fun σ H Q ⟨F, A, ρ, S, st, en, po⟩ => ?_
  simp only [evalE] at po
  refine ⟨F, A, ρ, S, st, en, PostOf.bind po fun vs F1 A1 H1 ds S1 _ s1 st1 r1 po => ?_⟩
  match ds, po with
  | [d], po =>
    obtain ⟨res, hr, _⟩ := PostOf.of po
    have hr' : (seqs S1 d).map D.lst = some res := hr
    rw [Option.map_eq_some_iff] at hr'
    obtain ⟨ys, hy, rfl⟩ := hr'
    rw [hr] at po
    exact ⟨F1, A1, S1, [d], (d, ys), st1, r1, rfl, hy, fun p' vs' rl hp => newL po st1 (fun p h => s1.non h) rl hp⟩
  | [], po => exact po.elim
  | _ :: _ :: _, po => exact po.elim
end
end G
set_option maxHeartbeats 1000000
/-! three rules that the modules lack: t[::-1] of a tuple, sorted of a tuple of ints, enumerate of a tuple -/
namespace G
open PySem PySem.Spec PyProof.Rows L2 HT
section
variable {prog : Program} {w : World} {A : Around} {E : Value → Shared → Prop} {s : Shared}
theorem back_applied {sl : Addr} {vk : Value} {n : Nat} {Q : Int × Int × Nat → Shared → Prop} (hs : s.heap.IsSliceOf sl .none .none vk) (pk : IsPart vk (some (-1)))
    (h : Q ((n : Int) - 1, -1, n) s) : wpAny (model prog w) A (Builtin.Slice.sliceApplied (.ref sl) (pure (n : Int))) Q E s := by
  obtain ⟨ob, hob, hcb, hdb⟩ := id hs
  unfold Builtin.Slice.sliceApplied Builtin.Slice.sliceFields
  refine wpAny_bind (wpAny_bind (wpAny_field hob hdb (x := .none) rfl (wpAny_bind (wpAny_field hob hdb (x := .none) rfl (wpAny_bind (wpAny_field hob hdb (x := vk) rfl (wpAny_pure ?_)))))))
  refine wpAny_bind (slicePart_ pk ?_)
  show wpAny _ _ (if ((-1 : Int) == 0) = true then _ else _) _ _ s
  rw [if_neg (by decide)]
  refine wpAny_bind (slicePart_none (wpAny_bind (slicePart_none (wpAny_bind (wpAny_pure ?_)))))
  have e : Builtin.Slice.slicePlaces ((n : Int) - 1) (-1) (-1) = n := by
    unfold Builtin.Slice.slicePlaces
    simp only [show ¬ ((-1 : Int) > 0) by omega, if_false]
    simp only [Int.neg_neg, Int.ediv_one]
    split <;> omega
  have q : wpAny (model prog w) A (pure ((n : Int) - 1, (-1 : Int), Builtin.Slice.slicePlaces ((n : Int) - 1) (-1) (-1)) : Sem (Int × Int × Nat)) Q E s := by
    rw [e]; exact wpAny_pure h
  exact q
theorem back_pick (xs : List Value) : (List.range xs.length).filterMap (fun (k : Nat) => xs.toArray[((xs.length : Int) - 1 + (k : Int) * (-1)).toNat]?) = xs.reverse := by
  have e : ∀ k ∈ List.range xs.length, xs.toArray[((xs.length : Int) - 1 + (k : Int) * (-1)).toNat]? = some (xs.reverse[k]?.getD .none) := fun k hk => by
    have hk' := List.mem_range.mp hk
    have z : ((xs.length : Int) - 1 + (k : Int) * (-1)).toNat = xs.length - 1 - k := by omega
    rw [z, List.getElem?_toArray, List.getElem?_reverse hk', List.getElem?_eq_getElem (by omega)]
    rfl
  have h2 : ∀ l : List Nat, (∀ k ∈ l, xs.toArray[((xs.length : Int) - 1 + (k : Int) * (-1)).toNat]? = some (xs.reverse[k]?.getD .none)) → l.filterMap (fun (k : Nat) => xs.toArray[((xs.length : Int) - 1 + (k : Int) * (-1)).toNat]?) = l.map fun k => xs.reverse[k]?.getD .none := by
    intro l h
    induction l with
    | nil => rfl
    | cons k l ih =>
      rw [List.filterMap_cons, h k (by simp), ih fun j hj => h j (List.mem_cons_of_mem _ hj)]
      rfl
  rw [h2 _ e]
  apply List.ext_getElem?
  intro i
  rw [List.getElem?_map]
  by_cases hi : i < xs.length
  · rw [List.getElem?_range hi, Option.map_some]
    rw [List.getElem?_eq_getElem (by simpa using hi)]
    rfl
  · rw [List.getElem?_eq_none (by simpa using hi), List.getElem?_eq_none (by simpa using hi)]
    rfl
theorem tup_back {t sl : Addr} {xs : List Value} {vk : Value} {Q : Value → Shared → Prop} (ht : IsTup s.heap t xs.toArray) (hs : s.heap.IsSliceOf sl .none .none vk) (pk : IsPart vk (some (-1)))
    (h : Q (.ref s.heap.objs.size) { s with heap := s.heap.push { cls := .type "tuple", data := .seq xs.reverse.toArray } }) (hz : xs.length ≤ sizeLine) : wpAny (model prog w) A (getItem (.ref t) (.ref sl)) Q E s := by
  have hok : sizeOk (.seq xs.reverse.toArray) := by
    show xs.reverse.toArray.size ≤ sizeLine
    rw [List.size_toArray, List.length_reverse]; exact hz
  obtain ⟨ob, hob, hcb, hdb⟩ := id hs
  have hT : s.TypeIs (.ref sl) "slice" := ⟨ob, hob, hcb⟩
  unfold getItem
  try with_reducible refine wpAny_holding ?_
  first | refine wpAny_bind (wpAny_pure ?_) | skip
  refine wpAny_bind (wpAny_sequenceKey ht.typeIs (by decide) ?_)
  refine wpAny_bind (wpAny_callSpecial?_slot (name := Str.ofString "__getitem__") ht.typeIs PyProof.Rows.slot_tuple_getitem (wpAny_call_entry PyProof.Rows.slot_tuple_getitem ht.typeIs entry_tuple_getitem ?_ (args_tuple_getitem _ _)))
  show wpAny _ _ (Builtin.Tuple.tupleItemsOf (.ref t) >>= fun _ => _) _ _ s
  refine wpAny_bind (tupleItemsOf_ ht (wpAny_bind (wpAny_typeOf hT ?_)))
  rw [if_pos (by decide)]
  rw [show xs.toArray.size = xs.length from List.size_toArray ..]
  refine wpAny_bind (back_applied hs pk ?_)
  have no : ¬ ((((xs.length : Int) - 1) == 0 && (-1 : Int) == 1 && xs.length == xs.length) = true) := by simp
  show wpAny _ _ (if (((xs.length : Int) - 1) == 0 && (-1 : Int) == 1 && xs.length == xs.length) = true then _ else _) _ _ s
  rw [if_neg no, back_pick]
  first
    | exact wpAny_bind (m := Builtin.Tuple.tupleExact _) (wpAny_newObj_type (wpAny_pure ⟨_, rfl, wpAny_pure h⟩) hok)
    | exact wpAny_bind (m := Builtin.Tuple.tupleExact _) (wpAny_newObj_type (wpAny_bind (wpAny_pure (wpAny_pure ⟨_, rfl, wpAny_pure h⟩))) hok)
    | exact wpAny_bind (wpAny_bind (m := Builtin.Tuple.tupleExact _) (wpAny_newObj_type (wpAny_pure (wpAny_pure ⟨_, rfl, wpAny_pure h⟩)) hok))
    | exact wpAny_bind (wpAny_bind (m := Builtin.Tuple.tupleExact _) (wpAny_newObj_type (wpAny_pure ⟨_, rfl, wpAny_pure h⟩) hok))

/-! ### sorted of a tuple of ints -/
theorem tup_gathered {l : Addr} {vs : List Value} {Q : List Value → Shared → Prop} (hl : IsTup s.heap l vs.toArray) (hz : vs.length ≤ sizeLine)
    (h : Q vs { s with heap := (s.heap.push (seqObj "list" #[] 0)).update s.heap.objs.size (Obj.mapSeq (· ++ vs.toArray)) }) : wpAny (model prog w) A (collect (.ref l)) Q E s := by
  obtain ⟨ob, hob, hcb, n, hdb⟩ := id hl
  unfold collect
  refine wpAny_bind (wpAny_runValue (codeAny_builtin entry_proto_collect' ?_))
  show wpAny _ _ (do again (.builtin "list.__iadd__" ⟨[← newList [], Value.ref l], []⟩)) _ _ s
  refine wpAny_bind (wpAny_newList (wpAny_pure ⟨Code.quiet_builtin _ (by decide +kernel), codeAny_builtin entry_list_iadd' ?_⟩))
  show wpAny _ _ (Builtin.List.listExtendWith (.ref s.heap.objs.size) (Value.ref l) (.ref s.heap.objs.size)) _ _ { s with heap := s.heap.push (seqObj "list" #[] 0) }
  unfold Builtin.List.listExtendWith
  have hob' : (s.heap.push (seqObj "list" #[] 0)).get? l = some ob := Heap.get?_push_of_some _ hob
  refine wpAny_bind (wpAny_typeOf (T := "tuple") ⟨ob, hob', hcb⟩ ?_)
  have ht : (Value.type "tuple" == Value.type "tuple") = true := by rfl
  rw [if_pos (by rw [ht]; simp)]
  refine wpAny_bind (listItems_at hob' hdb ?_)
  refine wpAny_bind (listItems_at (xs := #[]) (n := 0) (Heap.get?_push_size _ rfl) rfl ?_)
  rw [if_neg (by simp)]
  refine wpAny_bind (listUpdate_at (xs := #[]) (n := 0) (Heap.get?_push_size _ rfl) rfl ?_ (Nat.zero_le _) (by show (#[] ++ vs.toArray).size ≤ sizeLine + 1; rw [Array.size_append, List.size_toArray]; simp; omega))
  refine wpAny_pure ?_
  show wpAny (model prog w) A (do
      let ob ← load s.heap.objs.size
      match ob.data with
      | .seq xs _ => pure xs.toList
      | _ => unsupported "internal:collect") Q E { s with heap := (s.heap.push (seqObj "list" #[] 0)).update s.heap.objs.size (Obj.mapSeq (· ++ vs.toArray)) }
  refine wpAny_bind (wpAny_load (get?_update_seq (Heap.get?_push_size _ rfl) _) ?_)
  have e0 : ((#[] : Array Value) ++ vs.toArray).toList = vs := by simp
  show wpAny _ _ (pure ((#[] : Array Value) ++ vs.toArray).toList) Q E _
  rw [e0]
  exact wpAny_pure h
theorem tup_sorted {l : Addr} {vs : List Value} {ns : List Int} {Q : Value → Shared → Prop} (hl : IsTup s.heap l vs.toArray) (hz : vs.length ≤ sizeLine) (hi : IntsAre vs ns)
    (h : ∀ out : List Value, SrtO.Srtd SrtO.ltIv out → SrtO.Stb SrtO.ltIv out vs → Q (.ref (s.heap.objs.size + 1)) { s with heap := sortedAll s.heap vs out.toArray }) :
    wpAny (model prog w) A (call (.builtin "sorted") [.ref l]) Q E s := by
  refine Calls.call_function_entry kind_sorted plain_sorted entry_sorted (args_sorted1 _) ?_
  unfold Builtin.«sorted»
  refine wpAny_bind (m := checkCount "sorted" 1 1 _) (wpAny_pure (wpAny_bind (tup_gathered hl hz (wpAny_bind (wpAny_newList ?_ hz)))))
  have sz : ((s.heap.push (seqObj "list" #[] 0)).update s.heap.objs.size (Obj.mapSeq (· ++ vs.toArray))).objs.size = s.heap.objs.size + 1 := by
    rw [Heap.size_update]; exact size_push' _ _
  have at1 : (((s.heap.push (seqObj "list" #[] 0)).update s.heap.objs.size (Obj.mapSeq (· ++ vs.toArray))).push (seqObj "list" vs.toArray 0)).get? (s.heap.objs.size + 1) = some (seqObj "list" vs.toArray 0) := by
    rw [← sz]; exact Heap.get?_push_size _ rfl
  show wpAny _ _ _ _ _ { s with heap := ((s.heap.push (seqObj "list" #[] 0)).update s.heap.objs.size (Obj.mapSeq (· ++ vs.toArray))).push (seqObj "list" vs.toArray 0) }
  rw [sz]
  refine wpAny_bind (wpAny_holding (wpAny_call_entry slot_list_sort ⟨_, at1, rfl⟩ entry_list_sort (SrtO.list_sort_ord SrtO.swo_int at1 hz (fun h2 => SrtO.ints_sortable hi h2) fun out k1 k2 => ⟨_, rfl, ?_⟩) (args_list_sort _)))
  exact wpAny_pure ⟨_, rfl, h out k1 k2⟩
end
section
variable {X : Cx} {q : Pc}
theorem cr_sortedTup : CallR X (.builtin "sorted") (fun vs H Q => ∃ (a : Addr) (ns : List Int), vs = [V.ref a] ∧ SqT X.K H a (ns.map V.int) ∧ ∀ p, H p = none → Q (.ref p) (upd H p (.lst ((sortI ns).map V.int)))) := by
  intro pins s σ H vs us Q I r h
  obtain ⟨a, ns, rfl, hs, k⟩ := h
  obtain ⟨its, rv, hl, hz⟩ := I.tuple hs
  rw [Vals.ref1 r]
  have hi := rv.ints
  refine tup_sorted hl (by rw [← rv.length]; exact hz) hi fun out h1 h2 => ?_
  obtain ⟨k1, k2, k3⟩ := SrtO.ints_out hi h1 h2
  obtain ⟨ep, he⟩ := PyProof.Rows.sortedAll_at s.heap its out.toArray
  have e := PySem.W.ksm_same (k2.trans (sortI_perm ns).symm) k3 (sortI_sorted ns)
  have hlen : ((out.map SrtO.iv).map V.int).length ≤ sizeLine := by
    have z := k2.length_eq
    simp only [List.length_map] at z hz ⊢
    omega
  refine ⟨.ref _, upd H (s.heap.objs.size + 1) (.lst ((out.map SrtO.iv).map V.int)), I.laid (t' := s.toks) (fun _ _ => PyProof.Rows.sortedAll_old) (Nat.le_succ _) ⟨hlen, out, ep, vals_of_ints k1, he⟩, rfl, ?_⟩
  rw [e]
  exact k _ (I.hok.fresh (Nat.le_succ _))
/-- sorted of a list or a tuple of ints -/
theorem bi_sortedA (hK : X.K = q.g.K) : CallR X (.builtin "sorted") (fun vs H Q => ∃ F A S ds, ∃ xs : D × List D, ∃ ns, StR q.g F A S H ∧ RepXL q.g true F A H vs ds ∧ ds = [xs.1] ∧ seqs S xs.1 = some xs.2 ∧ intsOf xs.2 = some ns ∧ ∀ p, H p = none → Q (.ref p) (upd H p (.lst ((sortI ns).map V.int)))) := by
  intro pins s σ H xs us Q I r h
  obtain ⟨F, A, S, ds, ⟨d, ys⟩, ns, st, rl, e, hb, h2, k⟩ := h
  subst e
  obtain ⟨v, rfl, r1⟩ := one_of rl
  obtain ⟨a, vs, rfl, hq, rr⟩ := rx_seqs st r1 hb
  have h2 : ys = ns.map D.int := intsOf_map h2
  have rr : RepL q.g F A vs ys := rr
  rw [h2] at rr
  rw [rr.of_ints, ← hK] at hq
  rcases hq with hq | hq
  · exact cr_sortedI pins s σ H _ us Q I r ⟨a, ns, rfl, hq, fun ns' p h1 h2 hp => by
      have e := PySem.W.ksm_same (h1.trans (sortI_perm ns).symm) h2 (sortI_sorted ns)
      rw [e]; exact k p hp⟩
  · exact cr_sortedTup pins s σ H _ us Q I r ⟨a, ns, rfl, hq, k⟩

/-! ### x[::-1] -/
def minus1 : Option Expr → Bool
  | some (.UnaryOp .USub (.Constant (.int 1) _ _) _) => true
  | _ => false
def tBack (K : PySem.W.Frag) (te : TE) : TE := fun σ H Q => te σ H fun x H1 => ∃ a xs, x = .ref a ∧ SqT K H1 a xs ∧ ∀ p, H1 p = none → Q (.ref p) (upd H1 p (.tup xs.reverse))
theorem pe_back {e : Expr} {te : TE} {k : Nat} {p1 p2 p3 pos : Pos} (he : PE X e te) : PE X (.Subscript e (.Slice none none (some (.UnaryOp .USub (.Constant (.int 1) k p1) p2)) p3) pos) (tBack X.K te) := by
  refine ⟨fun pins s σ H Q I h => ?_⟩
  refine Subscript_ (thn (he.run pins s σ H _ I h) fun v s1 ⟨x, H1, I1, r1, q1⟩ => ?_)
  obtain ⟨a, xs, rfl, hx, q⟩ := q1
  cases r1
  have hst : PO X (some (.UnaryOp .USub (.Constant (.int 1) k p1) p2)) (tPart (tUn (rU fun i => .int (-i)) (tC (.int 1)))) := po_some (pe_un un_neg pe_int)
  refine wpAny_Slice ?_
  rw [evalPart_none]
  refine wpAny_pure (wpAny_pure ?_)
  refine thn (hst.run pins s1 σ H1 (fun o H4 => o = some (-1) ∧ H4 = H1) I1 ⟨1, rfl, -1, rfl, rfl, rfl⟩) fun vs s4 ⟨o, H4, I4, ps, eo, e4⟩ => ?_
  subst eo e4
  have I5 : Inv X pins σ H4 { s4 with heap := s4.heap.push { cls := .type "slice", data := .fields #[.none, .none, vs] } } := I4.kept (t' := s4.toks) fun b ob q => Heap.get?_push_of_some _ q
  obtain ⟨its, r, ht, hz⟩ := I5.tuple hx
  have hlen := r.length
  show wpAny (model X.prog X.w) X.A (subscriptTail e (.Slice none none (some (.UnaryOp .USub (.Constant (.int 1) k p1) p2)) p3) (.ref a) (.ref s4.heap.objs.size)) (EP X pins σ Q) X.xe { s4 with heap := s4.heap.push { cls := .type "slice", data := .fields #[.none, .none, vs] } }
  refine tail_any (ops := [.ref a, .ref s4.heap.objs.size]) ht.typeIs (PyProof.Rows.slot_tuple_getitem.lookup) ?_ (by with_unfolding_all rfl)
  refine tup_back ht (Heap.IsSliceOf.new _ .none .none vs) ps ?_ (by omega)
  refine ⟨.ref _, _, I5.laid (t' := s4.toks) (o := .tup xs.reverse) (fun b ob q => Heap.get?_push_of_some _ q) (Nat.le_refl _) ?_, rfl, q _ (I5.hok.fresh (Nat.le_refl _))⟩
  exact ⟨by rw [List.length_reverse]; exact hz, its.reverse, r.reverse, ⟨_, Heap.get?_push_size _ rfl, rfl, _, rfl⟩⟩
/-- a list or a tuple -/
def tBack2 (K : PySem.W.Frag) (te : TE) : TE := fun σ H Q => te σ H fun x H1 => (∃ a xs, x = .ref a ∧ SqT K H1 a xs ∧ ∀ p, H1 p = none → Q (.ref p) (upd H1 p (.tup xs.reverse))) ∨ (∃ a xs, x = .ref a ∧ SqL K H1 a xs ∧ ∀ p, H1 p = none → Q (.ref p) (upd H1 p (.lst xs.reverse)))
end
end G
set_option maxHeartbeats 1000000
/-! enumerate of a tuple -/
namespace PySem
open AutoSeq1 (wpAny_loadPart')
theorem enumT_meets (l : Addr) (its : Array Value) (B : Begins (.ref l) { cls := .type "tuple_iterator", data := .fields #[.ref l, .int 0 0] } fun h => h.IsTuple l its) :
    Meets (Builtin.«enumerate.__new__» ⟨[.type "enumerate", .ref l], []⟩) (fun _ R s => s.heap.IsTuple l its ∧
      R (.ok (.ret (.ref (s.heap.push { cls := .type "tuple_iterator", data := .fields #[.ref l, .int 0 0] }).objs.size)))
        { s with heap := (s.heap.push { cls := .type "tuple_iterator", data := .fields #[.ref l, .int 0 0] }).push { cls := .type "enumerate", data := .fields #[.none, .bool false, .ref s.heap.objs.size, rawInt 0, .none, .none] } }) :=
  .of_wp fun prog w A R s hh => by
    obtain ⟨hp, g, d, tk, os⟩ := s; obtain ⟨ht, hh⟩ := hh
    have hsub := sub_enumerate
    have q1 : ∀ {A' : Around} {E : Value → Shared → Prop} {Q : Value → Shared → Prop}, Q (.ref hp.objs.size) ⟨hp.push { cls := .type "tuple_iterator", data := .fields #[.ref l, .int 0 0] }, g, d, tk, os⟩ → wpAny (model prog w) A' (pyIter (.ref l)) Q E ⟨hp, g, d, tk, os⟩ :=
      fun q => B.iter prog w _ _ ⟨hp, g, d, tk, os⟩ _ ht q
    wp_walk using q1
    refine wpAny_stack_any fun st => wpAny_pure ?_
    split
    · rename_i c _ _ _ _ _
      cases (c == Value.type "enumerate") <;> (wp_walk using q1; exact ⟨_, rfl, hh⟩)
    · wp_walk using q1
      exact ⟨_, rfl, hh⟩
theorem enumT_call {prog : Program} {w : World} {A : Around} {E : Value → Shared → Prop} {s : Shared} {l : Addr} {its : Array Value} {Q : Value → Shared → Prop} (hL : s.heap.IsTuple l its)
    (hh : ∀ h', IsEnum h' (s.heap.objs.size + 1) s.heap.objs.size 0 .none → h'.IsTupleIter s.heap.objs.size l 0 → (∀ b o, s.heap.get? b = some o → h'.get? b = some o) → Q (.ref (s.heap.objs.size + 1)) { s with heap := h' }) :
    wpAny (model prog w) A (call (.type "enumerate") [.ref l]) Q E s := by
  refine callType_new F.called_enumerate (by decide) (F.typeCall_enumerate_1 _) (F.newCall_enumerate_1 _) (fun obj => F.args_object_init_2 obj _) F.entry_enumerate_new (enumT_meets l its (begins_tuple l its)) ⟨hL, ?_⟩
  have z1 : (s.heap.push { cls := .type "tuple_iterator", data := .fields #[.ref l, .int 0 0] }).objs.size = s.heap.objs.size + 1 := Heap.size_push ..
  show _ ∧ _
  rw [z1]
  have at1 : IsEnum ((s.heap.push { cls := .type "tuple_iterator", data := .fields #[.ref l, .int 0 0] }).push { cls := .type "enumerate", data := .fields #[.none, .bool false, .ref s.heap.objs.size, rawInt 0, .none, .none] }) (s.heap.objs.size + 1) s.heap.objs.size 0 .none := by
    have z := Heap.get?_push_size (s.heap.push { cls := .type "tuple_iterator", data := .fields #[.ref l, .int 0 0] }) (o := { cls := .type "enumerate", data := .fields #[.none, .bool false, .ref s.heap.objs.size, rawInt 0, .none, .none] }) rfl
    rw [z1] at z; exact z
  exact ⟨⟨_, at1, rfl⟩, hh _ at1 ⟨_, Heap.get?_push_of_some _ (Heap.get?_push_size _ rfl), rfl, rfl⟩ fun b o x => Heap.get?_push_of_some _ (Heap.get?_push_of_some _ x)⟩
end PySem
namespace G
open PySem PySem.Spec PyProof.Rows L2
/-- the tuple at a as it stands, each item in a new pair -/
def IteT (K : PySem.W.Frag) (a : Addr) : It :=
  ⟨fun i H => ∃ (xs : List V) (x : V), SqT K H a xs ∧ xs[i]? = some x, fun i H v H' => ∃ T x, v = .ref T ∧ H T = none ∧ H' = upd H T (.tup [.int (i : Nat), x]) ∧ ∀ xs, SqT K H a xs → xs[i]? = some x, fun i H => ∃ xs : List V, SqT K H a xs ∧ xs.length ≤ i⟩
theorem turn_enumT {P : Program} {w : World} {K : PySem.W.Frag} {elts : List Expr} {kk : Nat} {tpos : Pos} (a e it : Addr) :
    Turn P w K (.Tuple elts kk tpos) (IteT K a) [e, it] e (fun i h => (∃ old, IsEnum h e it ((i : Nat) : Int) old) ∧ h.IsTupleIter it a i ∧ e ≠ it ∧ e ≠ a ∧ it ≠ a) where
  mem := by simp
  obj := fun i h st b hb => by
    obtain ⟨⟨old, he⟩, ⟨ob, ho, hc, hd⟩, _⟩ := st
    have z : b = e ∨ b = it := by simpa using hb
    rcases z with rfl | rfl
    · exact ⟨_, he, fun v q => nomatch q⟩
    · exact ⟨ob, ho, fun v q => by rw [hd] at q; cases q⟩
  keep := fun i h h' st k => let ⟨⟨old, he⟩, hi, hne⟩ := st; ⟨⟨old, k e (by simp) _ he⟩, hi.at fun o q => k it (by simp) o q, hne⟩
  item := by
    intro X hP hw hK hc i pins s σ H E I hf st hg
    subst hP hw hK
    obtain ⟨⟨old, he⟩, hit, hne, hea, hia⟩ := st
    obtain ⟨xs, x, hq, hx⟩ := hg
    obtain ⟨its, rv, p, hz⟩ := I.tuple hq
    obtain ⟨u, hu, ru⟩ := rv.get hx
    have hel : e < s.heap.objs.size := Heap.lt_size he
    have hil : it < s.heap.objs.size := by obtain ⟨_, q, _⟩ := hit; exact Heap.lt_size q
    have hA : X.A.in1.handled = none := I.ok.hd hc
    have Dr := Draws.tuple (prog := X.prog) (w := X.w) (A := X.A.in1) hA it a (Ne.symm hia) its.toArray
    have pT : s.heap.IsTuple a its.toArray := p
    have hlt : i < its.toArray.size := by
      rw [List.size_toArray]; exact (List.getElem?_eq_some_iff.mp hu).1
    refine wpAny_pyNext_enum_itemC Dr he ⟨hit, pT⟩ hlt hne (by simp [hne, hea]) fun y h' tk hy ho st' hT hsz hk => ?_
    have ey : y = u := by
      have hy' : its.toArray[i]? = some y := hy
      rw [List.getElem?_toArray, hu] at hy'; exact (Option.some.inj hy').symm
    subst ey
    refine ⟨_, rfl, wpAny_letOwnedTupleGo_enum (s := { s with heap := h', toks := tk + 1 }) ho fun h'' he' sb => ?_⟩
    have hT2 : h''.get? s.heap.objs.size = some { cls := .type "tuple", data := .seq #[.int i tk, y] } := (sb.2 _ (Nat.ne_of_gt hel)).trans hT
    have new : ObjOk X.prog X.w (upd H s.heap.objs.size (.tup [.int (i : Nat), x])) h'' s.heap.objs.size (.tup [.int (i : Nat), x]) :=
      ⟨by show 2 ≤ sizeLine; decide, [.int i tk, y], .cons ⟨_, rfl⟩ (.cons ru .nil), ⟨_, hT2, rfl, _, rfl⟩⟩
    have I1 : Inv X pins σ (upd H s.heap.objs.size (.tup [.int (i : Nat), x])) { s with heap := h'', toks := tk + 1 } :=
      I.turnedNew (ch := [e, it]) (fun b ob hb q => (sb.2 b (fun z => hb (by simp [z]))).trans (hk b ob (fun z => hb (by simp [z])) (fun z => hb (by simp [z])) q)) hf (Nat.le_refl _) new
    refine ⟨.ref s.heap.objs.size, _, I1, rfl, ⟨_, x, rfl, I.hok.fresh (Nat.le_refl _), rfl, fun ys hy => by rw [I.tuple_inj hy hq]; exact hx⟩, ⟨⟨y, ?_⟩, st'.1.at fun o q => (sb.2 it (Ne.symm hne)).trans q, hne, hea, hia⟩, fun b hb => ?_⟩
    · have e1 : ((i + 1 : Nat) : Int) = (i : Int) + 1 := by omega
      rw [e1]; exact he'
    · have z : b = e ∨ b = it := by simpa using hb
      have hb' : b < s.heap.objs.size := by
        rcases z with rfl | rfl
        · exact hel
        · exact hil
      rw [upd_ne (Nat.ne_of_lt hb')]
      exact (hf b hb).1
  done := by
    intro X hP hw hK hc i pins s σ H E I hf st hg
    subst hP hw hK
    obtain ⟨⟨old, he⟩, hit, hne, hea, hia⟩ := st
    obtain ⟨xs, hq, hx⟩ := hg
    obtain ⟨its, rv, p, hz⟩ := I.tuple hq
    obtain ⟨f0, f1, f2, f3, f4, f5⟩ := hf it (by simp)
    have hl := rv.length
    have hA : X.A.in1.handled = none := I.ok.hd hc
    have hT : s.TypeIs (.ref e) "enumerate" := ⟨_, he, rfl⟩
    unfold pyNext
    refine wpAny_bind (wpAny_attempt (wpAny_callSpecial?_slot (name := Str.ofString "__next__") hT F.slot_enumerate_next (wpAny_call_entry F.slot_enumerate_next hT F.entry_enumerate_next ?_ (F.args_enumerate_next_1 _))))
    show wpAny _ _ (field (.ref e) 2 >>= fun _ => _) _ _ _
    refine wpAny_bind (wpAny_field he rfl (x := .ref it) rfl ?_)
    have pT : s.heap.IsTuple a its.toArray := p
    refine wpAny_bind (wpAny_nextOf_tuple_end hA hit pT (by simp; omega) fun h' x eb hx' => ?_)
    obtain ⟨ob, ho, hcl⟩ := hx'
    refine wpAny_bind (wpAny_isInstance (T := "StopIteration") (b := true) ⟨ob, ho, hcl⟩ isSubtype_stop ?_)
    exact wpAny_pure ⟨rfl, I.turned (t' := s.toks) (fun b o hb q => eb b o hb q) f0 f1 f3 f4 f5⟩
  self := fun A i s Q E st h => let ⟨⟨_, he⟩, _⟩ := st; wpAny_pyIter_enum he h
/-- enumerate of a list or a tuple -/
def iEnumA (K : PySem.W.Frag) (ta : TA) : TI := fun σ H R => ta σ H fun vs H1 => ∃ a xs, vs = [.ref a] ∧ ((SqL K H1 a xs ∧ R (Ite K a) H1) ∨ (SqT K H1 a xs ∧ R (IteT K a) H1))
theorem pi_enumA {X : Cx} {e : Expr} {ta : TA} {p pos tpos : Pos} {elts : List Expr} {kk : Nat} (hg : Gl X "enumerate") (hm : X.mg "enumerate" = none) (ha : PA X [e] ta) (hs : starEach [e] X.env = [(false, eval e X.env)]) :
    PI X (.Tuple elts kk tpos) (.Call (.Name "enumerate" p) [e] [] pos) (iEnumA X.K ta) := by
  refine ⟨fun pins s σ H R I h => ?_⟩
  refine Call_ (ld_blt I hg hm boot_enumerate (PyProof.Rows.callWith_type1 (thn (ha.run pos pins s σ H _ I h) fun us s1 ⟨vs, H1, I1, r1, q1⟩ => ?_) hs rfl))
  obtain ⟨a, xs, rfl, q⟩ := q1
  rw [Vals.ref1 r1]
  have new2 : ∀ b, b = s1.heap.objs.size + 1 ∨ b = s1.heap.objs.size → FpOk X pins H1 b := fun b z => by
    have hle : s1.heap.objs.size ≤ b := by rcases z with z | z <;> rw [z] <;> first | exact Nat.le_add_right _ _ | exact Nat.le_refl _
    exact I1.fpOk hle (I1.hok.fresh hle)
  rcases q with ⟨hq, q⟩ | ⟨hq, q⟩
  · obtain ⟨its, rv, p', hz⟩ := I1.list hq
    refine call_enumerate_list p'.isList fun h' he hit hsz hk => wpAny_pyIter_enum he ?_
    have I2 : Inv X pins σ H1 { s1 with heap := h' } := I1.kept (t' := s1.toks) hk
    exact ⟨s1.heap.objs.size + 1, [s1.heap.objs.size + 1, s1.heap.objs.size], _, _, H1, rfl, I2, turn_enum a (s1.heap.objs.size + 1) s1.heap.objs.size, ⟨⟨.none, he⟩, hit, Nat.succ_ne_self _⟩, fun b hb => new2 b (by simpa using hb), q⟩
  · obtain ⟨its, rv, p', hz⟩ := I1.tuple hq
    have pT : s1.heap.IsTuple a its.toArray := p'
    have hlt : a < s1.heap.objs.size := by obtain ⟨_, q, _⟩ := p'; exact Heap.lt_size q
    refine PySem.enumT_call pT fun h' he hit hk => wpAny_pyIter_enum he ?_
    have I2 : Inv X pins σ H1 { s1 with heap := h' } := I1.kept (t' := s1.toks) hk
    exact ⟨s1.heap.objs.size + 1, [s1.heap.objs.size + 1, s1.heap.objs.size], _, _, H1, rfl, I2, turn_enumT a (s1.heap.objs.size + 1) s1.heap.objs.size, ⟨⟨.none, he⟩, hit, Nat.succ_ne_self _, Nat.ne_of_gt (Nat.lt_succ_of_lt hlt), Nat.ne_of_gt hlt⟩, fun b hb => new2 b (by simpa using hb), q⟩
theorem walk_enumT {K : PySem.W.Frag} {a : Addr} {xs : List V} : Walk (IteT K a) xs.length (fun H => SqT K H a xs) (YPair (fun i => some (.int (i : Nat))) (fun i => xs[i]?)) := by
  refine ⟨fun i _ hi q => ⟨xs, xs[i], q, by simp [hi]⟩, fun _ q => ⟨xs, q, Nat.le_refl _⟩, fun i H v H' _ q y => ?_⟩
  obtain ⟨T, x, h1, h2, h3, h4⟩ := y
  exact ⟨T, .int (i : Nat), x, h1, h2, h3, rfl, h4 xs q⟩
theorem walk_zipT {K : PySem.W.Frag} {a b : Addr} {xs ys : List V} {n : Nat} (hn : n = min xs.length ys.length) : Walk (RZ.ItzT K a b) n (fun H => SqT K H a xs ∧ SqT K H b ys) (YPair (fun i => xs[i]?) (fun i => ys[i]?)) := by
  subst hn
  refine ⟨fun i _ hi q => ?_, fun _ q => ⟨xs, ys, q.1, q.2, by omega⟩, fun i H v H' _ q y => ?_⟩
  · have h1 : i < xs.length := by omega
    have h2 : i < ys.length := by omega
    exact ⟨xs, ys, xs[i], ys[i], q.1, q.2, by simp [h1], by simp [h2]⟩
  · obtain ⟨T, x, z, h1, h2, h3, h4, h5⟩ := y
    exact ⟨T, x, z, h1, h2, h3, h4 xs q.1, h5 ys q.2⟩
end G
set_option maxHeartbeats 1000000
namespace G
open PySem PySem.Spec PyProof.Rows L2
section
variable {X : Cx} {q : Pc} {ev : Ev} {W : XK} {m : Md} {a b c x : Expr} {e e1 e2 e3 : E} {es : List E} {pos p : Pos}
theorem n_sorted (hK : X.K = q.g.K) (hg : Gl X "sorted") (h1 : X.mg "sorted" = none) (hs : nstar a = true) (ha : PA X [a] (tA q ev W true es)) : PE X (.Call (.Name "sorted" p) [a] [] pos) (tE q ev W .new (.bi .sorted es)) := by
  refine pe_imp (pe_callB (bi_sortedA hK) hg h1 (by first | rfl | decide +kernel) ha (by decide) (by decide) (starEach_cons hs) rfl) fun σ H Q ⟨F, A, ρ, S, st, en, po⟩ => ?_
  simp only [evalE] at po
  refine ⟨F, A, ρ, S, st, en, PostOf.bind po fun vs F1 A1 H1 ds S1 _ s1 st1 r1 po => ?_⟩
  match ds, po with
  | [d], po =>
    cases hs : seqs S1 d with
    | none =>
      obtain ⟨res, hr, _⟩ := PostOf.of po
      have hr' : bSorted S1 [d] = some res := hr
      simp only [bSorted, hs] at hr'
      cases hr'
    | some ys =>
      cases hn : intsOf ys with
      | none =>
        obtain ⟨res, hr, _⟩ := PostOf.of po
        have hr' : bSorted S1 [d] = some res := hr
        simp only [bSorted, hs, Option.bind_some, hn] at hr'
        cases hr'
      | some ns =>
        have hr : bfun S1 .sorted [d] = some (.lst ((sortI ns).map .int)) := by
          show bSorted S1 [d] = _
          simp only [bSorted, hs, Option.bind_some, hn, Option.map_some]
        rw [hr] at po
        exact ⟨F1, A1, S1, [d], (d, ys), ns, st1, r1, rfl, hs, hn, fun p' hp => newL po st1 (fun p h => s1.non h) (RepL.ints _) hp⟩
  | [], po => exact po.elim
  | _ :: _ :: _, po => exact po.elim
theorem pe_or2 {t t' : TE} (h : PE X x t) (h' : PE X x t') : PE X x (fun σ H Q => t σ H Q ∨ t' σ H Q) := ⟨fun pins s σ H Q I w => w.elim (h.run pins s σ H Q I) (h'.run pins s σ H Q I)⟩
/-- x[::-1] -/
theorem s_rev {k : Nat} {p1 p2 p3 : Pos} (hm : m.nn = true) (hK : X.K = q.g.K) (ha : PE X a (tE q ev W (.x true) e1)) : PE X (.Subscript a (.Slice none none (some (.UnaryOp .USub (.Constant (.int 1) k p1) p2)) p3) pos) (tE q ev W m (.rev e1)) := by
  refine pe_imp (pe_or2 (pe_back ha) (pe_revL ha)) fun σ H Q ⟨F, A, ρ, S, st, en, po⟩ => ?_
  simp only [evalE] at po
  cases ho : evalE ev ρ e1 S with
  | no => rw [ho] at po; exact po.elim
  | ex c d S' =>
    refine .inl ⟨F, A, ρ, S, st, en, ?_⟩
    rw [ho] at po ⊢; exact po
  | ok d S1 =>
    rw [ho] at po
    have po : PostOf q (RepM q.g H m) W F A H (.of (revD S1 d) S1) Q := po
    obtain ⟨res, hr, po⟩ := PostOf.of po
    unfold revD at hr
    rw [Option.bind_eq_some_iff] at hr
    obtain ⟨⟨t, xs⟩, h1, h2⟩ := hr
    cases t with
    | true =>
      cases h2
      refine .inl ⟨F, A, ρ, S, st, en, ?_⟩
      rw [ho]
      intro v F1 A1 H1 s1 st1 r1
      obtain ⟨a, vs, rfl, hq, rl⟩ := rx_seq st1 r1 h1
      have hq : SqT q.g.K H1 a vs := hq
      rw [← hK] at hq
      exact ⟨a, vs, rfl, hq, fun p hp => Gets.tup (fun v' F' A' H' s' st' r' => po v' F' A' H' (s1.trans s') st' (.of hm r')) st1 rl.rev hp⟩
    | false =>
      cases h2
      refine .inr ⟨F, A, ρ, S, st, en, ?_⟩
      rw [ho]
      intro v F1 A1 H1 s1 st1 r1
      obtain ⟨a, vs, rfl, hq, rl⟩ := rx_seq st1 r1 h1
      have hq : SqL q.g.K H1 a vs := hq
      rw [← hK] at hq
      exact ⟨a, vs, rfl, hq, fun p hp => Gets.lst (fun v' F' A' H' s' st' r' => po v' F' A' H' (s1.trans s') st' (.of hm r')) st1 rl.rev hp⟩
/-! ### list(range(..)) -/
theorem upto_rg : ∀ (n : Nat) (i : Int), upto i n = ((List.range n).map fun k => i + (k : Nat)).map D.int
  | 0, _ => rfl
  | n + 1, i => by
    rw [List.range_succ_eq_map]
    simp only [upto, List.map_cons, List.map_map]
    rw [upto_rg n (i + 1), List.map_map]
    congr 1
    · simp
    · apply List.map_congr_left
      intro k _
      simp only [Function.comp]
      congr 1
      omega
theorem rep_rg {g : Gc} {F : Hp} {A : List Addr} (i j : Int) : RepL g F A (rgV i j) (upto i (j - i).toNat) := by
  rw [upto_rg]
  have e : rgV i j = ((List.range (j - i).toNat).map fun k => i + (k : Nat)).map V.int := by unfold rgV; rw [List.map_map]; rfl
  rw [e]
  exact RepL.ints _
theorem rgok_ok {i j : Int} (h : rgok i j = true) : RgOk i j := by
  unfold rgok bnd at h
  simp only [Bool.and_eq_true, decide_eq_true_eq] at h
  obtain ⟨⟨⟨h1, h2⟩, h3, h4⟩, h5⟩ := h
  exact ⟨h1, h2, h3, h4, by omega⟩
theorem n_lrg1 {p' : Pos} {pos' : Pos} (hc : X.calm = true) (h0 : e1.star? = false) (hg : Gl X "list") (h1 : X.mg "list" = none) (hg2 : Gl X "range") (h2 : X.mg "range" = none) (hs : nstar a = true) (ha : PE X a (tE q ev W (.x false) e1)) :
    PE X (.Call (.Name "list" p) [.Call (.Name "range" p') [a] [] pos'] [] pos) (tE q ev W .new (.lrg [e1])) := by
  refine pe_imp (pe_listRg hc hg h1 (prg_1 hg2 h2 ha (starEach_cons hs)) rfl) fun σ H Q ⟨F, A, ρ, S, st, en, po⟩ => ?_
  simp only [evalE] at po
  rw [evalEs_cons h0] at po
  simp only [evalEs, Out.bind_assoc] at po
  refine ⟨F, A, ρ, S, st, en, PostOf.bind po fun v F1 A1 H1 d S1 _ s1 st1 r1 po => ?_⟩
  cases d with
  | int n =>
    refine ⟨n, rx_int r1, ?_⟩
    have po : PostOf q (RepM q.g H .new) W F1 A1 H1 (.of (rgl [.int n]) S1) Q := po
    unfold rgl at po
    by_cases hr : rgok 0 n = true
    · simp only [hr, if_true] at po
      refine ⟨rgok_ok hr, fun p hp => newL po st1 (fun p h => s1.non h) ?_ hp⟩
      have := rep_rg (g := q.g) (F := F1) (A := A1) 0 n
      rwa [Int.sub_zero] at this
    · simp only [hr, if_false] at po; exact po.elim
  | _ => exact po.elim
theorem n_lrg2 {p' : Pos} {pos' : Pos} (hc : X.calm = true) (h0 : e1.star? = false) (h0' : e2.star? = false) (hg : Gl X "list") (h1 : X.mg "list" = none) (hg2 : Gl X "range") (h2 : X.mg "range" = none) (hs : nstar a = true) (hs' : nstar b = true) (ha : PE X a (tE q ev W (.x false) e1)) (hb : PE X b (tE q ev W (.x false) e2)) :
    PE X (.Call (.Name "list" p) [.Call (.Name "range" p') [a, b] [] pos'] [] pos) (tE q ev W .new (.lrg [e1, e2])) := by
  refine pe_imp (pe_listRg hc hg h1 (prg_2 hg2 h2 ha hb (starEach_cons hs) (starEach_cons hs') (back_any (by simp [hs']))) rfl) fun σ H Q ⟨F, A, ρ, S, st, en, po⟩ => ?_
  simp only [evalE] at po
  rw [evalEs_cons h0] at po
  simp only [evalEs_cons h0', Out.bind_assoc] at po
  refine ⟨F, A, ρ, S, st, en, PostOf.bind po fun v F1 A1 H1 d S1 _ s1 st1 r1 po => ?_⟩
  refine ⟨F1, A1, ρ, S1, st1, en.step s1, PostOf.bind po fun w F2 A2 H2 d2 S2 _ s2 st2 r2 po => ?_⟩
  simp only [evalEs] at po
  cases d with
  | int i =>
    cases d2 with
    | int j =>
      refine ⟨i, j, rx_int r1, rx_int r2, ?_⟩
      have po : PostOf q (RepM q.g H .new) W F2 A2 H2 (.of (rgl [.int i, .int j]) S2) Q := po
      unfold rgl at po
      by_cases hr : rgok i j = true
      · simp only [hr, if_true] at po
        exact ⟨rgok_ok hr, fun p hp => newL po st2 (fun p h => (s1.trans s2).non h) (rep_rg i j) hp⟩
      · simp only [hr, if_false] at po; exact po.elim
    | _ => exact po.elim
  | _ => exact po.elim

/-! ### the module's written tables -/
/-- the table at the address y of the written part has these entries -/
structure TabR (g : Gc) (w : World) (t : List (Str × D)) (y : Addr) : Prop where
  dict : ∃ es n, KDict g.K w y es n
  at_ : ∀ z : Str, ∃ r : Option Value, PySem.W.nsIn g.K y z = some r ∧ (match r, t.lookup z with
    | none, none => True
    | some u, some d => ∃ v, RelV v u ∧ ∀ F A, Rep g F A v d
    | _, _ => False)
theorem TabR.none {g : Gc} {w : World} {t : List (Str × D)} {y : Addr} (T : TabR g w t y) (z : Str) : ∃ r, PySem.W.nsIn g.K y z = some r ∧ r.isSome = (t.lookup z).isSome := by
  obtain ⟨r, h, k⟩ := T.at_ z
  refine ⟨r, h, ?_⟩
  split at k
  · rename_i e; rw [e]; rfl
  · rename_i e; rw [e]; rfl
  · exact k.elim
theorem s_kin {k : Nat} {neg : Bool} {y : Str} {yd : Addr} (hm : m.nn = true) (hK : X.K = q.g.K) (hg : Gl X y) (h1 : X.mg y = some (.ref yd)) (hd : (y == ("__debug__" : Str)) = false) (T : TabR q.g X.w (ev.tab k) yd) (ha : PE X a (tE q ev W (.x false) e1)) :
    PE X (.Compare a [if neg = true then .NotIn else .In] [.Name y p] pos) (tE q ev W m (.kin neg k e1)) := by
  obtain ⟨es, n, KD⟩ := T.dict
  rw [← hK] at KD
  have hb : PE X (.Name y p) (tC (.ref yd)) := pe_glob hg h1 rfl hd
  have fin : ∀ {σ : L2.St} {H : Hp} {Q : VK}, tE q ev W m (.kin neg k e1) σ H Q → tE q ev W (.x false) e1 σ H fun x H1 => ∃ z r, x = .str z ∧ PySem.W.nsIn X.K yd z = some r ∧ Q (.bl (if neg = true then !r.isSome else r.isSome)) H1 := by
    rintro σ H Q ⟨F, A, ρ, S, st, en, po⟩
    simp only [evalE] at po
    refine ⟨F, A, ρ, S, st, en, PostOf.bind po fun v F1 A1 H1 d S1 _ s1 st1 r1 po => ?_⟩
    cases d with
    | str z =>
      obtain ⟨r, hr, e⟩ := T.none z
      rw [← hK] at hr
      refine ⟨z, r, rx_str r1, hr, ?_⟩
      rw [e]
      exact po _ F1 A1 H1 Step.refl st1 (.of hm rfl)
    | _ => exact po.elim
  cases neg with
  | false =>
    refine pe_imp (pe_cmpR (op_in_kd KD) ha hb rfl) fun σ H Q h => ?_
    obtain ⟨F, A, ρ, S, st, en, po⟩ := fin h
    refine ⟨F, A, ρ, S, st, en, po.imp (fun _ _ _ _ _ h => h) fun v H1 ⟨z, r, e, hr, hq⟩ => ⟨z, r, e, rfl, hr, hq⟩⟩
  | true =>
    refine pe_imp (pe_cmpR (op_notIn_kd KD) ha hb rfl) fun σ H Q h => ?_
    obtain ⟨F, A, ρ, S, st, en, po⟩ := fin h
    refine ⟨F, A, ρ, S, st, en, po.imp (fun _ _ _ _ _ h => h) fun v H1 ⟨z, r, e, hr, hq⟩ => ⟨z, r, e, rfl, hr, hq⟩⟩
theorem t_kin {k : Nat} {neg : Bool} {y : Str} {yd : Addr} (hK : X.K = q.g.K) (hg : Gl X y) (h1 : X.mg y = some (.ref yd)) (hd : (y == ("__debug__" : Str)) = false) (T : TabR q.g X.w (ev.tab k) yd) (ha : PE X a (tE q ev W (.x false) e1)) :
    PT X (.Compare a [if neg = true then .NotIn else .In] [.Name y p] pos) (tT q ev W (.kin neg k e1)) := by
  obtain ⟨es, n, KD⟩ := T.dict
  rw [← hK] at KD
  have hb : PE X (.Name y p) (tC (.ref yd)) := pe_glob hg h1 rfl hd
  have fin : ∀ {σ : L2.St} {H : Hp} {Q : Bool → Hp → Prop}, tT q ev W (.kin neg k e1) σ H Q → tE q ev W (.x false) e1 σ H fun x H1 => ∃ z r, x = .str z ∧ PySem.W.nsIn X.K yd z = some r ∧ Q (if neg = true then !r.isSome else r.isSome) H1 := by
    rintro σ H Q ⟨F, A, ρ, S, st, en, po⟩
    simp only [evalE, Out.bind_assoc] at po
    refine ⟨F, A, ρ, S, st, en, PostOf.bind po fun v F1 A1 H1 d S1 _ s1 st1 r1 po => ?_⟩
    cases d with
    | str z =>
      obtain ⟨r, hr, e⟩ := T.none z
      rw [← hK] at hr
      refine ⟨z, r, rx_str r1, hr, ?_⟩
      rw [e]
      exact po _ F1 A1 H1 Step.refl st1 rfl
    | _ => exact po.elim
  cases neg with
  | false =>
    refine pt_imp (pt_cmpR (op_in_kd KD) ha hb rfl) fun σ H Q h => ?_
    obtain ⟨F, A, ρ, S, st, en, po⟩ := fin h
    exact ⟨F, A, ρ, S, st, en, po.imp (fun _ _ _ _ _ h => h) fun v H1 ⟨z, r, e, hr, hq⟩ => ⟨z, r, e, rfl, hr, _, rfl, hq⟩⟩
  | true =>
    refine pt_imp (pt_cmpR (op_notIn_kd KD) ha hb rfl) fun σ H Q h => ?_
    obtain ⟨F, A, ρ, S, st, en, po⟩ := fin h
    exact ⟨F, A, ρ, S, st, en, po.imp (fun _ _ _ _ _ h => h) fun v H1 ⟨z, r, e, hr, hq⟩ => ⟨z, r, e, rfl, hr, _, rfl, hq⟩⟩
theorem s_kidx {k : Nat} {y : Str} {yd : Addr} (hm : m.nn = true) (hK : X.K = q.g.K) (hg : Gl X y) (h1 : X.mg y = some (.ref yd)) (hd : (y == ("__debug__" : Str)) = false) (T : TabR q.g X.w (ev.tab k) yd) (hs : nslice a = true) (ha : PE X a (tE q ev W (.x false) e1)) :
    PE X (.Subscript (.Name y p) a pos) (tE q ev W m (.kidx k e1)) := by
  obtain ⟨es, n, KD⟩ := T.dict
  rw [← hK] at KD
  have hb : PE X (.Name y p) (tC (.ref yd)) := pe_glob hg h1 rfl hd
  refine pe_imp (pe_ix ix_kdict hb ha (plainIx_of hs)) fun σ H Q ⟨F, A, ρ, S, st, en, po⟩ => ?_
  simp only [evalE] at po
  refine ⟨F, A, ρ, S, st, en, PostOf.bind po fun v F1 A1 H1 d S1 _ s1 st1 r1 po => ?_⟩
  cases d with
  | str z =>
    obtain ⟨r, hr, kk⟩ := T.at_ z
    obtain ⟨d', hd', po⟩ := PostOf.of po
    rw [hd'] at kk
    split at kk
    · rename_i e; cases e
    · rename_i u d2 e
      cases e
      obtain ⟨v', rv, rep⟩ := kk
      rw [← hK] at hr
      exact ⟨yd, z, v', rfl, rx_str r1, ⟨es, n, u, KD.at_, KD.lit, hr, rv⟩, po v' F1 A1 H1 Step.refl st1 (.of hm (rep F1 A1))⟩
    · exact kk.elim
  | _ => exact po.elim
/-! ### isinstance -/
def tyS : Ty → String
  | .tup => "tuple" | .lst => "list" | .int => "int" | .bool => "bool" | .str => "str" | .dct => "dict"
theorem kitT (K : PySem.W.Frag) (t u : Ty) : PySem.W.kitOne K (.type (tyS t)) (.type (tyS u)) = some (decide (t = u) || (decide (t = .bool) && decide (u = .int))) := by
  cases t <;> cases u <;> first | rfl | decide | (with_unfolding_all rfl)
theorem kitN (K : PySem.W.Frag) (u : Ty) : PySem.W.kitOne K (.type "NoneType") (.type (tyS u)) = some false := by
  cases u <;> first | rfl | decide | (with_unfolding_all rfl)
theorem rx_ty {b : Bool} {F : Hp} {A : List Addr} {S : Store} {H : Hp} {v : V} {d : D} {t : Ty} {r : Bool} (hK : X.K = q.g.K) (st : StR q.g F A S H) (r1 : RepX q.g b F A H v d) (h : isTy t d = some r) :
    ∃ u, TyX X.K H v u ∧ PySem.W.kitOne X.K u (.type (tyS t)) = some r := by
  have go : ∀ (s : Ty), TyX X.K H v (.type (tyS s)) → (decide (s = t) || (decide (s = .bool) && decide (t = .int))) = r → ∃ u, TyX X.K H v u ∧ PySem.W.kitOne X.K u (.type (tyS t)) = some r := fun s h1 h2 => ⟨_, h1, by rw [kitT, h2]⟩
  have tup : ∀ {a vs}, v = .ref a → SqT q.g.K H a vs → TyX X.K H v (.type (tyS .tup)) := by
    rintro a vs rfl hq
    rw [hK]
    rcases hq with (hq | ⟨o, hq⟩) | ⟨o, its, n, hk, hc, _⟩
    · exact .base (.tup hq)
    · exact .fTuple hq
    · exact .kTuple hk hc
  have lst : ∀ {a vs}, v = .ref a → SqL q.g.K H a vs → TyX X.K H v (.type (tyS .lst)) := by
    rintro a vs rfl hq
    rw [hK]
    rcases hq with (hq | ⟨o, hq⟩) | ⟨o, its, n, hk, hc, _⟩
    · exact .base (.lst hq)
    · exact .base (.frz hq)
    · exact .kList hk hc
  cases d with
  | non =>
    rw [rx_non r1]
    refine ⟨.type "NoneType", .base .non, ?_⟩
    rw [kitN]
    cases t <;> exact h
  | bl k => have e := rx_bl r1; subst e; exact go .bool (.base (.bl k)) (by cases t <;> (cases h; rfl))
  | int k => have e := rx_int r1; subst e; exact go .int (.base (.int k)) (by cases t <;> (cases h; rfl))
  | str k => have e := rx_str r1; subst e; exact go .str (.base (.str k)) (by cases t <;> (cases h; rfl))
  | tup xs => obtain ⟨a, vs, e, _, hq, _⟩ := rx_tup st r1; exact go .tup (tup e (SqT.of hq)) (by cases t <;> (cases h; rfl))
  | kt xs => obtain ⟨a, vs, e, _, hq, _⟩ := rx_kt st r1; exact go .tup (tup e hq) (by cases t <;> (cases h; rfl))
  | lst xs => obtain ⟨a, vs, e, hq, _⟩ := rx_lst st r1; exact go .lst (lst e (SqL.of hq)) (by cases t <;> (cases h; rfl))
  | kl xs => obtain ⟨a, vs, e, _, hq, _⟩ := rx_kl st r1; exact go .lst (lst e hq) (by cases t <;> (cases h; rfl))
  | dct tt ks ws =>
    cases tt with
    | true => cases t <;> cases h
    | false =>
      obtain ⟨a, o, vs, rfl, rd, dr, _⟩ := rx_dct st r1 (t := false) (ks := ks) (ws := ws) rfl
      obtain ⟨l, rfl, _⟩ := dr
      refine go .dct ?_ (by cases t <;> (cases h; rfl))
      rcases rd with rd | ⟨od, rd⟩
      · exact .base (.dK rd)
      · exact .fDict rd
  | ref n => cases t <;> cases h
  | fn n => cases t <;> cases h
theorem s_isi {t : Ty} {p1 p2 : Pos} (hm : m.nn = true) (hK : X.K = q.g.K) (hg : Gl X "isinstance") (h1 : X.mg "isinstance" = none) (hg2 : Gl X (Str.ofString (tyS t))) (h2 : X.mg (Str.ofString (tyS t)) = none) (hs : nstar a = true) (ha : PE X a (tE q ev W (.x true) e1)) :
    PE X (.Call (.Name "isinstance" p1) [a, .Name (Str.ofString (tyS t)) p2] [] pos) (tE q ev W m (.isi [t] e1)) := by
  have hn : PE X (.Name (Str.ofString (tyS t)) p2) (tC (.ty (tyS t))) := by
    refine pe_bltn hg2 h2 (u := .type (tyS t)) ?_ rfl ?_ ?_
    · cases t <;> first | rfl | decide +kernel
    · cases t <;> decide
    · cases t <;> decide
  refine pe_imp (pe_callB call_isi hg h1 (by first | rfl | decide +kernel) (pa_cons ha (pa_cons hn pa_nil rfl) (starEach_cons hs)) (by decide) (by decide) (starEach_cons hs) rfl) fun σ H Q ⟨F, A, ρ, S, st, en, po⟩ => ?_
  simp only [evalE] at po
  refine ⟨F, A, ρ, S, st, en, PostOf.bind po fun v F1 A1 H1 d S1 _ s1 st1 r1 po => ?_⟩
  obtain ⟨res, hr, po⟩ := PostOf.of po
  rw [Option.map_eq_some_iff] at hr
  obtain ⟨r, hr, rfl⟩ := hr
  simp only [isTys] at hr
  cases ht : isTy t d with
  | none => rw [ht] at hr; cases hr
  | some r0 =>
    rw [ht] at hr
    have hr : some (r0 || false) = some r := hr
    rw [Bool.or_false] at hr
    cases hr
    obtain ⟨u, ty, ku⟩ := rx_ty hK st1 r1 ht
    exact ⟨v, .ty (tyS t), u, .type (tyS t), r, rfl, .ty _, ty, ku, po _ F1 A1 H1 Step.refl st1 (.of hm rfl)⟩
/-! ### d.get(k, x) -/
theorem s_get2 {p1 : Pos} (hm : m.nn = true) (hu : X.A.units + 65 < cLine) (h0 : e2.star? = false) (h0' : e3.star? = false) (ho : ncall a = true) (hl : (p1.endLine == pos.line) = true) (hs : ([b, c] : List Expr).all nstar = true) (ha : PE X a (tE q ev W (.x true) e1)) (hb : PE X b (tE q ev W (.x false) e2)) (hc : PE X c (tE q ev W (.x false) e3)) :
    PE X (.Call (.Attribute a "get" p1) [b, c] [] pos) (tE q ev W m (.mth .get2 e1 [e2, e3])) := by
  have hs2 : nstar b = true ∧ nstar c = true := by simpa using hs
  have M : M2 X a "get" p1 b c pos := by
    refine ⟨base_of ho, ?_, hl, ?_⟩
    · rw [back_all hs]; rfl
    · rw [starEach_cons hs2.1, starEach_cons hs2.2]; rfl
  refine pe_imp (pe_dget2 (by omega) ha hb hc M) fun σ H Q ⟨F, A, ρ, S, st, en, po⟩ => ?_
  simp only [evalE] at po
  refine ⟨F, A, ρ, S, st, en, PostOf.bind po fun v F1 A1 H1 d S1 _ s1 st1 r1 po => ?_⟩
  cases hd : dctOf S1 d with
  | none => rw [hd] at po; exact po.elim
  | some tr =>
    obtain ⟨t, ks, ws⟩ := tr
    simp only [hd] at po
    rw [evalEs_cons h0] at po
    simp only [evalEs_cons h0', Out.bind_assoc] at po
    obtain ⟨a0, o0, vs0, rfl, rd0, dr0, _⟩ := rx_dct st1 r1 hd
    refine ⟨a0, rfl, ?_, F1, A1, ρ, S1, st1, en.step s1, PostOf.bind po fun w F2 A2 H2 k S2 _ s2 st2 r2 po => ?_⟩
    · cases t with
      | false => obtain ⟨l, rfl, _⟩ := dr0; exact .inl ⟨l, rd0⟩
      | true => obtain ⟨l, rfl, _⟩ := dr0; exact .inr ⟨l, rd0⟩
    refine ⟨F2, A2, ρ, S2, st2, (en.step s1).step s2, PostOf.bind po fun z F3 A3 H3 dz S3 _ s3 st3 r3 po => ?_⟩
    simp only [evalEs] at po
    have po : PostOf q (RepM q.g H m) W F3 A3 H3 (.of (metf S3 .get2 d [k, dz]) S3) Q := po
    obtain ⟨res, hr, po⟩ := PostOf.of po
    simp only [metf] at hr
    cases hd3 : dctOf S3 d with
    | none => rw [hd3] at hr; cases hr
    | some tr3 =>
      obtain ⟨t3, ks3, ws3⟩ := tr3
      simp only [hd3] at hr
      by_cases hk : isKey t3 k = true
      · rw [if_pos hk] at hr
        cases hr
        obtain ⟨a3, o3, vs3, e3, rd3, dr3, rl3⟩ := rx_dct st3 (RepX.step s3 (RepX.step s2 r1)) hd3
        cases e3
        have rk := key_flat (RepX.step s3 r2) hk
        obtain ⟨ov, dg, ro⟩ := dct_get st3 rd3 dr3 rl3 rk hk
        refine ⟨ov, dg, ?_⟩
        cases ov with
        | none =>
          cases hg : dget ks3 ws3 k with
          | none => rw [hg] at po; exact po z F3 A3 H3 Step.refl st3 (.of hm r3.no)
          | some d' => rw [hg] at ro; exact ro.elim
        | some v' =>
          cases hg : dget ks3 ws3 k with
          | none => rw [hg] at ro; exact ro.elim
          | some d' => rw [hg] at ro po; exact po v' F3 A3 H3 Step.refl st3 (.of hm ro)
      · rw [if_neg hk] at hr; cases hr
end
end G
set_option maxHeartbeats 1000000
namespace G
open PySem PySem.Spec PyProof.Rows L2

/-- a def's promise: it does what call says -/
def spC (q : Pc) (np : Nat) (call : Call) (f : Nat) : Sp := fun vs H Q E => vs.length = np ∧ ∃ F A S ds, StR q.g F A S H ∧ RepL q.g F A vs ds ∧ PostOf q (RepX q.g false) E F A H (call f ds S) Q
/-- what a call of f may lean on -/
structure FnAt (X : Cx) (q : Pc) (call : Call) (k f np : Nat) : Prop where
  ok : ∃ (fd : FuncData) (ps : List Str), ps.length = np ∧ FnOk X.prog X.w X.K X.mg X.base (L2.CX X.prog X.w) k (q.g.fa f) fd ps (spC q np call f) ∧ Binds X.K fd ps []
  len : ∀ ds S, call f ds S ≠ .no → ds.length = np
  kw : ∃ fd : FuncData, FnOk X.prog X.w X.K X.mg X.base (L2.CX X.prog X.w) k (q.g.fa f) fd (q.pn f) (spC q np call f) ∧ ∀ n ks p, kwOk (q.pn f) n ks p = true → KBn X.K fd (q.pn f) n ks (gP p) (gP p)
theorem call_len {q : Pc} {call : Call} {f np : Nat} {W : XK} {F : Hp} {A : List Addr} {H : Hp} {ds : List D} {S : Store} {vs : List V} {Q : VK} (hl : ∀ ds S, call f ds S ≠ .no → ds.length = np) (rl : RepL q.g F A vs ds) (po : PostOf q (RepX q.g false) W F A H (call f ds S) Q) : vs.length = np := by
  rw [rl.len]
  exact hl ds S fun z => by rw [z] at po; exact po
theorem passes {X : Cx} {W : XK} (tk : Takes X fun c d _ H => W c d H) : Passes (L2.CX X.prog X.w) X W := fun pins σ H s e s' I c => passAt tk σ pins H s e s' I c
section
variable {X : Cx} {q : Pc} {ev : Ev} {W : XK} {m : Md} {a b c x : Expr} {e e1 e2 e3 : E} {es : List E} {pos p : Pos} {k f np : Nat}
theorem PostOf.up {F : Hp} {A : List Addr} {H H0 : Hp} {o : Out D} {Q : VK} {b : Bool} (po : PostOf q (RepM q.g H0 (.x b)) W F A H o Q) : PostOf q (RepX q.g false) W F A H o Q := po.imp (fun _ _ _ _ _ h => RepX.up h) fun _ _ h => h
theorem s_call {y : Str} {xs : List Expr} {b' : Bool} (Fa : FnAt X q ev.call k f np) (hr : Room k X.A) (tk : Takes X fun c d _ H => W c d H) (hg : Gl X y) (hm : X.mg y = some (.ref (q.g.fa f))) (hk : PySem.W.keepIn X.K (.ref (q.g.fa f)) = true) (hd : (y == ("__debug__" : Str)) = false)
    (hs : xs.all nstar = true) (he : xs.length = es.length) (ha : PA X xs (tA q ev W false es)) : PE X (.Call (.Name y p) xs [] pos) (tE q ev W (.x b') (.call f es)) := by
  obtain ⟨fd, ps, hl, FO, hb⟩ := Fa.ok
  have fin : ∀ {σ : L2.St} {H : Hp} {Q : VK}, tE q ev W (.x b') (.call f es) σ H Q → tA q ev W false es σ H fun vs H1 => spC q np ev.call f (vs ++ []) H1 Q W := by
    rintro σ H Q ⟨F, A, ρ, S, st, en, po⟩
    simp only [evalE] at po
    refine ⟨F, A, ρ, S, st, en, PostOf.bind po fun vs F1 A1 H1 ds S1 _ s1 st1 r1 po => ?_⟩
    rw [List.append_nil]
    exact ⟨call_len Fa.len r1.no po.up, F1, A1, S1, ds, st1, r1.no, po.up⟩
  cases xs with
  | nil =>
    cases es with
    | cons _ _ => cases he
    | nil =>
    refine pe_imp (pe_call0 (dvs := []) FO hr hg hm hk hb .nil (passes tk) hd) fun σ H Q ⟨F, A, ρ, S, st, en, po⟩ => ?_
    simp only [evalE, evalEs] at po
    have po : PostOf q (RepX q.g false) W F A H (ev.call f [] S) Q := PostOf.up po
    exact ⟨call_len (vs := []) (ds := []) Fa.len trivial po, F, A, S, [], st, trivial, po⟩
  | cons e0 xs =>
    have hs2 : nstar e0 = true ∧ xs.all nstar = true := by simpa using hs
    exact pe_imp (pe_call (dvs := []) FO hr hg hm hk hb .nil (passes tk) ha hd (starEach_cons hs2.1) (back_any hs2.2)) fun σ H Q h => fin h

/-! ### objects -/
theorem objOf_at {S : Store} {cc : Nat} {d : D} {fs : List (Str × D)} (h : objOf S cc d = some fs) : ∃ n, d = .ref n ∧ S[n]? = some (.obj cc fs) := by
  unfold objOf at h
  split at h
  · split at h
    · rename_i h1
      split at h
      · rename_i h2; cases h; subst h2; exact ⟨_, rfl, h1⟩
      · cases h
    · cases h
  · cases h
theorem rx_obj {b' : Bool} {F : Hp} {A : List Addr} {S : Store} {H : Hp} {v : V} {d : D} {cc : Nat} {fs : List (Str × D)} (st : StR q.g F A S H) (r : RepX q.g b' F A H v d) (h : objOf S cc d = some fs) :
    ∃ a dx fs', v = .ref a ∧ H a = some (.ins (q.g.ca cc) dx fs') ∧ fs'.map (·.1) = fs.map (·.1) ∧ RepL q.g F A (fs'.map (·.2)) (fs.map (·.2)) := by
  obtain ⟨n, rfl, hs⟩ := objOf_at h
  obtain ⟨a, rfl, _, dx, fs', h1, h2, h3⟩ := rx_ref st r hs
  exact ⟨a, dx, fs', rfl, h1, h2, h3⟩
theorem fs_lookup {F : Hp} {A : List Addr} {f : Str} : ∀ {fs' : List (Str × V)} {fs : List (Str × D)}, fs'.map (·.1) = fs.map (·.1) → RepL q.g F A (fs'.map (·.2)) (fs.map (·.2)) → RepO q.g F A (fs'.lookup f) (fs.lookup f)
  | [], [], _, _ => trivial
  | [], _ :: _, h, _ => by cases h
  | _ :: _, [], h, _ => by cases h
  | (g, v) :: fs', (g', d) :: fs, h, r => by
    have e : g = g' := by simpa using (List.cons.inj h).1
    subst e
    rw [List.lookup_cons, List.lookup_cons]
    by_cases z : f == g
    · rw [z]; exact r.1
    · have z' : (f == g) = false := by simpa using z
      rw [z']; exact fs_lookup (List.cons.inj h).2 r.2
theorem s_fld {cc : Nat} {f : Str} (hm : m.nn = true) (hK : X.K = q.g.K) (hc : Cls q.g.K (q.g.ca cc)) (hn : NoAttr q.g.K (q.g.ca cc) f) (ho : ncall a = true) (ha : PE X a (tE q ev W (.x false) e1)) : PE X (.Attribute a f pos) (tE q ev W m (.fld cc f e1)) := by
  refine pe_imp (pe_fld ha (base_of ho)) fun σ H Q ⟨F, A, ρ, S, st, en, po⟩ => ?_
  simp only [evalE] at po
  refine ⟨F, A, ρ, S, st, en, PostOf.bind po fun v F1 A1 H1 d S1 _ s1 st1 r1 po => ?_⟩
  obtain ⟨res, hr, po⟩ := PostOf.of po
  rw [Option.bind_eq_some_iff] at hr
  obtain ⟨fs, h1, h2⟩ := hr
  obtain ⟨a, dx, fs', rfl, ha, hf, rl⟩ := rx_obj st1 r1 h1
  have ro := fs_lookup (f := f) hf rl
  rw [h2] at ro
  cases hv : fs'.lookup f with
  | none => rw [hv] at ro; exact ro.elim
  | some v =>
    rw [hv] at ro
    exact ⟨a, _, dx, fs', v, rfl, ha, by rw [hK]; exact hc, by rw [hK]; exact hn, hv, po v F1 A1 H1 Step.refl st1 (.of hm ro)⟩
theorem s_meth {cc : Nat} {mn : Str} {p1 : Pos} {xs : List Expr} {b' : Bool} (Fa : FnAt X q ev.call k f np) (hr : Room k X.A) (tk : Takes X fun c d _ H => W c d H) (hK : X.K = q.g.K) (hc : Cls q.g.K (q.g.ca cc)) (hme : Meth q.g.K (q.g.ca cc) mn (q.g.fa f))
    (ho : ncall a = true) (hl : (p1.endLine == pos.line) = true) (hs : xs.all nstar = true) (hn : xs.length < 20) (he : xs.length = es.length) (ha : PE X a (tE q ev W (.x false) e1)) (hx : PA X xs (tA q ev W false es)) :
    PE X (.Call (.Attribute a mn p1) xs [] pos) (tE q ev W (.x b') (.meth cc mn f e1 es)) := by
  obtain ⟨fd, ps, hlen, FO, hb⟩ := Fa.ok
  rw [← hK] at hc hme
  have key : ∀ {σ : L2.St} {H : Hp} {Q : VK}, tE q ev W (.x b') (.meth cc mn f e1 es) σ H Q → tE q ev W (.x false) e1 σ H fun x H1 => ∃ a dx fs, x = .ref a ∧ H1 a = some (.ins (q.g.ca cc) dx fs) ∧ fs.lookup mn = none ∧ tA q ev W false es σ H1 fun vs H2 => spC q np ev.call f (x :: (vs ++ [])) H2 Q W := by
    rintro σ H Q ⟨F, A, ρ, S, st, en, po⟩
    simp only [evalE] at po
    refine ⟨F, A, ρ, S, st, en, PostOf.bind po fun v F1 A1 H1 d S1 _ s1 st1 r1 po => ?_⟩
    cases ho : objOf S1 cc d with
    | none => simp only [ho, Option.bind_none] at po; exact po.elim
    | some fs =>
      simp only [ho, Option.bind_some] at po
      cases hlk : fs.lookup mn with
      | some _ => simp only [hlk, Option.isSome_some, if_true] at po; exact po.elim
      | none =>
        simp only [hlk, Option.isSome_none, Bool.false_eq_true, if_false] at po
        obtain ⟨a, dx, fs', rfl, ha, hf, rl⟩ := rx_obj st1 r1 ho
        have ro := fs_lookup (f := mn) hf rl
        rw [hlk] at ro
        have hv : fs'.lookup mn = none := by
          cases hv : fs'.lookup mn with
          | none => rfl
          | some v => rw [hv] at ro; exact ro.elim
        refine ⟨a, dx, fs', rfl, ha, hv, F1, A1, ρ, S1, st1, en.step s1, PostOf.bind po fun vs F2 A2 H2 ds S2 _ s2 st2 r2 po => ?_⟩
        rw [List.append_nil]
        have rl2 : RepL q.g F2 A2 (.ref a :: vs) (d :: ds) := ⟨(r1.step s2).no, r2.no⟩
        exact ⟨call_len Fa.len rl2 po.up, F2, A2, S2, d :: ds, st2, rl2, po.up⟩
  cases xs with
  | nil =>
    cases es with
    | cons _ _ => cases he
    | nil =>
    refine pe_imp (pe_meth0 (pl := (do return (← importBound a X.env).getD true)) (dvs := []) ha hc hme FO hr hb .nil (passes tk) (eval_meth ho hl hs hn)) fun σ H Q h => ?_
    obtain ⟨F, A, ρ, S, st, en, po⟩ := key h
    refine ⟨F, A, ρ, S, st, en, po.imp (fun _ _ _ _ _ h => h) fun x H1 ⟨a, dx, fs, h1, h2, h3, F', A', ρ', S', st', en', po'⟩ => ⟨a, dx, fs, h1, h2, h3, ?_⟩⟩
    simp only [evalEs] at po'
    exact po' [] F' A' H1 Step.refl st' trivial
  | cons e0 xs =>
    have hs2 : nstar e0 = true ∧ xs.all nstar = true := by simpa using hs
    exact pe_imp (pe_meth (pl := (do return (← importBound a X.env).getD true)) (dvs := []) ha hc hme FO hr hb .nil (passes tk) hx (starEach_cons hs2.1) (back_any hs2.2) (eval_meth ho hl hs hn)) fun σ H Q h => key h
theorem PostOf.shut {α β : Type} {R : Hp → List Addr → Hp → β → α → Prop} {W' : XK} {F : Hp} {A : List Addr} {H : Hp} {o : Out α} {Q : β → Hp → Prop} (po : PostOf q R W F A H o.shut Q) : PostOf q R W' F A H o Q := by
  cases o with
  | ok a S => exact po
  | ex c d S => exact po.elim
  | no => exact po
theorem s_prop {cc : Nat} {f : Nat} {fnm : Str} {pa : Addr} {b' : Bool} (Fa : FnAt X q ev.call k f np) (hr : Room (k + 1) X.A) (hK : X.K = q.g.K) (hc : Cls q.g.K (q.g.ca cc)) (hp : PropOf q.g.K (q.g.ca cc) fnm pa (q.g.fa f)) (ho : ncall a = true) (ha : PE X a (tE q ev W (.x false) e1)) :
    PE X (.Attribute a fnm pos) (tE q ev W (.x b') (.prop cc f e1)) := by
  obtain ⟨fd, ps, hlen, FO, hb⟩ := Fa.ok
  rw [← hK] at hc hp
  have hx : Passes (L2.CX X.prog X.w) X.nox (fun _ _ _ => False) := fun pins σ H s e s' I c => by
    obtain ⟨_, _, _, _, _, _, _, _, _, _, _, _, z⟩ := c
    exact z
  refine pe_imp (pe_prop (dvs := []) ha hc hp FO hr hb .nil hx (base_of ho)) fun σ H Q ⟨F, A, ρ, S, st, en, po⟩ => ?_
  simp only [evalE] at po
  refine ⟨F, A, ρ, S, st, en, PostOf.bind po fun v F1 A1 H1 d S1 _ s1 st1 r1 po => ?_⟩
  cases ho : objOf S1 cc d with
  | none => simp only [ho] at po; exact po.elim
  | some fs =>
    simp only [ho] at po
    obtain ⟨a, dx, fs', rfl, ha, hf, rl⟩ := rx_obj st1 r1 ho
    have rl2 : RepL q.g F1 A1 [.ref a] [d] := ⟨r1.no, trivial⟩
    have po2 : PostOf q (RepX q.g false) (fun _ _ _ => False) F1 A1 H1 (ev.call f [d] S1) Q := PostOf.up (PostOf.shut po)
    exact ⟨a, dx, fs', rfl, ha, call_len Fa.len rl2 po2, F1, A1, S1, [d], st1, rl2, po2⟩
theorem s_new {cc : Nat} {y : Str} {xs : List Expr} {b' : Bool} (Fa : FnAt X q ev.call k f np) (hr : Room (k + 1) X.A) (tk : Takes X fun c d _ H => W c d H) (hK : X.K = q.g.K) (M : Mk q.g.K (q.g.ca cc) (q.g.fa f)) (hg : Gl X y) (hm : X.mg y = some (.ref (q.g.ca cc))) (hd : (y == ("__debug__" : Str)) = false)
    (hs : (a :: xs).all nstar = true) (ha : PA X (a :: xs) (tA q ev W false es)) : PE X (.Call (.Name y p) (a :: xs) [] pos) (tE q ev W (.x b') (.new cc f es)) := by
  obtain ⟨fd, ps, hlen, FO, hb⟩ := Fa.ok
  rw [← hK] at M
  have hs2 : nstar a = true ∧ xs.all nstar = true := by simpa using hs
  refine pe_imp (pe_make (dvs := []) M FO hr hg hm hb .nil (passes tk) ha hd (starEach_cons hs2.1) (back_any hs2.2)) fun σ H Q ⟨F, A, ρ, S, st, en, po⟩ => ?_
  simp only [evalE] at po
  refine ⟨F, A, ρ, S, st, en, PostOf.bind po fun vs F1 A1 H1 ds S1 _ s1 st1 r1 po => ?_⟩
  intro x dx hx hdx hne
  rw [List.append_nil]
  obtain ⟨s2, st2, hf2, ha2⟩ := st1.own (o := .own x) hdx
  have hx2 : upd H1 dx (.own x) x = none := by rw [upd_ne (Ne.symm hne)]; exact hx
  obtain ⟨s3, st3⟩ := st2.cellNew (c := .obj cc []) (o := .ins (q.g.ca cc) dx []) hx2 ⟨dx, [], upd_same, rfl, trivial⟩
  have rx : Rep q.g F1 (A1 ++ [x]) (.ref x) (.ref S1.length) := ⟨x, rfl, by rw [← st1.len, List.getElem?_append_right (Nat.le_refl _), Nat.sub_self]; rfl⟩
  have rl : RepL q.g F1 (A1 ++ [x]) (.ref x :: vs) (.ref S1.length :: ds) := ⟨rx, r1.no.mono (Le.refl _) (List.prefix_append _ _)⟩
  have po := PostOf.step (s2.trans s3) po
  have po2 : PostOf q (RepX q.g false) W F1 (A1 ++ [x]) (upd (upd H1 dx (.own x)) x (.ins (q.g.ca cc) dx [])) (ev.call f (.ref S1.length :: ds) (S1 ++ [.obj cc []])) (fun v H2 => v = .non ∧ Q (.ref x) H2) := by
    refine PostOf.bind po fun v F4 A4 H4 d S4 _ s4 st4 r4 po => ?_
    cases d with
    | non => exact ⟨rx_non r4, po (.ref x) F4 A4 H4 Step.refl st4 (.inl (rx.mono s4.le s4.px))⟩
    | _ => exact po.elim
  exact ⟨call_len Fa.len rl po2, F1, A1 ++ [x], S1 ++ [.obj cc []], _, st3, rl, po2⟩
end
end G
set_option maxHeartbeats 1000000
namespace G
open PySem PySem.Spec PyProof.Rows L2
/-! ### calls by names -/
def kwNames : List Keyword → List (Option Str)
  | [] => []
  | ⟨n, _, _⟩ :: r => n :: kwNames r
theorem kw_all {pos : Pos} {env : Env} : ∀ {kws : List Keyword} {ks : List Str}, kwNames kws = ks.map some → (backToKw pos (keywordEach kws env)).all (·.1.isSome) = true ∧ (backToKw pos (keywordEach kws env)).filterMap (·.1) = ks ∧ (backToKw pos (keywordEach kws env)).any (·.1.isNone) = false ∧ (backToKw pos (keywordEach kws env)).length = ks.length
  | [], [], _ => ⟨rfl, rfl, rfl, rfl⟩
  | [], _ :: _, h => by cases h
  | ⟨_, _, _⟩ :: _, [], h => by simp [kwNames] at h
  | ⟨n, e, p⟩ :: kws, k :: ks, h => by
    simp only [kwNames, List.map_cons, List.cons.injEq] at h
    obtain ⟨rfl, h⟩ := h
    obtain ⟨h1, h2, h3, h4⟩ := kw_all (pos := pos) (env := env) h
    refine ⟨?_, ?_, ?_, ?_⟩
    · show (true && (backToKw pos (keywordEach kws env)).all (·.1.isSome)) = true
      rw [h1]; rfl
    · show k :: (backToKw pos (keywordEach kws env)).filterMap (·.1) = _
      rw [h2]
    · show (false || (backToKw pos (keywordEach kws env)).any (·.1.isNone)) = false
      rw [h3]; rfl
    · show (backToKw pos (keywordEach kws env)).length + 1 = _
      rw [h4]; rfl
theorem eval_methK {o : Expr} {m : Str} {apos pos : Pos} {kws : List Keyword} {ks : List Str} {env : Env} (ho : ncall o = true) (hl : (apos.endLine == pos.line) = true) (hk : kwNames kws = ks.map some) (hn : kws.length < 20) :
    eval (.Call (.Attribute o m apos) [] kws pos) env = (do
      let ov ← eval o env
      standAt apos.atName
      let (f, first) ← holding [ov] (getMethod ov m (do return (← importBound o env).getD true))
      callWith pos f first (backTo pos (starEach [] env)) (backToKw pos (keywordEach kws env))) := by
  rw [arm_eval_Call, base_of ho]
  have hf : methodCallForm (([] : List Expr).length + kws.length) (backTo pos (starEach [] env)) (backToKw pos (keywordEach kws env)) = true := by
    unfold methodCallForm
    have := (kw_all (pos := pos) (env := env) hk).1
    rw [this]
    simp [starEach, backTo]
    split <;> omega
  unfold methodCall
  rw [hf]
  unfold calleeOf methodCallPos
  simp only [hl, if_true, Bool.not_true, Bool.false_or]
  simp
section
variable {X : Cx} {CX : CXT} {k n : Nat} {f C : Addr} {fd : FuncData} {ps ks : List Str} {sp : Sp} {E : XK} {x m : Str} {p pos apos : Pos} {o : Expr} {kws : List Keyword} {ta : TE} {tk : TA} {g : List Value → List Value → List Value} {gV : List V → List V → List V}
theorem pe_callN0 (F : FnOk X.prog X.w X.K X.mg X.base CX k f fd ps sp) (hr : Room k X.A) (hg : Gl X x) (hm : X.mg x = some (.ref f)) (hk : PySem.W.keepIn X.K (.ref f) = true) (hb : KBn X.K fd ps 0 ks g gV) (hx : Passes CX X E)
    (hkw : PK X kws tk) (hn : kwNames kws = ks.map some) (hdb : (x == ("__debug__" : Str)) = false) :
    PE X (.Call (.Name x p) [] kws pos) (fun σ H Q => tk σ H fun zs H2 => zs.length = ks.length ∧ sp (gV [] zs) H2 Q E) := by
  refine ⟨fun pins s σ H Q I h => ?_⟩
  obtain ⟨a1, a2, a3, _⟩ := kw_all (pos := pos) (env := X.env) hn
  refine wpAny_Call_Name_kw (ld_glob I hg hm ?_ hdb)
  refine PySem.W.callWith_KW0 (h₀ := X.base) I.ok.mod.kin hk a1 (thn (hkw.run pos pins s σ H _ I h) fun ws s2 ⟨zs, H2, I2, rz, l2, q2⟩ => ⟨I2.kIn, ?_⟩) (by rw [a3]; rfl)
  rw [a2]
  exact run_fnN (us := []) (vs := []) F hr hb hx I2 .nil rz rfl l2 q2
theorem pe_methK {pl : Sem Bool} (he : PE X o ta) (c : Cls X.K C) (hm : Meth X.K C m f) (F : FnOk X.prog X.w X.K X.mg X.base CX k f fd ps sp) (hr : Room k X.A) (hb : KBn X.K fd ps 1 ks g gV) (hx : Passes CX X E) (hkw : PK X kws tk) (hn : kwNames kws = ks.map some)
    (ht : eval (.Call (.Attribute o m apos) [] kws pos) X.env = (do
      let ov ← eval o X.env
      standAt apos.atName
      let (f, first) ← holding [ov] (getMethod ov m pl)
      callWith pos f first (backTo pos (starEach [] X.env)) (backToKw pos (keywordEach kws X.env)))) :
    PE X (.Call (.Attribute o m apos) [] kws pos) (fun σ H Q => ta σ H fun x H1 => ∃ a dx fs, x = .ref a ∧ H1 a = some (.ins C dx fs) ∧ fs.lookup m = none ∧ tk σ H1 fun zs H2 => zs.length = ks.length ∧ sp (gV [.ref a] zs) H2 Q E) := by
  refine ⟨fun pins s σ H Q I h => ?_⟩
  obtain ⟨a1, a2, a3, _⟩ := kw_all (pos := pos) (env := X.env) hn
  refine PySem.W.methodCall_KW (pl := pl) (thn (he.run pins s σ H _ I h) fun u s1 ⟨x, H1, I1, rx, a, dx, fs, ex, ea, l, q⟩ => ?_) ht
  subst ex
  obtain rfl : u = Value.ref a := rx
  refine getmeth_ok I1 ea c hm l ?_
  refine PySem.W.callWith_KW0 (first := [.ref a]) (h₀ := X.base) I.ok.mod.kin hm.kp a1 (thn (hkw.run pos pins s1 σ H1 _ I1 q) fun ws s2 ⟨zs, H2, I2, rz, l2, q2⟩ => ⟨I2.kIn, ?_⟩) (by rw [a3]; rfl)
  rw [a2]
  exact run_fnN (us := [.ref a]) (vs := [.ref a]) F hr hb hx I2 (.cons rfl .nil) rz rfl l2 q2
theorem pe_makeN0 (M : Mk X.K C f) (F : FnOk X.prog X.w X.K X.mg X.base CX k f fd ps sp) (hr : Room (k + 1) X.A) (hg : Gl X x) (hm : X.mg x = some (.ref C)) (hb : KBn X.K fd ps 1 ks g gV) (hx : Passes CX X E)
    (hkw : PK X kws tk) (hn : kwNames kws = ks.map some) (hdb : (x == ("__debug__" : Str)) = false) :
    PE X (.Call (.Name x p) [] kws pos) (fun σ H Q => tk σ H fun zs H2 => zs.length = ks.length ∧ ∀ y dx, H2 y = none → H2 dx = none → dx ≠ y → sp (gV [.ref y] zs) (upd (upd H2 dx (.own y)) y (.ins C dx [])) (fun v H3 => v = .non ∧ Q (.ref y) H3) E) := by
  refine ⟨fun pins s σ H Q I h => ?_⟩
  obtain ⟨a1, a2, a3, _⟩ := kw_all (pos := pos) (env := X.env) hn
  refine wpAny_Call_Name_kw (ld_glob I hg hm ?_ hdb)
  refine PySem.W.callWith_KW0 (h₀ := X.base) I.ok.mod.kin M.kp a1 (thn (hkw.run pos pins s σ H _ I h) fun ws s2 ⟨zs, H2, I2, rz, l2, q2⟩ => ⟨I2.kIn, ?_⟩) (by rw [a3]; rfl)
  rw [a2]
  exact run_makeN (n := 0) (us := []) (vs := []) M F hr hb hx I2 .nil rz rfl l2 q2
end
section
variable {X : Cx} {q : Pc} {ev : Ev} {W : XK} {m : Md} {a b c x : Expr} {e e1 e2 e3 : E} {es : List E} {pos p : Pos} {k f np : Nat} {kws : List Keyword} {ks : List Str} {pm : List Nat}
theorem k_nil : PK X [] (tA q ev W false []) := ⟨fun pos pins s σ H Q I ⟨F, A, ρ, S, st, en, po⟩ => pk_nil.run pos pins s σ H Q I (by
  simp only [evalEs] at po
  exact po [] F A H Step.refl st trivial)⟩
theorem k_cons {nm : Option Str} {kp : Pos} (h0 : e1.star? = false) (ha : PE X a (tE q ev W (.x false) e1)) (hr : PK X kws (tA q ev W false es)) : PK X (⟨nm, a, kp⟩ :: kws) (tA q ev W false (e1 :: es)) := ⟨fun pos pins s σ H Q I ⟨F, A, ρ, S, st, en, po⟩ => (pk_cons ha hr).run pos pins s σ H Q I (by
  rw [evalEs_cons h0] at po
  refine ⟨F, A, ρ, S, st, en, PostOf.bind po fun v F1 A1 H1 d S1 _ s1 st1 r1 po => ?_⟩
  refine ⟨F1, A1, ρ, S1, st1, en.step s1, PostOf.bind po fun w F2 A2 H2 d2 S2 _ s2 st2 r2 po => ?_⟩
  exact po _ F2 A2 H2 Step.refl st2 ⟨RepX.step s2 r1, r2⟩)⟩
theorem RepL.perm {g : Gc} {F : Hp} {A : List Addr} {vs : List V} {ds : List D} (r : RepL g F A vs ds) : ∀ pm : List Nat, RepL g F A (pm.filterMap fun i => vs[i]?) (permD pm ds)
  | [] => trivial
  | i :: pm => by
    have ih := RepL.perm r pm
    unfold permD at ih ⊢
    rw [List.filterMap_cons, List.filterMap_cons]
    cases hv : vs[i]? with
    | none =>
      have : ds[i]? = none := by
        cases hd : ds[i]? with
        | none => rfl
        | some d => obtain ⟨v, e, _⟩ := RepL.get r hd; rw [hv] at e; cases e
      rw [this]; exact ih
    | some v =>
      obtain ⟨d, e, rv⟩ := RepL.get' r hv
      rw [e]; exact ⟨rv, ih⟩
theorem s_callK {y : Str} {b' : Bool} (Fa : FnAt X q ev.call k f np) (hr : Room k X.A) (tk : Takes X fun c d _ H => W c d H) (hg : Gl X y) (hm : X.mg y = some (.ref (q.g.fa f))) (hk : PySem.W.keepIn X.K (.ref (q.g.fa f)) = true) (hd : (y == ("__debug__" : Str)) = false)
    (hn : kwNames kws = ks.map some) (ho : kwOk (q.pn f) 0 ks pm = true) (ha : PK X kws (tA q ev W false es)) : PE X (.Call (.Name y p) [] kws pos) (tE q ev W (.x b') (.callK f es ks pm)) := by
  obtain ⟨fd, FO, hb⟩ := Fa.kw
  refine pe_imp (pe_callN0 FO hr hg hm hk (hb 0 ks pm ho) (passes tk) ha hn hd) fun σ H Q ⟨F, A, ρ, S, st, en, po⟩ => ?_
  simp only [evalE] at po
  refine ⟨F, A, ρ, S, st, en, PostOf.bind po fun vs F1 A1 H1 ds S1 _ s1 st1 r1 po => ?_⟩
  have rl := r1.no
  split at po
  · rename_i hl
    have rp := RepL.perm rl pm
    refine ⟨by rw [rl.len]; exact hl, ?_⟩
    unfold gP
    rw [List.nil_append]
    exact ⟨call_len Fa.len rp po.up, F1, A1, S1, _, st1, rp, po.up⟩
  · exact po.elim
theorem s_methK {cc : Nat} {mn : Str} {p1 : Pos} {b' : Bool} (Fa : FnAt X q ev.call k f np) (hr : Room k X.A) (tk : Takes X fun c d _ H => W c d H) (hK : X.K = q.g.K) (hc : Cls q.g.K (q.g.ca cc)) (hme : Meth q.g.K (q.g.ca cc) mn (q.g.fa f))
    (ho : ncall a = true) (hl : (p1.endLine == pos.line) = true) (hn : kwNames kws = ks.map some) (hn2 : kws.length < 20) (hko : kwOk (q.pn f) 1 ks pm = true) (ha : PE X a (tE q ev W (.x false) e1)) (hx : PK X kws (tA q ev W false es)) :
    PE X (.Call (.Attribute a mn p1) [] kws pos) (tE q ev W (.x b') (.methK cc mn f e1 es ks pm)) := by
  obtain ⟨fd, FO, hb⟩ := Fa.kw
  rw [← hK] at hc hme
  refine pe_imp (pe_methK (pl := (do return (← importBound a X.env).getD true)) ha hc hme FO hr (hb 1 ks pm hko) (passes tk) hx hn (eval_methK ho hl hn hn2)) fun σ H Q ⟨F, A, ρ, S, st, en, po⟩ => ?_
  simp only [evalE] at po
  refine ⟨F, A, ρ, S, st, en, PostOf.bind po fun v F1 A1 H1 d S1 _ s1 st1 r1 po => ?_⟩
  cases ho : objOf S1 cc d with
  | none => simp only [ho, Option.bind_none] at po; exact po.elim
  | some fs =>
    simp only [ho, Option.bind_some] at po
    cases hlk : fs.lookup mn with
    | some _ => simp only [hlk, Option.isSome_some, if_true] at po; exact po.elim
    | none =>
      simp only [hlk, Option.isSome_none, Bool.false_eq_true, if_false] at po
      obtain ⟨a, dx, fs', rfl, ha, hf, rl⟩ := rx_obj st1 r1 ho
      have ro := fs_lookup (f := mn) hf rl
      rw [hlk] at ro
      have hv : fs'.lookup mn = none := by
        cases hv : fs'.lookup mn with
        | none => rfl
        | some v => rw [hv] at ro; exact ro.elim
      refine ⟨a, dx, fs', rfl, ha, hv, F1, A1, ρ, S1, st1, en.step s1, PostOf.bind po fun vs F2 A2 H2 ds S2 _ s2 st2 r2 po => ?_⟩
      have rl0 := r2.no
      split at po
      · rename_i hl
        have rp : RepL q.g F2 A2 (.ref a :: pm.filterMap fun i => vs[i]?) (d :: permD pm ds) := ⟨(r1.step s2).no, RepL.perm rl0 pm⟩
        refine ⟨by rw [rl0.len]; exact hl, ?_⟩
        exact ⟨call_len Fa.len rp po.up, F2, A2, S2, _, st2, rp, po.up⟩
      · exact po.elim
theorem s_newK {cc : Nat} {y : Str} {b' : Bool} (Fa : FnAt X q ev.call k f np) (hr : Room (k + 1) X.A) (tk : Takes X fun c d _ H => W c d H) (hK : X.K = q.g.K) (M : Mk q.g.K (q.g.ca cc) (q.g.fa f)) (hg : Gl X y) (hm : X.mg y = some (.ref (q.g.ca cc))) (hd : (y == ("__debug__" : Str)) = false)
    (hn : kwNames kws = ks.map some) (hko : kwOk (q.pn f) 1 ks pm = true) (ha : PK X kws (tA q ev W false es)) : PE X (.Call (.Name y p) [] kws pos) (tE q ev W (.x b') (.newK cc f es ks pm)) := by
  obtain ⟨fd, FO, hb⟩ := Fa.kw
  rw [← hK] at M
  refine pe_imp (pe_makeN0 M FO hr hg hm (hb 1 ks pm hko) (passes tk) ha hn hd) fun σ H Q ⟨F, A, ρ, S, st, en, po⟩ => ?_
  simp only [evalE] at po
  refine ⟨F, A, ρ, S, st, en, PostOf.bind po fun vs F1 A1 H1 ds S1 _ s1 st1 r1 po => ?_⟩
  have rl0 := r1.no
  split at po
  · rename_i hl
    refine ⟨by rw [rl0.len]; exact hl, ?_⟩
    intro x dx hx hdx hne
    obtain ⟨s2, st2, hf2, ha2⟩ := st1.own (o := .own x) hdx
    have hx2 : upd H1 dx (.own x) x = none := by rw [upd_ne (Ne.symm hne)]; exact hx
    obtain ⟨s3, st3⟩ := st2.cellNew (c := .obj cc []) (o := .ins (q.g.ca cc) dx []) hx2 ⟨dx, [], upd_same, rfl, trivial⟩
    have rx : Rep q.g F1 (A1 ++ [x]) (.ref x) (.ref S1.length) := ⟨x, rfl, by rw [← st1.len, List.getElem?_append_right (Nat.le_refl _), Nat.sub_self]; rfl⟩
    have rl : RepL q.g F1 (A1 ++ [x]) (.ref x :: pm.filterMap fun i => vs[i]?) (.ref S1.length :: permD pm ds) := ⟨rx, (RepL.perm rl0 pm).mono (Le.refl _) (List.prefix_append _ _)⟩
    have po := PostOf.step (s2.trans s3) po
    have po2 : PostOf q (RepX q.g false) W F1 (A1 ++ [x]) (upd (upd H1 dx (.own x)) x (.ins (q.g.ca cc) dx [])) (ev.call f (.ref S1.length :: permD pm ds) (S1 ++ [.obj cc []])) (fun v H2 => v = .non ∧ Q (.ref x) H2) := by
      refine PostOf.bind po fun v F4 A4 H4 d S4 _ s4 st4 r4 po => ?_
      cases d with
      | non => exact ⟨rx_non r4, po (.ref x) F4 A4 H4 Step.refl st4 (.inl (rx.mono s4.le s4.px))⟩
      | _ => exact po.elim
    exact ⟨call_len Fa.len rl po2, F1, A1 ++ [x], S1 ++ [.obj cc []], _, st3, rl, po2⟩
  · exact po.elim
end
end G
set_option maxHeartbeats 1000000
namespace G
open PySem PySem.Spec PyProof.Rows L2

def Rel (b : Bool) (F : Hp) (A : List Addr) (H : Hp) (F' : Hp) (A' : List Addr) (H' : Hp) : Prop := Le F F' ∧ A <+: A' ∧ (b = true → Step F A H F' A' H')
theorem Step.rel {b : Bool} {F F' : Hp} {A A' : List Addr} {H H' : Hp} (s : Step F A H F' A' H') : Rel b F A H F' A' H' := ⟨s.le, s.px, fun _ => s⟩
/-- J gives what xs are, one by one -/
structure ItR (g : Gc) (b : Bool) (F : Hp) (A : List Addr) (H : Hp) (J : It) (xs : List D) : Prop where
  out : ∃ (Gd : Hp → Prop) (Y : Nat → Hp → V → Hp → Prop), Walk J xs.length Gd Y ∧ ∀ F' A' S' H', Rel b F A H F' A' H' → StR g F' A' S' H' → Gd H' ∧ ∀ i v H2, i < xs.length → Y i H' v H2 → ∃ d F2, xs[i]? = some d ∧ Step F' A' H' F2 A' H2 ∧ StR g F2 A' S' H2 ∧ Rep g F2 A' v d
section
variable {g : Gc} {b : Bool} {F : Hp} {A : List Addr} {S : Store} {H : Hp}
theorem Rep.seqI {d : D} {v : V} {t : Bool} {xs : List D} (r : RepX g b F A H v d) (h : seqI d = some (t, xs)) :
    ∃ a vs, v = .ref a ∧ RepL g F A vs xs ∧ ∀ F' A' S' H', Rel b F A H F' A' H' → StR g F' A' S' H' → (if t = true then SqT g.K H' a vs else SqL g.K H' a vs) := by
  cases d with
  | tup ys =>
    cases h
    rcases r with r | ⟨_, p, _, _, ⟨xs, vs, e, _⟩ | ⟨t, ks, ws, o, vs, e, _⟩⟩
    · obtain ⟨a, vs, e, f, r⟩ := r
      exact ⟨a, vs, e, r, fun F' A' S' H' l st => SqT.of (st.fin.tup (l.1 _ _ f))⟩
    · cases e
    · cases e
  | kt ys =>
    cases h
    rcases r with r | ⟨_, p, _, _, ⟨xs, vs, e, _⟩ | ⟨t, ks, ws, o, vs, e, _⟩⟩
    · obtain ⟨a, vs, e, f, r⟩ := r
      exact ⟨a, vs, e, r, fun F' A' S' H' l st => st.fin.sqT (l.1.sqT f)⟩
    · cases e
    · cases e
  | lst ys =>
    cases h
    rcases r with r | ⟨hb, p, e0, hn, ⟨xs, vs, e, hp, r⟩ | ⟨t, ks, ws, o, vs, e, _⟩⟩
    · obtain ⟨a, vs, e, f, r⟩ := r
      exact ⟨a, vs, e, r, fun F' A' S' H' l st => SqL.of (st.fin.lst (l.1 _ _ f))⟩
    · cases e
      exact ⟨p, vs, e0, r, fun F' A' S' H' l st => SqL.of ((l.2.2 hb).keep p _ hp hn)⟩
    · cases e
  | kl ys =>
    cases h
    rcases r with r | ⟨_, p, _, _, ⟨xs, vs, e, _⟩ | ⟨t, ks, ws, o, vs, e, _⟩⟩
    · obtain ⟨a, vs, e, f, r⟩ := r
      exact ⟨a, vs, e, r, fun F' A' S' H' l st => st.fin.sqL (l.1.sqL f)⟩
    · cases e
    · cases e
  | _ => cases h
theorem pairs_len : ∀ (xs ys : List D), (pairs xs ys).length = min xs.length ys.length
  | [], _ => by simp [pairs]
  | _ :: _, [] => by simp [pairs]
  | x :: xs, y :: ys => by
    simp only [pairs, List.length_cons, pairs_len xs ys]; omega
theorem pairs_get : ∀ {xs ys : List D} {i : Nat} {x y : D}, xs[i]? = some x → ys[i]? = some y → (pairs xs ys)[i]? = some (.tup [x, y])
  | [], _, _, _, _, h, _ => by simp at h
  | _ :: _, [], _, _, _, _, h => by simp at h
  | x :: xs, y :: ys, 0, _, _, h, k => by simp at h k; subst h k; simp [pairs]
  | x :: xs, y :: ys, i + 1, _, _, h, k => by
    simp only [pairs, List.getElem?_cons_succ]
    exact pairs_get (by simpa using h) (by simpa using k)
theorem upto_len : ∀ (n : Nat) (i : Int), (upto i n).length = n
  | 0, _ => rfl
  | n + 1, i => by simp [upto, upto_len n]
theorem upto_get : ∀ {n : Nat} {i : Int} {k : Nat}, k < n → (upto i n)[k]? = some (.int (i + (k : Nat)))
  | 0, _, _, h => by omega
  | n + 1, i, 0, _ => by simp [upto]
  | n + 1, i, k + 1, h => by
    simp only [upto, List.getElem?_cons_succ]
    rw [upto_get (by omega)]
    congr 2
    omega
/-- a new pair -/
theorem pair_out {F' : Hp} {A' : List Addr} {S' : Store} {H' H2 : Hp} {v : V} {X1 X2 : Nat → Option V} {xs : List D} {i : Nat} (st : StR g F' A' S' H') (y : YPair X1 X2 i H' v H2)
    (h : ∀ x z, X1 i = some x → X2 i = some z → ∃ d1 d2, xs[i]? = some (.tup [d1, d2]) ∧ Rep g F' A' x d1 ∧ Rep g F' A' z d2) : ∃ d F2, xs[i]? = some d ∧ Step F' A' H' F2 A' H2 ∧ StR g F2 A' S' H2 ∧ Rep g F2 A' v d := by
  obtain ⟨T, x, z, rfl, hT, rfl, h1, h2⟩ := y
  obtain ⟨d1, d2, hd, r1, r2⟩ := h x z h1 h2
  obtain ⟨s, st2⟩ := st.new (o := .tup [x, z]) hT
  exact ⟨_, _, hd, s, st2, T, [x, z], rfl, upd_same, r1.mono s.le s.px, r2.mono s.le s.px, trivial⟩
theorem it_list {a : Addr} {vs : List V} {xs : List D} (rl : RepL g F A vs xs) (h : ∀ F' A' S' H', Rel b F A H F' A' H' → StR g F' A' S' H' → SqL g.K H' a vs) : ItR g b F A H (Itl g.K a) xs := by
  have w := walk_list (K := g.K) (a := a) (xs := vs)
  rw [rl.len] at w
  exact ⟨_, _, w, fun F' A' S' H' l st => ⟨h F' A' S' H' l st, fun i v H2 hi ⟨e, hv⟩ => by
    subst e
    obtain ⟨d, hd, r⟩ := rl.get' hv
    exact ⟨d, F', hd, Step.refl, st, r.mono l.1 l.2.1⟩⟩⟩
theorem it_tup {a : Addr} {vs : List V} {xs : List D} (rl : RepL g F A vs xs) (h : ∀ F' A' S' H', Rel b F A H F' A' H' → StR g F' A' S' H' → SqT g.K H' a vs) : ItR g b F A H (Itt g.K a) xs := by
  have w := walk_tup (K := g.K) (a := a) (xs := vs)
  rw [rl.len] at w
  exact ⟨_, _, w, fun F' A' S' H' l st => ⟨h F' A' S' H' l st, fun i v H2 hi ⟨e, hv⟩ => by
    subst e
    obtain ⟨d, hd, r⟩ := rl.get' hv
    exact ⟨d, F', hd, Step.refl, st, r.mono l.1 l.2.1⟩⟩⟩
theorem it_rng {i : Int} {n : Nat} : ItR g b F A H (Itr i n) (upto i n) := by
  have w := walk_range (lo := i) (n := n)
  have w2 : Walk (Itr i n) (upto i n).length (fun _ => True) (YFn fun k => V.int (i + k)) := by rw [upto_len]; exact w
  exact ⟨_, _, w2, fun F' A' S' H' l st => ⟨trivial, fun k v H2 hk ⟨e, hv⟩ => by
    subst e
    rw [upto_len] at hk
    exact ⟨_, F', upto_get hk, Step.refl, st, hv⟩⟩⟩
theorem it_enum {a : Addr} {vs : List V} {xs : List D} (rl : RepL g F A vs xs) (h : ∀ F' A' S' H', Rel b F A H F' A' H' → StR g F' A' S' H' → SqL g.K H' a vs) : ItR g b F A H (Ite g.K a) (pairs (upto 0 xs.length) xs) := by
  have w := walk_enum (K := g.K) (a := a) (xs := vs)
  have e := rl.len
  rw [show vs.length = (pairs (upto 0 xs.length) xs).length by rw [pairs_len, upto_len, Nat.min_self, e]] at w
  refine ⟨_, _, w, fun F' A' S' H' l st => ⟨h F' A' S' H' l st, fun i v H2 _ y => pair_out st y fun x z h1 h2 => ?_⟩⟩
  cases h1
  obtain ⟨d, hd, r⟩ := rl.get' h2
  have hi : i < xs.length := (List.getElem?_eq_some_iff.mp hd).1
  exact ⟨.int (i : Nat), d, pairs_get (by rw [upto_get hi]; simp) hd, rfl, r.mono l.1 l.2.1⟩
theorem it_enumT {a : Addr} {vs : List V} {xs : List D} (rl : RepL g F A vs xs) (h : ∀ F' A' S' H', Rel b F A H F' A' H' → StR g F' A' S' H' → SqT g.K H' a vs) : ItR g b F A H (IteT g.K a) (pairs (upto 0 xs.length) xs) := by
  have w := walk_enumT (K := g.K) (a := a) (xs := vs)
  have e := rl.len
  rw [show vs.length = (pairs (upto 0 xs.length) xs).length by rw [pairs_len, upto_len, Nat.min_self, e]] at w
  refine ⟨_, _, w, fun F' A' S' H' l st => ⟨h F' A' S' H' l st, fun i v H2 _ y => pair_out st y fun x z h1 h2 => ?_⟩⟩
  cases h1
  obtain ⟨d, hd, r⟩ := rl.get' h2
  have hi : i < xs.length := (List.getElem?_eq_some_iff.mp hd).1
  exact ⟨.int (i : Nat), d, pairs_get (by rw [upto_get hi]; simp) hd, rfl, r.mono l.1 l.2.1⟩
theorem it_zip {a c : Addr} {vs ws : List V} {xs ys : List D} (rl : RepL g F A vs xs) (rm : RepL g F A ws ys) (h : ∀ F' A' S' H', Rel b F A H F' A' H' → StR g F' A' S' H' → SqL g.K H' a vs ∧ SqL g.K H' c ws) : ItR g b F A H (Itz g.K a c) (pairs xs ys) := by
  refine ⟨_, _, walk_zip (by rw [pairs_len, rl.len, rm.len]), fun F' A' S' H' l st => ⟨h F' A' S' H' l st, fun i v H2 _ y => pair_out st y fun x z h1 h2 => ?_⟩⟩
  obtain ⟨d, hd, r⟩ := rl.get' h1
  obtain ⟨d2, hd2, r2⟩ := rm.get' h2
  exact ⟨d, d2, pairs_get hd hd2, r.mono l.1 l.2.1, r2.mono l.1 l.2.1⟩
theorem it_zipT {a c : Addr} {vs ws : List V} {xs ys : List D} (rl : RepL g F A vs xs) (rm : RepL g F A ws ys) (h : ∀ F' A' S' H', Rel b F A H F' A' H' → StR g F' A' S' H' → SqT g.K H' a vs ∧ SqT g.K H' c ws) : ItR g b F A H (RZ.ItzT g.K a c) (pairs xs ys) := by
  refine ⟨_, _, walk_zipT (by rw [pairs_len, rl.len, rm.len]), fun F' A' S' H' l st => ⟨h F' A' S' H' l st, fun i v H2 _ y => pair_out st y fun x z h1 h2 => ?_⟩⟩
  obtain ⟨d, hd, r⟩ := rl.get' h1
  obtain ⟨d2, hd2, r2⟩ := rm.get' h2
  exact ⟨d, d2, pairs_get hd hd2, r.mono l.1 l.2.1, r2.mono l.1 l.2.1⟩
theorem key_rep {F : Hp} {A : List Addr} {d : D} {k : Key} (h : dkey d = some k) : Rep g F A (kV k) d := by
  cases d with
  | int i => cases h; rfl
  | str s => cases h; rfl
  | _ => cases h
theorem keys_rep {F : Hp} {A : List Addr} : ∀ {ds : List D} {ks : List Key}, dkeys ds = some ks → RepL g F A (ks.map kV) ds
  | [], ks, h => by cases h; trivial
  | d :: r, ks, h => by
    simp only [dkeys] at h
    split at h
    · rename_i k ks' h1 h2
      cases h
      exact ⟨key_rep h1, keys_rep h2⟩
    · cases h
theorem it_keysK {a : Addr} {od : Obj} {l : List (Key × V)} {ks : List D} (hk : ks.map dkey = l.map fun p => some p.1) (h : ∀ F' A' S' H', Rel b F A H F' A' H' → StR g F' A' S' H' → H' a = some (.frz od (.dK l))) : ItR g b F A H (Itk a od l) ks := by
  have el : ks.length = l.length := by have := congrArg List.length hk; simpa using this
  have w := walk_keys (d := a) (o := od) (kvs := l)
  rw [← el] at w
  refine ⟨_, _, w, fun F' A' S' H' r st => ⟨h F' A' S' H' r st, fun i v H2 _ ⟨e, k, w, hi, hv⟩ => ?_⟩⟩
  subst e hv
  have e2 : (ks.map dkey)[i]? = some (some k) := by rw [hk, List.getElem?_map, hi]; rfl
  rw [List.getElem?_map, Option.map_eq_some_iff] at e2
  obtain ⟨d, hd, hkd⟩ := e2
  exact ⟨d, F', hd, Step.refl, st, key_rep hkd⟩
/-- a tuple that is in the heap becomes known -/
theorem StR.know {q : Addr} {xs : List V} (st : StR g F A S H) (h : H q = some (.tup xs)) : ∃ F2, Step F A H F2 A H ∧ StR g F2 A S H ∧ F2 q = some (.tup xs) := by
  cases e : F q with
  | some u =>
    rcases st.fin q u e with z | ⟨_, o, z⟩
    · rw [h] at z; cases z; exact ⟨F, Step.refl, st, e⟩
    · rw [h] at z; cases z
  | none =>
    have hA : q ∉ A := fun m => by
      obtain ⟨o, e1, mu⟩ := st.liveA m
      rw [h] at e1; cases e1; exact mu
    obtain ⟨le, st2⟩ := st.give h e hA
    refine ⟨_, ⟨le, List.prefix_rfl, fun _ _ e _ => e, fun a na n1 n2 => ?_, fun _ m n => absurd m n, fun _ h => h⟩, st2, upd_same⟩
    by_cases z : a = q
    · rw [z, h]; exact id
    · rw [upd_ne z] at n1; exact absurd n2 n1
theorem it_keysT {a : Addr} {od : Obj} {l : List (List Key × V)} {ks : List D} (hk : ks.map dkeyT = l.map fun p => some p.1) (h : ∀ F' A' S' H', Rel b F A H F' A' H' → StR g F' A' S' H' → H' a = some (.frz od (.dT l))) : ItR g b F A H (Itkt a od l) ks := by
  have el : ks.length = l.length := by have := congrArg List.length hk; simpa using this
  have w := walk_keysT (d := a) (o := od) (kvs := l)
  rw [← el] at w
  refine ⟨_, _, w, fun F' A' S' H' r st => ⟨h F' A' S' H' r st, fun i v H2 _ ⟨e, k, w, q, hi, hv, hq⟩ => ?_⟩⟩
  subst e hv
  have e2 : (ks.map dkeyT)[i]? = some (some k) := by rw [hk, List.getElem?_map, hi]; rfl
  rw [List.getElem?_map, Option.map_eq_some_iff] at e2
  obtain ⟨d, hd, hkd⟩ := e2
  obtain ⟨F2, s2, st2, f2⟩ := st.know hq
  refine ⟨d, F2, hd, s2, st2, ?_⟩
  cases d with
  | tup ds => exact ⟨q, k.map kV, rfl, f2, keys_rep hkd⟩
  | _ => cases hkd
theorem it_items {a : Addr} {od : Obj} {l : List (Key × V)} {ks ws : List D} (hk : ks.map dkey = l.map fun p => some p.1) (rl : RepL g F A (l.map (·.2)) ws) (h : ∀ F' A' S' H', Rel b F A H F' A' H' → StR g F' A' S' H' → H' a = some (.frz od (.dK l))) : ItR g b F A H (Iti a od l) (pairs ks ws) := by
  have el : ks.length = l.length := by have := congrArg List.length hk; simpa using this
  have ew : ws.length = l.length := by have := rl.len; simpa using this.symm
  have w := walk_items (d := a) (o := od) (kvs := l)
  rw [show l.length = (pairs ks ws).length by rw [pairs_len, el, ew, Nat.min_self]] at w
  refine ⟨_, _, w, fun F' A' S' H' r st => ⟨h F' A' S' H' r st, fun i v H2 _ y => pair_out st y fun x z h1 h2 => ?_⟩⟩
  simp only [Option.map_eq_some_iff] at h1 h2
  obtain ⟨⟨k, w⟩, hi, rfl⟩ := h1
  obtain ⟨⟨k', w'⟩, hi', rfl⟩ := h2
  rw [hi] at hi'; cases hi'
  have e2 : (ks.map dkey)[i]? = some (some k) := by rw [hk, List.getElem?_map, hi]; rfl
  rw [List.getElem?_map, Option.map_eq_some_iff] at e2
  obtain ⟨d, hd, hkd⟩ := e2
  obtain ⟨d2, hd2, r2⟩ := rl.get' (i := i) (v := w) (by rw [List.getElem?_map, hi]; rfl)
  exact ⟨d, d2, pairs_get hd hd2, key_rep hkd, r2.mono r.1 r.2.1⟩
end
end G
set_option maxHeartbeats 1000000
namespace G
open PySem PySem.Spec PyProof.Rows L2
def iT (q : Pc) (ev : Ev) (W : XK) (b : Bool) (k : ItK) (it : List E) : TI := fun σ H R => ∃ F A ρ S, StR q.g F A S H ∧ EnvR q.g F A H ρ σ ∧ PostOf q (ItR q.g b) W F A H ((evalEs ev ρ it S).bind fun ds S1 => .of (itemsOf k ds) S1) R
theorem pi_imp {X : Cx} {tg e : Expr} {t t' : TI} (h : PI X tg e t) (i : ∀ σ H R, t' σ H R → t σ H R) : PI X tg e t' := ⟨fun pins s σ H R I w => h.run pins s σ H R I (i σ H R w)⟩
theorem pi_or2 {X : Cx} {tg e : Expr} {t t' : TI} (h : PI X tg e t) (h' : PI X tg e t') : PI X tg e (fun σ H Q => t σ H Q ∨ t' σ H Q) := ⟨fun pins s σ H Q I w => w.elim (h.run pins s σ H Q I) (h'.run pins s σ H Q I)⟩
section
variable {X : Cx} {q : Pc} {ev : Ev} {W : XK} {b : Bool} {a c tg x : Expr} {e e1 e2 : E} {es : List E} {pos p tpos : Pos} {elts : List Expr} {kk : Nat}
theorem evalEs_one {α : Type} {ρ : Rho} {S : Store} {f : List D → Store → Out α} (h : e1.star? = false) : (evalEs ev ρ [e1] S).bind f = (evalE ev ρ e1 S).bind fun d S1 => f [d] S1 := by
  rw [evalEs_cons h, Out.bind_assoc]
  simp only [evalEs]
  rfl
theorem i_over (h0 : e1.star? = false) (hK : X.K = q.g.K) (ha : PE X a (tE q ev W (.x b) e1)) : PI X tg a (iT q ev W b .over [e1]) := by
  refine pi_imp (pi_or2 (pi_list ha) (pi_tup ha)) fun σ H R ⟨F, A, ρ, S, st, en, po⟩ => ?_
  rw [evalEs_one h0] at po
  cases ho : evalE ev ρ e1 S with
  | no => rw [ho] at po; exact po.elim
  | ex c d S' =>
    refine .inl ⟨F, A, ρ, S, st, en, ?_⟩
    rw [ho] at po ⊢; exact po
  | ok d S1 =>
    rw [ho] at po
    have po : PostOf q (ItR q.g b) W F A H (.of ((seqI d).map (·.2)) S1) R := po
    obtain ⟨ys, hr, po⟩ := PostOf.of po
    rw [Option.map_eq_some_iff] at hr
    obtain ⟨⟨t, xs⟩, h1, rfl⟩ := hr
    cases t with
    | true =>
      refine .inr ⟨F, A, ρ, S, st, en, ?_⟩
      rw [ho]
      intro v F1 A1 H1 s1 st1 r1
      obtain ⟨a, vs, rfl, rl, hq⟩ := Rep.seqI r1 h1
      have hq : ∀ F' A' S' H', Rel b F1 A1 H1 F' A' H' → StR q.g F' A' S' H' → SqT q.g.K H' a vs := hq
      refine ⟨a, rfl, ⟨vs, ?_⟩, ?_⟩
      · rw [hK]; exact hq F1 A1 _ H1 Step.refl.rel st1
      · rw [hK]; exact po _ F1 A1 H1 s1 st1 (it_tup rl hq)
    | false =>
      refine .inl ⟨F, A, ρ, S, st, en, ?_⟩
      rw [ho]
      intro v F1 A1 H1 s1 st1 r1
      obtain ⟨a, vs, rfl, rl, hq⟩ := Rep.seqI r1 h1
      have hq : ∀ F' A' S' H', Rel b F1 A1 H1 F' A' H' → StR q.g F' A' S' H' → SqL q.g.K H' a vs := hq
      refine ⟨a, rfl, ⟨vs, ?_⟩, ?_⟩
      · rw [hK]; exact hq F1 A1 _ H1 Step.refl.rel st1
      · rw [hK]; exact po _ F1 A1 H1 s1 st1 (it_list rl hq)
theorem i_keys (h0 : e1.star? = false) (ha : PE X a (tE q ev W (.x false) e1)) : PI X tg a (iT q ev W b .keys [e1]) := by
  refine pi_imp (pi_keys ha) fun σ H R ⟨F, A, ρ, S, st, en, po⟩ => ?_
  rw [evalEs_one h0] at po
  refine ⟨F, A, ρ, S, st, en, PostOf.bind po fun v F1 A1 H1 d S1 _ s1 st1 r1 po => ?_⟩
  have r1 := r1.no
  cases d with
  | dct t ks ws =>
    have po : PostOf q (ItR q.g b) W F1 A1 H1 (.of (some ks) S1) R := po
    obtain ⟨_, e0, po⟩ := PostOf.of po
    cases e0
    obtain ⟨a, o, vs, od, rfl, hf, dr, rl⟩ := r1
    refine ⟨a, od, rfl, ?_⟩
    have hh : ∀ F' A' S' H', Rel b F1 A1 H1 F' A' H' → StR q.g F' A' S' H' → H' a = some (.frz od o) := fun F' A' S' H' l st' => by
      rcases st'.fin a _ (l.1 _ _ hf) with z | ⟨z, _⟩
      · exact z
      · exact z.elim
    cases t with
    | false =>
      obtain ⟨l, rfl, e1, e2⟩ := dr
      exact .inl ⟨l, hh F1 A1 _ H1 Step.refl.rel st1, po _ F1 A1 H1 Step.refl st1 (it_keysK e1 hh)⟩
    | true =>
      obtain ⟨l, rfl, e1, e2⟩ := dr
      exact .inr ⟨l, hh F1 A1 _ H1 Step.refl.rel st1, po _ F1 A1 H1 Step.refl st1 (it_keysT e1 hh)⟩
  | _ => exact po.elim
theorem bnd_ok {i : Int} (h : bnd i = true) : -(2 ^ 62) ≤ i ∧ i < 2 ^ 62 := of_decide_eq_true h
theorem i_range1 (h0 : e1.star? = false) (hg : Gl X "range") (hm : X.mg "range" = none) (hs : nstar a = true) (ha : PE X a (tE q ev W (.x false) e1)) : PI X tg (.Call (.Name "range" p) [a] [] pos) (iT q ev W b .range1 [e1]) := by
  refine pi_imp (pi_range1 hg hm (pa_cons ha pa_nil (starEach_cons hs)) (starEach_cons hs)) fun σ H R ⟨F, A, ρ, S, st, en, po⟩ => ?_
  rw [evalEs_one h0] at po
  refine ⟨F, A, ρ, S, st, en, PostOf.bind po fun v F1 A1 H1 d S1 _ s1 st1 r1 po => ?_⟩
  cases d with
  | int n =>
    have po : PostOf q (ItR q.g b) W F1 A1 H1 (.of (if bnd n = true then some (upto 0 n.toNat) else none) S1) R := po
    by_cases hn : bnd n = true
    · rw [if_pos hn] at po
      exact ⟨n, by rw [rx_int r1], (bnd_ok hn).1, (bnd_ok hn).2, po _ F1 A1 H1 Step.refl st1 it_rng⟩
    · rw [if_neg hn] at po; exact po.elim
  | _ => exact po.elim
theorem i_range2 (h0 : e1.star? = false) (h0' : e2.star? = false) (hg : Gl X "range") (hm : X.mg "range" = none) (hs : nstar a = true) (hs' : nstar c = true) (ha : PE X a (tE q ev W (.x false) e1)) (hc : PE X c (tE q ev W (.x false) e2)) : PI X tg (.Call (.Name "range" p) [a, c] [] pos) (iT q ev W b .range2 [e1, e2]) := by
  refine pi_imp (pi_range2 hg hm (pa_cons ha (pa_cons hc pa_nil (starEach_cons hs')) (starEach_cons hs)) (by rw [starEach_cons hs, starEach_cons hs']; rfl) (starEach_cons hs')) fun σ H R ⟨F, A, ρ, S, st, en, po⟩ => ?_
  rw [evalEs_cons h0, Out.bind_assoc] at po
  refine ⟨F, A, ρ, S, st, en, PostOf.bind po fun v F1 A1 H1 d S1 _ s1 st1 r1 po => ?_⟩
  simp only [evalEs_cons h0', Out.bind_assoc, evalEs] at po
  refine ⟨F1, A1, ρ, S1, st1, en.step s1, PostOf.bind po fun w F2 A2 H2 d2 S2 _ s2 st2 r2 po => ?_⟩
  cases d with
  | int i =>
    cases d2 with
    | int j =>
      have po : PostOf q (ItR q.g b) W F2 A2 H2 (.of (if (bnd i && bnd j) = true then some (upto i (j - i).toNat) else none) S2) R := po
      by_cases hn : (bnd i && bnd j) = true
      · rw [if_pos hn] at po
        rw [Bool.and_eq_true] at hn
        exact ⟨i, j, by rw [rx_int r1, rx_int r2], ⟨(bnd_ok hn.1).1, (bnd_ok hn.1).2, (bnd_ok hn.2).1, (bnd_ok hn.2).2⟩, po _ F2 A2 H2 Step.refl st2 it_rng⟩
      · rw [if_neg hn] at po; exact po.elim
    | _ => exact po.elim
  | _ => exact po.elim
theorem i_enum (h0 : e1.star? = false) (hK : X.K = q.g.K) (hg : Gl X "enumerate") (hm : X.mg "enumerate" = none) (hs : nstar a = true) (ha : PE X a (tE q ev W (.x b) e1)) : PI X (.Tuple elts kk tpos) (.Call (.Name "enumerate" p) [a] [] pos) (iT q ev W b .enum [e1]) := by
  refine pi_imp (pi_enumA hg hm (pa_cons ha pa_nil (starEach_cons hs)) (starEach_cons hs)) fun σ H R ⟨F, A, ρ, S, st, en, po⟩ => ?_
  rw [evalEs_one h0] at po
  refine ⟨F, A, ρ, S, st, en, PostOf.bind po fun v F1 A1 H1 d S1 _ s1 st1 r1 po => ?_⟩
  have po : PostOf q (ItR q.g b) W F1 A1 H1 (.of ((seqI d).map fun p => pairs (upto 0 p.2.length) p.2) S1) R := po
  obtain ⟨ys, hr, po⟩ := PostOf.of po
  rw [Option.map_eq_some_iff] at hr
  obtain ⟨⟨t, xs⟩, h1, rfl⟩ := hr
  obtain ⟨a, vs, rfl, rl, hq⟩ := Rep.seqI r1 h1
  refine ⟨a, vs, rfl, ?_⟩
  cases t with
  | true =>
    have hq : ∀ F' A' S' H', Rel b F1 A1 H1 F' A' H' → StR q.g F' A' S' H' → SqT q.g.K H' a vs := hq
    rw [hK]
    exact .inr ⟨hq F1 A1 _ H1 Step.refl.rel st1, po _ F1 A1 H1 Step.refl st1 (it_enumT rl hq)⟩
  | false =>
    have hq : ∀ F' A' S' H', Rel b F1 A1 H1 F' A' H' → StR q.g F' A' S' H' → SqL q.g.K H' a vs := hq
    rw [hK]
    exact .inl ⟨hq F1 A1 _ H1 Step.refl.rel st1, po _ F1 A1 H1 Step.refl st1 (it_enum rl hq)⟩
theorem Rel.trans_step {F F1 F2 : Hp} {A A1 A2 : List Addr} {H H1 H2 : Hp} (s : Step F A H F1 A1 H1) (r : Rel b F1 A1 H1 F2 A2 H2) : Rel b F A H F2 A2 H2 := ⟨s.le.trans r.1, s.px.trans r.2.1, fun h => s.trans (r.2.2 h)⟩
theorem i_zip (h0 : e1.star? = false) (h0' : e2.star? = false) (hK : X.K = q.g.K) (hg : Gl X "zip") (hm : X.mg "zip" = none) (hs : nstar a = true) (hs' : nstar c = true) (ha : PE X a (tE q ev W (.x b) e1)) (hc : PE X c (tE q ev W (.x b) e2)) : PI X (.Tuple elts kk tpos) (.Call (.Name "zip" p) [a, c] [] pos) (iT q ev W b .zip [e1, e2]) := by
  refine pi_imp (RZ.pi_zipA hg hm (pa_cons ha (pa_cons hc pa_nil (starEach_cons hs')) (starEach_cons hs)) (starEach_cons hs) (back_any (by simp [hs']))) fun σ H R ⟨F, A, ρ, S, st, en, po⟩ => ?_
  rw [evalEs_cons h0, Out.bind_assoc] at po
  refine ⟨F, A, ρ, S, st, en, PostOf.bind po fun v F1 A1 H1 d S1 _ s1 st1 r1 po => ?_⟩
  simp only [evalEs_cons h0', Out.bind_assoc, evalEs] at po
  refine ⟨F1, A1, ρ, S1, st1, en.step s1, PostOf.bind po fun w F2 A2 H2 d2 S2 _ s2 st2 r2 po => ?_⟩
  obtain ⟨ys, hr, po⟩ := PostOf.of po
  simp only [itemsOf] at hr
  cases h1 : seqI d with
  | none => rw [h1] at hr; cases hr
  | some tx =>
    obtain ⟨t, xs⟩ := tx
    cases h2 : seqI d2 with
    | none => simp only [h1, h2] at hr; cases hr
    | some uy =>
      obtain ⟨u, zs⟩ := uy
      simp only [h1, h2] at hr
      split at hr
      · rename_i etu
        subst etu
        cases hr
        obtain ⟨a, vs, rfl, rl, hq⟩ := Rep.seqI (r1.step s2) h1
        obtain ⟨c, ws, rfl, rm, hq2⟩ := Rep.seqI r2 h2
        refine ⟨a, c, vs, ws, rfl, ?_⟩
        cases t with
        | true =>
          have hq : ∀ F' A' S' H', Rel b F2 A2 H2 F' A' H' → StR q.g F' A' S' H' → SqT q.g.K H' a vs := hq
          have hq2 : ∀ F' A' S' H', Rel b F2 A2 H2 F' A' H' → StR q.g F' A' S' H' → SqT q.g.K H' c ws := hq2
          rw [hK]
          exact .inr ⟨hq F2 A2 _ H2 Step.refl.rel st2, hq2 F2 A2 _ H2 Step.refl.rel st2, po _ F2 A2 H2 Step.refl st2 (it_zipT rl rm fun F' A' S' H' l s => ⟨hq F' A' S' H' l s, hq2 F' A' S' H' l s⟩)⟩
        | false =>
          have hq : ∀ F' A' S' H', Rel b F2 A2 H2 F' A' H' → StR q.g F' A' S' H' → SqL q.g.K H' a vs := hq
          have hq2 : ∀ F' A' S' H', Rel b F2 A2 H2 F' A' H' → StR q.g F' A' S' H' → SqL q.g.K H' c ws := hq2
          rw [hK]
          exact .inl ⟨hq F2 A2 _ H2 Step.refl.rel st2, hq2 F2 A2 _ H2 Step.refl.rel st2, po _ F2 A2 H2 Step.refl st2 (it_zip rl rm fun F' A' S' H' l s => ⟨hq F' A' S' H' l s, hq2 F' A' S' H' l s⟩)⟩
      · cases hr

/-! ### targets -/
def gTs : List Nat → TGs
  | [] => gNil
  | i :: r => gCons (gName i) (gTs r)
def Tg.ixs : Tg → List Nat
  | .name i => [i]
  | .tup is => is
def gT (K : PySem.W.Frag) : Tg → TG
  | .name i => gName i
  | .tup is => gTup K is.length (gTs is)
def setVs (σ : L2.St) : List Nat → List V → L2.St
  | i :: is, v :: vs => setVs (σ.set i (some v)) is vs
  | _, _ => σ
theorem gTs_ok {Q : L2.St → Hp → Prop} {H : Hp} : ∀ {is : List Nat} {vs : List V} {σ : L2.St}, vs.length = is.length → Q (setVs σ is vs) H → gTs is vs σ H Q
  | [], [], _, _, h => ⟨rfl, h⟩
  | [], _ :: _, _, h, _ => by cases h
  | _ :: _, [], _, h, _ => by cases h
  | i :: is, v :: vs, σ, hl, h => ⟨v, vs, rfl, gTs_ok (σ := σ.set i (some v)) (by simpa using hl) h⟩
theorem putAll_ok {g : Gc} {F : Hp} {A : List Addr} {H : Hp} : ∀ {is : List Nat} {vs : List V} {ds : List D} {ρ ρ' : Rho} {σ : L2.St}, RepL g F A vs ds → putAll ρ is ds = some ρ' → EnvR g F A H ρ σ → vs.length = is.length ∧ EnvR g F A H ρ' (setVs σ is vs)
  | [], [], [], _, _, _, _, h, en => by cases h; exact ⟨rfl, en⟩
  | [], _ :: _, [], _, _, _, r, _, _ => r.elim
  | [], _, _ :: _, _, _, _, _, h, _ => by cases h
  | _ :: _, _, [], _, _, _, _, h, _ => by cases h
  | _ :: _, [], _ :: _, _, _, _, r, _, _ => r.elim
  | i :: is, v :: vs, d :: ds, ρ, ρ', σ, r, h, en => by
    have := putAll_ok (is := is) (vs := vs) (ds := ds) r.2 h (en.set (i := i) (sl := .v d) (o := some v) ⟨v, rfl, r.1⟩ rfl)
    exact ⟨by simp [this.1], this.2⟩
theorem target_ok {F : Hp} {A : List Addr} {S : Store} {H : Hp} {tgt : Tg} {v : V} {d : D} {ρ ρ' : Rho} {σ : L2.St} (st : StR q.g F A S H) (r : Rep q.g F A v d) (h : putTg S ρ tgt d = some ρ') (en : EnvR q.g F A H ρ σ) :
    ∃ σ', EnvR q.g F A H ρ' σ' ∧ (∀ Q : L2.St → Hp → Prop, Q σ' H → gT q.g.K tgt v σ H Q) ∧ (∃ vs, σ' = setVs σ tgt.ixs vs) := by
  cases tgt with
  | name i =>
    cases h
    exact ⟨_, en.set ⟨v, rfl, r⟩ rfl, fun Q h => h, [v], rfl⟩
  | tup is =>
    have go : ∀ {a vs xs}, v = .ref a → SqT q.g.K H a vs → RepL q.g F A vs xs → putAll ρ is xs = some ρ' → ∃ σ', EnvR q.g F A H ρ' σ' ∧ (∀ Q : L2.St → Hp → Prop, Q σ' H → gT q.g.K (.tup is) v σ H Q) ∧ (∃ vs, σ' = setVs σ is vs) := by
      intro a vs xs e hq rl h
      obtain ⟨hl, en2⟩ := putAll_ok rl h en
      exact ⟨_, en2, fun Q hQ => ⟨a, vs, e, hq, hl, gTs_ok hl hQ⟩, vs, rfl⟩
    cases d with
    | tup xs => obtain ⟨a, vs, e, hf, rl⟩ := r; exact go e (SqT.of (st.fin.tup hf)) rl h
    | kt xs => obtain ⟨a, vs, e, hf, rl⟩ := r; exact go e (st.fin.sqT hf) rl h
    | _ => cases h
end
end G
set_option maxHeartbeats 1000000
namespace G
open PySem PySem.Spec PyProof.Rows L2
theorem wipeR_ok {g : Gc} {F : Hp} {A : List Addr} {H : Hp} {ρ : Rho} {σ : L2.St} (en : EnvR g F A H ρ σ) : ∀ own : List Nat, EnvR g F A H (wipeR ρ own) (wipe σ own)
  | [] => en
  | _ :: r => (wipeR_ok en r).set trivial rfl
theorem wipe_get (σ : L2.St) (i : Nat) : ∀ vs : List Nat, (wipe σ vs)[i]? = if i ∈ vs then (if i < σ.length then some none else none) else σ[i]?
  | [] => by simp [wipe]
  | v :: vs => by
    unfold wipe
    by_cases hv : v = i
    · subst hv
      rw [if_pos (by simp)]
      by_cases hl : v < σ.length
      · rw [if_pos hl, List.getElem?_set_self (by rw [wipe_length]; exact hl)]
      · rw [if_neg hl, List.getElem?_eq_none (by rw [List.length_set, wipe_length]; omega)]
    · rw [List.getElem?_set_ne hv, wipe_get σ i vs]
      by_cases hm : i ∈ vs
      · rw [if_pos hm, if_pos (List.mem_cons_of_mem _ hm)]
      · rw [if_neg hm, if_neg (by
          intro z
          rcases List.mem_cons.mp z with z | z
          · exact hv z.symm
          · exact hm z)]
theorem setVs_len : ∀ (is : List Nat) (vs : List V) (σ : L2.St), (setVs σ is vs).length = σ.length
  | [], _, _ => rfl
  | _ :: _, [], _ => rfl
  | i :: is, v :: vs, σ => by
    simp only [setVs]
    rw [setVs_len is vs, List.length_set]
theorem setVs_get : ∀ (is : List Nat) (vs : List V) (σ : L2.St) (i : Nat), i ∉ is → (setVs σ is vs)[i]? = σ[i]?
  | [], _, _, _, _ => rfl
  | _ :: _, [], _, _, _ => rfl
  | j :: is, v :: vs, σ, i, h => by
    simp only [setVs]
    rw [setVs_get is vs _ i fun m => h (List.mem_cons_of_mem _ m), List.getElem?_set_ne fun z => h (by rw [z]; simp)]
theorem wipe_set {σ : L2.St} {is vs : List Nat} {ws : List V} (h : ∀ i ∈ is, i ∈ vs) : wipe (setVs (wipe σ vs) is ws) vs = wipe σ vs := by
  apply List.ext_getElem?
  intro i
  rw [wipe_get, wipe_get, setVs_len, wipe_length]
  by_cases hm : i ∈ vs
  · rw [if_pos hm, if_pos hm]
  · rw [if_neg hm, if_neg hm, setVs_get is ws _ i fun z => hm (h i z), wipe_get, if_neg hm]
section
variable {q : Pc} {α β γ δ : Type} {R : Hp → List Addr → Hp → β → α → Prop} {R2 : Hp → List Addr → Hp → δ → γ → Prop} {W W' : XK} {F F' : Hp} {A A' : List Addr} {H H' : Hp}
/-- the next part, told from where we are; what is left stays told from the start -/
theorem PostOf.cut {o : Out α} {f : α → Store → Out γ} {Q : δ → Hp → Prop} {T : β → Hp → Prop} (h : PostOf q R2 W F A H (o.bind f) Q) (s : Step F A H F' A' H')
    (k : ∀ v F1 A1 H1 a S1, o = .ok a S1 → Step F' A' H' F1 A1 H1 → StR q.g F1 A1 S1 H1 → R F1 A1 H1 v a → PostOf q R2 W F A H (f a S1) Q → T v H1) : PostOf q R W F' A' H' o T := by
  cases o with
  | ok a S => exact fun v F1 A1 H1 t st r => k v F1 A1 H1 a S rfl t st r h
  | ex c d S => exact fun cls dd F2 A2 H2 t st r => h cls dd F2 A2 H2 (s.trans t) st r
  | no => exact h
end
/-! ### tests of a clause -/
def tTs (q : Pc) (ev : Ev) (W : XK) (ifs : List E) : TT := fun σ H Q => ∃ F A ρ S, StR q.g F A S H ∧ EnvR q.g F A H ρ σ ∧ PostOf q RB W F A H (evalT ev ρ ifs S) Q
section
variable {X : Cx} {q : Pc} {ev : Ev} {W : XK} {b : Bool} {a c tg x : Expr} {e e1 e2 : E} {es : List E} {pos p tpos : Pos}
theorem ts_nil : PTs X [] (tTs q ev W []) := ⟨fun pins s σ H Q I ⟨F, A, ρ, S, st, en, po⟩ => pts_nil.run pins s σ H Q I (po true F A H Step.refl st rfl)⟩
theorem ts_one (h : PT X c (tT q ev W e1)) : PTs X [c] (tTs q ev W [e1]) := ⟨fun pins s σ H Q I ⟨F, A, ρ, S, st, en, po⟩ => (pts_one h).run pins s σ H Q I ⟨F, A, ρ, S, st, en, by
  simp only [evalT] at po
  have e : ((evalE ev ρ e1 S).bind fun x S1 => (match x with | .bl b => .ok b S1 | _ => .no : Out Bool)) = (evalE ev ρ e1 S).bind asB := by
    cases evalE ev ρ e1 S with
    | ok d S1 => cases d <;> rfl
    | ex c d S => rfl
    | no => rfl
  have po2 : PostOf q RB W F A H ((evalE ev ρ e1 S).bind asB) Q := by rw [← e]; exact po
  exact po2⟩⟩
/-! ### list comprehensions -/
/-- the new list, seen from H1 -/
def RL (g : Gc) (H1 : Hp) (F : Hp) (A : List Addr) (H : Hp) (p : Addr) (ys : List D) : Prop := p ∉ A ∧ F p = none ∧ H1 p = none ∧ ∃ vs, H p = some (.lst vs) ∧ RepL g F A vs ys
theorem comp_walk {J : It} {tgt : Tg} {own : List Nat} {ifs : List E} {elt : E} {σ : L2.St} {F1 : Hp} {A1 : List Addr} {H1 : Hp} {ρ : Rho} {S1 : Store} {xs : List D} {Q : Addr → Hp → Prop} {W : XK}
    (hown : ∀ i ∈ tgt.ixs, i ∈ own)
    (st1 : StR q.g F1 A1 S1 H1) (en : EnvR q.g F1 A1 H1 ρ σ) (it : ItR q.g true F1 A1 H1 J xs) (po : PostOf q (RL q.g H1) W F1 A1 H1 (compL tgt (wipeR ρ own) (fun ρ' S => evalT ev ρ' ifs S) (fun ρ' S => evalE ev ρ' elt S) [] xs S1) Q) {D : Addr} (hD : H1 D = none) :
    ∃ W' : Nat → Nat → Hp → Prop, (∃ m, W' 0 m (upd H1 D (.lst []))) ∧ ∀ i m H, W' i m H →
      (J.stop i H ∧ Q D H) ∨ (J.go i H ∧ ∃ Nx : Hp → Prop, (∀ H', Nx H' → ∃ m', m' < m ∧ W' (i + 1) m' H') ∧ ∀ x H', J.yld i H x H' → gT q.g.K tgt x (wipe σ own) H' fun σ2 H2 => wipe σ2 own = wipe σ own ∧ tTs q ev W ifs σ2 H2 fun b H3 =>
        if b = true then tE q ev W (.x false) elt σ2 H3 fun y H4 => ∃ acc, H4 D = some (.lst acc) ∧ acc.length < sizeLine ∧ Nx (upd H4 D (.lst (acc ++ [y]))) else Nx H3) := by
  obtain ⟨Gd, Y, w, hY⟩ := it.out
  let Pv : Nat → Hp → Prop := fun i H => ∃ F A S vs acc, Step F1 A1 H1 F A H ∧ StR q.g F A S H ∧ D ∉ A ∧ F D = none ∧ H D = some (.lst vs) ∧ RepL q.g F A vs acc ∧
    PostOf q (RL q.g H1) W F1 A1 H1 (compL tgt (wipeR ρ own) (fun ρ' S => evalT ev ρ' ifs S) (fun ρ' S => evalE ev ρ' elt S) acc (xs.drop i) S) Q
  have hF1 : F1 D = none := st1.fin.none hD
  have hA1 : D ∉ A1 := st1.freshA hD
  refine lc_it (Qd := Q D) w Pv ?_ (fun i H _ ⟨F, A, S, vs, acc, s, st, _⟩ => (hY F A S H s.rel st).1) (fun i x H H' hi ⟨F, A, S, vs, acc, s, st, hDA, hDF, hDH, rl, po⟩ y => ?_) (fun H ⟨F, A, S, vs, acc, s, st, hDA, hDF, hDH, rl, po⟩ => ?_)
  · obtain ⟨s, st, hf, ha⟩ := st1.own (o := .lst []) hD
    exact ⟨F1, A1, S1, [], [], s, st, hA1, hF1, upd_same, trivial, by rw [List.drop_zero]; exact po⟩
  · obtain ⟨d, F2, hd, s2, st2, r2⟩ := (hY F A S H s.rel st).2 i x H' hi y
    have ed : xs.drop i = d :: xs.drop (i + 1) := by
      rw [List.drop_eq_getElem_cons hi]
      rw [List.getElem?_eq_getElem hi] at hd
      rw [Option.some.inj hd]
    rw [ed] at po
    simp only [compL] at po
    cases hp : putTg S (wipeR ρ own) tgt d with
    | none => rw [hp] at po; exact po.elim
    | some ρ' =>
      simp only [hp] at po
      have en2 : EnvR q.g F2 A H' ρ σ := (en.step s).step s2
      obtain ⟨σ2, en3, hset, ws, eσ⟩ := target_ok st2 r2 hp (wipeR_ok en2 own)
      refine hset _ ⟨by rw [eσ]; exact wipe_set hown, F2, A, ρ', S, st2, en3, ?_⟩
      refine PostOf.cut po (s.trans s2) fun b F3 A3 H3 b' S3 _ s3 st3 eb po => ?_
      cases eb
      have s13 := (s.trans s2).trans s3
      have hD3 : H3 D = some (.lst vs) := s3.keep D _ (s2.keep D _ hDH hDA) hDA
      have hA3 : D ∉ A3 := fun m => by have := s13.frA D m hA1; exact hDA (by
        by_cases z : D ∈ A
        · exact z
        · have z2 := s3.frA D m z
          rw [s2.keep D _ hDH hDA] at z2; cases z2)
      have hF3 : F3 D = none := by
        cases e : F3 D with
        | none => rfl
        | some u =>
          by_cases z : F2 D = none
          · have := s3.frF D hDA (by rw [e]; exact fun z => nomatch z) z
            rw [s2.keep D _ hDH hDA] at this; exact (this trivial).elim
          · have := s2.frF D hDA z hDF
            rw [hDH] at this; exact (this trivial).elim
      cases b with
      | false =>
        rw [if_neg (by simp)] at po ⊢
        exact ⟨F3, A3, S3, vs, acc, s13, st3, hA3, hF3, hD3, rl.mono (s2.le.trans s3.le) (s2.px.trans s3.px), po⟩
      | true =>
        rw [if_pos rfl] at po ⊢
        refine ⟨F3, A3, ρ', S3, st3, en3.step s3, PostOf.cut po s13 fun y F4 A4 H4 dy S4 _ s4 st4 r4 po => ?_⟩
        have r4 := r4.no
        by_cases hl : line acc.length = true
        · rw [if_pos hl] at po
          have hD4 : H4 D = some (.lst vs) := s4.keep D _ hD3 hA3
          have s14 := s13.trans s4
          have hA4 : D ∉ A4 := fun m => by have z := s4.frA D m hA3; rw [hD3] at z; cases z
          have hF4 : F4 D = none := by
            cases e : F4 D with
            | none => rfl
            | some u =>
              have := s4.frF D hA3 (by rw [e]; exact fun z => nomatch z) hF3
              rw [hD3] at this; exact (this trivial).elim
          have rl4 := (rl.mono (s2.le.trans s3.le) (s2.px.trans s3.px)).mono s4.le s4.px
          refine ⟨vs, hD4, by rw [rl.len]; exact line_lt hl, F4, A4, S4, vs ++ [y], acc ++ [dy], s14.mut hD, st4.mut hF4 hA4, hA4, hF4, upd_same, rl4.app ⟨r4, trivial⟩, po⟩
        · rw [if_neg hl] at po; exact po.elim
  · rw [List.drop_length] at po
    simp only [compL] at po
    exact po D F A H s st ⟨hDA, hDF, hD, vs, hDH, rl⟩
theorem lc_read {tgt : Tg} {k : ItK} {it : List E} {ifs : List E} {elt : E} {own : List Nat} {σ : L2.St} {H : Hp} {Q : VK} (hown : ∀ i ∈ tgt.ixs, i ∈ own) (hh : tE q ev W .new (.lc own tgt k it ifs elt) σ H Q) :
    tLc (iT q ev W true k it) (gT q.g.K tgt) (tTs q ev (fun _ _ _ => False) ifs) (tE q ev (fun _ _ _ => False) (.x false) elt) own σ H Q := by
  obtain ⟨F, A, ρ, S, st, en, po⟩ := hh
  simp only [evalE] at po
  have po2 : PostOf q (RepM q.g H .new) W F A H (((evalEs ev ρ it S).bind fun ds S1 => .of (itemsOf k ds) S1).bind fun xs S1 => ((compL tgt (wipeR ρ own) (fun ρ' S => evalT ev ρ' ifs S) (fun ρ' S => evalE ev ρ' elt S) [] xs S1).shut).bind fun ys S2 => .ok (.lst ys) S2) Q := by
    cases hev : evalEs ev ρ it S with
    | ok ds S1 =>
      rw [hev] at po
      show PostOf q (RepM q.g H .new) W F A H (Out.bind (.of (itemsOf k ds) S1) _) Q
      have po : PostOf q (RepM q.g H .new) W F A H (match itemsOf k ds with | none => (.no : Out D) | some xs => _) Q := po
      cases hk : itemsOf k ds with
      | none => rw [hk] at po; exact po
      | some xs => rw [hk] at po; exact po
    | ex c d S => rw [hev] at po; exact po
    | no => rw [hev] at po; exact po
  replace po := po2
  refine ⟨F, A, ρ, S, st, en, PostOf.bind po fun J F1 A1 H1 xs S1 _ s1 st1 hJ po => ?_⟩
  intro D hD
  refine comp_walk (Q := fun D H => Q (.ref D) H) hown st1 (en.step s1) hJ ?_ hD
  cases hcomp : compL tgt (wipeR ρ own) (fun ρ' S => evalT ev ρ' ifs S) (fun ρ' S => evalE ev ρ' elt S) [] xs S1 with
  | no => rw [hcomp] at po; exact po
  | ex c d S => rw [hcomp] at po; exact po.elim
  | ok ys S2 =>
    rw [hcomp] at po
    have po : PostOf q (RepM q.g H .new) W F1 A1 H1 (.ok (.lst ys) S2) Q := po
    intro p F2 A2 H2 s2 st2 ⟨h1, h2, h3, vs, h4, h5⟩
    exact po (.ref p) F2 A2 H2 s2 st2 ⟨p, rfl, h1, h2, s1.non h3, .inl ⟨ys, vs, rfl, h4, h5⟩⟩
theorem n_lc {tgt : Tg} {k : ItK} {it : List E} {ifs : List E} {elt : E} {own : List (Str × Nat)} {scope : Scope} {ox tx ix : Expr} {ifx : List Expr} (hK : X.K = q.g.K) (hc : X.calm = true) (hN : X.N.Nodup) (ok : BlkOk X.N X.env.scope scope own) (hs : nset ix = true)
    (hown : ∀ i ∈ tgt.ixs, i ∈ own.map (·.2))
    (hi : PI X tx ix (iT q ev W true k it))
    (hg : ∀ (s : Shared) (H : Hp) (C : Addr) (cl : List (Str × Addr)) (fp : List Addr), PG (X.blk s H scope (compEnvC scope cl C X.env) fp) tx (gT q.g.K tgt))
    (ht : ∀ (s : Shared) (H : Hp) (C : Addr) (cl : List (Str × Addr)) (fp : List Addr), PTs (X.blk s H scope (compEnvC scope cl C X.env) fp) ifx (tTs q ev (fun _ _ _ => False) ifs))
    (he : ∀ (s : Shared) (H : Hp) (C : Addr) (cl : List (Str × Addr)) (fp : List Addr), PE (X.blk s H scope (compEnvC scope cl C X.env) fp) ox (tE q ev (fun _ _ _ => False) (.x false) elt)) :
    PE X (.ListComp ox [⟨tx, ix, ifx, 0⟩] scope pos) (tE q ev W .new (.lc (own.map (·.2)) tgt k it ifs elt)) := by
  exact pe_imp (pe_lc hc hN hi ok hg ht he (folded_of hs)) fun σ H Q h => lc_read hown h
end
end G
set_option maxHeartbeats 1000000
namespace G
open PySem PySem.Spec PyProof.Rows L2
section
variable {g : Gc} {F : Hp} {A : List Addr}
theorem any_keqK {e : D} {k : Key} (he : dkey e = some k) : ∀ {l : List (Key × V)} {ks : List D}, ks.map dkey = l.map (fun p => some p.1) → (ks.any fun j => keq j e) = l.any fun kv => decide (kv.1 = k)
  | [], [], _ => rfl
  | [], _ :: _, h => by cases h
  | _ :: _, [], h => by cases h
  | p :: l, d :: ks, h => by
    have h1 := (List.cons.inj h)
    rw [List.any_cons, List.any_cons, any_keqK he h1.2, keq_k h1.1 he]
theorem any_keqT {e : D} {k : List Key} (he : dkeyT e = some k) : ∀ {l : List (List Key × V)} {ks : List D}, ks.map dkeyT = l.map (fun p => some p.1) → (ks.any fun j => keq j e) = l.any fun kv => decide (kv.1 = k)
  | [], [], _ => rfl
  | [], _ :: _, h => by cases h
  | _ :: _, [], h => by cases h
  | p :: l, d :: ks, h => by
    have h1 := (List.cons.inj h)
    rw [List.any_cons, List.any_cons, any_keqT he h1.2, keq_t h1.1 he]
theorem repV_K {e : D} {k : Key} {z : V} {dz : D} (he : dkey e = some k) (rz : Rep g F A z dz) : ∀ {l : List (Key × V)} {ks ws : List D}, ks.map dkey = l.map (fun p => some p.1) → RepL g F A (l.map (·.2)) ws → RepL g F A ((l.map fun kv => if kv.1 = k then (kv.1, z) else kv).map (·.2)) (repV ks ws e dz)
  | [], [], [], _, _ => trivial
  | [], [], _ :: _, _, h => h.elim
  | [], _ :: _, _, h, _ => by cases h
  | _ :: _, [], _, h, _ => by cases h
  | _ :: _, _ :: _, [], _, h => h.elim
  | p :: l, d :: ks, w :: ws, h, r => by
    have h1 := (List.cons.inj h)
    have h2 := repV_K (l := l) he rz h1.2 r.2
    have h3 : keq d e = decide (p.1 = k) := keq_k h1.1 he
    simp only [repV, List.map_cons, h3]
    by_cases c : p.1 = k
    · simp only [c, decide_true, if_true]; exact ⟨rz, h2⟩
    · simp only [c, decide_false, if_false, Bool.false_eq_true]; exact ⟨r.1, h2⟩
theorem repV_T {e : D} {k : List Key} {z : V} {dz : D} (he : dkeyT e = some k) (rz : Rep g F A z dz) : ∀ {l : List (List Key × V)} {ks ws : List D}, ks.map dkeyT = l.map (fun p => some p.1) → RepL g F A (l.map (·.2)) ws → RepL g F A ((l.map fun kv => if kv.1 = k then (kv.1, z) else kv).map (·.2)) (repV ks ws e dz)
  | [], [], [], _, _ => trivial
  | [], [], _ :: _, _, h => h.elim
  | [], _ :: _, _, h, _ => by cases h
  | _ :: _, [], _, h, _ => by cases h
  | _ :: _, _ :: _, [], _, h => h.elim
  | p :: l, d :: ks, w :: ws, h, r => by
    have h1 := (List.cons.inj h)
    have h2 := repV_T (l := l) he rz h1.2 r.2
    have h3 : keq d e = decide (p.1 = k) := keq_t h1.1 he
    simp only [repV, List.map_cons, h3]
    by_cases c : p.1 = k
    · simp only [c, decide_true, if_true]; exact ⟨rz, h2⟩
    · simp only [c, decide_false, if_false, Bool.false_eq_true]; exact ⟨r.1, h2⟩
theorem map_fst {κ : Type} [DecidableEq κ] {k : κ} {z : V} (l : List (κ × V)) : (l.map fun kv => if kv.1 = k then (kv.1, z) else kv).map (·.1) = l.map (·.1) := by
  rw [List.map_map]
  apply List.map_congr_left
  intro p _
  simp only [Function.comp]
  split <;> rfl
theorem dputK_ok {e : D} {k : Key} {z : V} {dz : D} {l : List (Key × V)} {ks ws : List D} (he : dkey e = some k) (rz : Rep g F A z dz) (h : ks.map dkey = l.map (fun p => some p.1)) (r : RepL g F A (l.map (·.2)) ws) :
    (dputK ks e).map dkey = (putK l k z).map (fun p => some p.1) ∧ RepL g F A ((putK l k z).map (·.2)) (dputV ks ws e dz) := by
  unfold dputK dputV putK
  rw [any_keqK he h]
  by_cases c : (l.any fun kv => decide (kv.1 = k)) = true
  · rw [if_pos c, if_pos c, if_pos c]
    refine ⟨?_, repV_K he rz h r⟩
    rw [h]
    have := map_fst (k := k) (z := z) l
    have e1 : (l.map fun p => some p.1) = (l.map (·.1)).map some := by rw [List.map_map]; rfl
    rw [e1, ← this, List.map_map]; rfl
  · rw [if_neg c, if_neg c, if_neg c]
    simp only [List.map_append, h, List.map_cons, List.map_nil, he]
    exact ⟨trivial, r.app ⟨rz, trivial⟩⟩
theorem dputT_ok {e : D} {k : List Key} {z : V} {dz : D} {l : List (List Key × V)} {ks ws : List D} (he : dkeyT e = some k) (rz : Rep g F A z dz) (h : ks.map dkeyT = l.map (fun p => some p.1)) (r : RepL g F A (l.map (·.2)) ws) :
    (dputK ks e).map dkeyT = (putK l k z).map (fun p => some p.1) ∧ RepL g F A ((putK l k z).map (·.2)) (dputV ks ws e dz) := by
  unfold dputK dputV putK
  rw [any_keqT he h]
  by_cases c : (l.any fun kv => decide (kv.1 = k)) = true
  · rw [if_pos c, if_pos c, if_pos c]
    refine ⟨?_, repV_T he rz h r⟩
    rw [h]
    have := map_fst (k := k) (z := z) l
    have e1 : (l.map fun p => some p.1) = (l.map (·.1)).map some := by rw [List.map_map]; rfl
    rw [e1, ← this, List.map_map]; rfl
  · rw [if_neg c, if_neg c, if_neg c]
    simp only [List.map_append, h, List.map_cons, List.map_nil, he]
    exact ⟨trivial, r.app ⟨rz, trivial⟩⟩
/-- d[key] = value, as a heap step -/
theorem dput_ok {S : Store} {H : Hp} {t : Bool} {a : Addr} {o : HO} {ks ws : List D} {vs : List V} {y z : V} {dk dz : D} (st : StR g F A S H) (ho : H a = some o) (dr : DctR o ks vs t) (rl : RepL g F A vs ws) (hk : isKey t dk = true) (ry : Rep g F A y dk) (rz : Rep g F A z dz) (hl : line ks.length = true) :
    ∃ o' vs', DPut H a y z (upd H a o') ∧ DctR o' (dputK ks dk) vs' t ∧ RepL g F A vs' (dputV ks ws dk dz) := by
  cases t with
  | false =>
    obtain ⟨l, rfl, h1, rfl⟩ := dr
    obtain ⟨k, hk⟩ := Option.isSome_iff_exists.mp (show (dkey dk).isSome = true from hk)
    have el : ks.length = l.length := by have := congrArg List.length h1; simpa using this
    obtain ⟨p1, p2⟩ := dputK_ok hk rz h1 rl
    exact ⟨.dK (putK l k z), _, .inl ⟨l, k, ho, rep_key ry hk, by rw [← el]; exact line_lt hl, rfl⟩, ⟨_, rfl, p1, rfl⟩, p2⟩
  | true =>
    obtain ⟨l, rfl, h1, rfl⟩ := dr
    obtain ⟨k, hk⟩ := Option.isSome_iff_exists.mp (show (dkeyT dk).isSome = true from hk)
    have el : ks.length = l.length := by have := congrArg List.length h1; simpa using this
    obtain ⟨p1, p2⟩ := dputT_ok hk rz h1 rl
    obtain ⟨q, rfl, hq⟩ := rep_keyT ry hk
    exact ⟨.dT (putK l k z), _, .inr ⟨l, k, q, ho, rfl, st.fin.tup hq, by rw [← el]; exact line_lt hl, rfl⟩, ⟨_, rfl, p1, rfl⟩, p2⟩
end
/-! ### dict comprehensions -/
section
variable {X : Cx} {q : Pc} {ev : Ev} {W : XK} {b : Bool} {a c tg x : Expr} {e e1 e2 : E} {es : List E} {pos p tpos : Pos}
theorem dwalk {J : It} {n : Nat} {Gd : Hp → Prop} {Y : Nat → Hp → V → Hp → Prop} (w : Walk J n Gd Y) {g : TG} {tt : TT} {tk tv : TE} {vs : List Nat} {σ : L2.St} {H1 : Hp} {D : Addr} {Qd : Hp → Prop} (Pv : Nat → Hp → Prop) (h0 : Pv 0 (upd H1 D (.dK []))) (hG : ∀ i H, i ≤ n → Pv i H → Gd H)
    (hs : ∀ i x H H', i < n → Pv i H → Y i H x H' → g x (wipe σ vs) H' fun σ2 H2 => wipe σ2 vs = wipe σ vs ∧ tt σ2 H2 fun b H3 =>
      if b = true then tk σ2 H3 fun y H4 => tv σ2 H4 fun z H5 => ∃ kvs k, y = kV k ∧ H5 D = some (.dK kvs) ∧ kvs.length < sizeLine ∧ Pv (i + 1) (upd H5 D (.dK (putK kvs k z))) else Pv (i + 1) H3) (hd : ∀ H, Pv n H → Qd H) :
    ∃ W : Nat → Nat → Hp → Prop, (∃ m, W 0 m (upd H1 D (.dK []))) ∧ ∀ i m H, W i m H →
      (J.stop i H ∧ Qd H) ∨ (J.go i H ∧ ∃ Nx : Hp → Prop, (∀ H', Nx H' → ∃ m', m' < m ∧ W (i + 1) m' H') ∧ ∀ x H', J.yld i H x H' → g x (wipe σ vs) H' fun σ2 H2 => wipe σ2 vs = wipe σ vs ∧ tt σ2 H2 fun b H3 =>
        if b = true then tk σ2 H3 fun y H4 => tv σ2 H4 fun z H5 => ∃ kvs k, y = kV k ∧ H5 D = some (.dK kvs) ∧ kvs.length < sizeLine ∧ Nx (upd H5 D (.dK (putK kvs k z))) else Nx H3) := by
  refine ⟨fun i m H => m = n - i ∧ i ≤ n ∧ Pv i H, ⟨n, by simp, Nat.zero_le _, h0⟩, ?_⟩
  rintro i m H ⟨rfl, hi, pv⟩
  have gd := hG i H hi pv
  by_cases hlt : i < n
  · exact .inr ⟨w.goes i H hlt gd, Pv (i + 1), fun H' p' => ⟨n - (i + 1), by omega, rfl, hlt, p'⟩, fun x H' y => hs i x H H' hlt pv (w.yields i H x H' hlt gd y)⟩
  · obtain rfl : i = n := by omega
    exact .inl ⟨w.stops H gd, hd H pv⟩
/-- the new dict, seen from H1 -/
def RD (g : Gc) (H1 : Hp) (F : Hp) (A : List Addr) (H : Hp) (p : Addr) (y : List D × List D) : Prop := p ∉ A ∧ F p = none ∧ H1 p = none ∧ ∃ l : List (Key × V), H p = some (.dK l) ∧ y.1.map dkey = l.map (fun p => some p.1) ∧ RepL g F A (l.map (·.2)) y.2
theorem dcomp_walk {J : It} {tgt : Tg} {own : List Nat} {ke ve : E} {σ : L2.St} {F1 : Hp} {A1 : List Addr} {H1 : Hp} {ρ : Rho} {S1 : Store} {xs : List D} {Q : Addr → Hp → Prop} {W : XK}
    (hown : ∀ i ∈ tgt.ixs, i ∈ own)
    (st1 : StR q.g F1 A1 S1 H1) (en : EnvR q.g F1 A1 H1 ρ σ) (it : ItR q.g true F1 A1 H1 J xs) (po : PostOf q (RD q.g H1) W F1 A1 H1 (compD tgt (wipeR ρ own) (fun ρ' S => evalE ev ρ' ke S) (fun ρ' S => evalE ev ρ' ve S) [] [] xs S1) Q) {D : Addr} (hD : H1 D = none) :
    ∃ W' : Nat → Nat → Hp → Prop, (∃ m, W' 0 m (upd H1 D (.dK []))) ∧ ∀ i m H, W' i m H →
      (J.stop i H ∧ Q D H) ∨ (J.go i H ∧ ∃ Nx : Hp → Prop, (∀ H', Nx H' → ∃ m', m' < m ∧ W' (i + 1) m' H') ∧ ∀ x H', J.yld i H x H' → gT q.g.K tgt x (wipe σ own) H' fun σ2 H2 => wipe σ2 own = wipe σ own ∧ tYes σ2 H2 fun b H3 =>
        if b = true then tE q ev W (.x false) ke σ2 H3 fun y H4 => tE q ev W (.x false) ve σ2 H4 fun z H5 => ∃ kvs k, y = kV k ∧ H5 D = some (.dK kvs) ∧ kvs.length < sizeLine ∧ Nx (upd H5 D (.dK (putK kvs k z))) else Nx H3) := by
  obtain ⟨Gd, Y, w, hY⟩ := it.out
  let Pv : Nat → Hp → Prop := fun i H => ∃ F A S l ks ws, Step F1 A1 H1 F A H ∧ StR q.g F A S H ∧ D ∉ A ∧ F D = none ∧ H D = some (.dK l) ∧ ks.map dkey = l.map (fun p => some p.1) ∧ RepL q.g F A (l.map (·.2)) ws ∧
    PostOf q (RD q.g H1) W F1 A1 H1 (compD tgt (wipeR ρ own) (fun ρ' S => evalE ev ρ' ke S) (fun ρ' S => evalE ev ρ' ve S) ks ws (xs.drop i) S) Q
  have hF1 : F1 D = none := st1.fin.none hD
  have hA1 : D ∉ A1 := st1.freshA hD
  have still : ∀ {F A H F' A' H' l}, Step F A H F' A' H' → D ∉ A → F D = none → H D = some (.dK l) → D ∉ A' ∧ F' D = none ∧ H' D = some (.dK l) := by
    intro F A H F' A' H' l s h1 h2 h3
    refine ⟨fun m => (by cases (h3.symm.trans (s.frA D m h1))), ?_, s.keep D _ h3 h1⟩
    cases e : F' D with
    | none => rfl
    | some u =>
      have := s.frF D h1 (by rw [e]; exact fun z => nomatch z) h2
      rw [h3] at this; exact (this trivial).elim
  refine dwalk (Qd := Q D) w Pv ?_ (fun i H _ ⟨F, A, S, l, ks, ws, s, st, _⟩ => (hY F A S H s.rel st).1) (fun i x H H' hi ⟨F, A, S, l, ks, ws, s, st, hDA, hDF, hDH, hks, rl, po⟩ y => ?_) (fun H ⟨F, A, S, l, ks, ws, s, st, hDA, hDF, hDH, hks, rl, po⟩ => ?_)
  · obtain ⟨s, st, hf, ha⟩ := st1.own (o := .dK []) hD
    exact ⟨F1, A1, S1, [], [], [], s, st, hA1, hF1, upd_same, rfl, trivial, by rw [List.drop_zero]; exact po⟩
  · obtain ⟨d, F2, hd, s2, st2, r2⟩ := (hY F A S H s.rel st).2 i x H' hi y
    have ed : xs.drop i = d :: xs.drop (i + 1) := by
      rw [List.drop_eq_getElem_cons hi]
      rw [List.getElem?_eq_getElem hi] at hd
      rw [Option.some.inj hd]
    rw [ed] at po
    simp only [compD] at po
    cases hp : putTg S (wipeR ρ own) tgt d with
    | none => rw [hp] at po; exact po.elim
    | some ρ' =>
      simp only [hp] at po
      have en2 : EnvR q.g F2 A H' ρ σ := (en.step s).step s2
      obtain ⟨σ2, en3, hset, ws', eσ⟩ := target_ok st2 r2 hp (wipeR_ok en2 own)
      refine hset _ ⟨by rw [eσ]; exact wipe_set hown, ?_⟩
      refine (show ∀ {σ : L2.St} {H : Hp} {Q : Bool → Hp → Prop}, Q true H → tYes σ H Q from fun h => h) ?_
      rw [if_pos rfl]
      obtain ⟨k1, k2, k3⟩ := still s2 hDA hDF hDH
      refine ⟨F2, A, ρ', S, st2, en3, PostOf.cut po (s.trans s2) fun y F3 A3 H3 dk S3 _ s3 st3 r3 po => ?_⟩
      obtain ⟨m1, m2, m3⟩ := still s3 k1 k2 k3
      refine ⟨F3, A3, ρ', S3, st3, en3.step s3, PostOf.cut po ((s.trans s2).trans s3) fun z F4 A4 H4 dz S4 _ s4 st4 r4 po => ?_⟩
      obtain ⟨n1, n2, n3⟩ := still s4 m1 m2 m3
      have r4 := r4.no
      have r3 := (r3.step s4).no
      by_cases hl : (line ks.length && (dkey dk).isSome) = true
      · rw [if_pos hl] at po
        rw [Bool.and_eq_true] at hl
        obtain ⟨k, hk⟩ := Option.isSome_iff_exists.mp hl.2
        have rl4 := (rl.mono (s2.le.trans s3.le) (s2.px.trans s3.px)).mono s4.le s4.px
        obtain ⟨p1, p2⟩ := dputK_ok hk r4 hks rl4
        have el : ks.length = l.length := by have := congrArg List.length hks; simpa using this
        exact ⟨l, k, rep_key r3 hk, n3, by rw [← el]; exact line_lt hl.1, F4, A4, S4, putK l k z, _, _, (((s.trans s2).trans s3).trans s4).mut hD, st4.mut n2 n1, n1, n2, upd_same, p1, p2, po⟩
      · rw [if_neg hl] at po; exact po.elim
  · rw [List.drop_length] at po
    simp only [compD] at po
    exact po D F A H s st ⟨hDA, hDF, hD, l, hDH, hks, rl⟩
theorem dc_read {tgt : Tg} {k : ItK} {it : List E} {ke ve : E} {own : List Nat} {σ : L2.St} {H : Hp} {Q : VK} (hown : ∀ i ∈ tgt.ixs, i ∈ own) (hh : tE q ev W .new (.dc own tgt k it ke ve) σ H Q) :
    tDc (iT q ev W true k it) (gT q.g.K tgt) tYes (tE q ev (fun _ _ _ => False) (.x false) ke) (tE q ev (fun _ _ _ => False) (.x false) ve) own σ H Q := by
  obtain ⟨F, A, ρ, S, st, en, po⟩ := hh
  simp only [evalE] at po
  have po2 : PostOf q (RepM q.g H .new) W F A H (((evalEs ev ρ it S).bind fun ds S1 => .of (itemsOf k ds) S1).bind fun xs S1 => ((compD tgt (wipeR ρ own) (fun ρ' S => evalE ev ρ' ke S) (fun ρ' S => evalE ev ρ' ve S) [] [] xs S1).shut).bind fun p S2 => .ok (.dct false p.1 p.2) S2) Q := by
    cases hev : evalEs ev ρ it S with
    | ok ds S1 =>
      rw [hev] at po
      show PostOf q (RepM q.g H .new) W F A H (Out.bind (.of (itemsOf k ds) S1) _) Q
      have po : PostOf q (RepM q.g H .new) W F A H (match itemsOf k ds with | none => (.no : Out D) | some xs => _) Q := po
      cases hk : itemsOf k ds with
      | none => rw [hk] at po; exact po
      | some xs => rw [hk] at po; exact po
    | ex c d S => rw [hev] at po; exact po
    | no => rw [hev] at po; exact po
  replace po := po2
  refine ⟨F, A, ρ, S, st, en, PostOf.bind po fun J F1 A1 H1 xs S1 _ s1 st1 hJ po => ?_⟩
  intro D hD
  refine dcomp_walk (Q := fun D H => Q (.ref D) H) hown st1 (en.step s1) hJ ?_ hD
  cases hcomp : compD tgt (wipeR ρ own) (fun ρ' S => evalE ev ρ' ke S) (fun ρ' S => evalE ev ρ' ve S) [] [] xs S1 with
  | no => rw [hcomp] at po; exact po
  | ex c d S => rw [hcomp] at po; exact po.elim
  | ok ys S2 =>
    rw [hcomp] at po
    have po : PostOf q (RepM q.g H .new) W F1 A1 H1 (.ok (.dct false ys.1 ys.2) S2) Q := po
    intro p F2 A2 H2 s2 st2 ⟨h1, h2, h3, l, h4, h5, h6⟩
    exact po (.ref p) F2 A2 H2 s2 st2 ⟨p, rfl, h1, h2, s1.non h3, .inr ⟨false, ys.1, ys.2, .dK l, _, rfl, h4, ⟨l, rfl, h5, rfl⟩, h6⟩⟩
theorem n_dc {tgt : Tg} {k : ItK} {it : List E} {ke ve : E} {own : List (Str × Nat)} {scope : Scope} {kx vx tx ix : Expr} (hc : X.calm = true) (hN : X.N.Nodup) (ok : BlkOk X.N X.env.scope scope own) (hs : nset ix = true)
    (hown : ∀ i ∈ tgt.ixs, i ∈ own.map (·.2)) (hi : PI X tx ix (iT q ev W true k it))
    (hg : ∀ (s : Shared) (H : Hp) (C : Addr) (cl : List (Str × Addr)) (fp : List Addr), PG (X.blk s H scope (compEnvC scope cl C X.env) fp) tx (gT q.g.K tgt))
    (hk : ∀ (s : Shared) (H : Hp) (C : Addr) (cl : List (Str × Addr)) (fp : List Addr), PE (X.blk s H scope (compEnvC scope cl C X.env) fp) kx (tE q ev (fun _ _ _ => False) (.x false) ke))
    (he : ∀ (s : Shared) (H : Hp) (C : Addr) (cl : List (Str × Addr)) (fp : List Addr), PE (X.blk s H scope (compEnvC scope cl C X.env) fp) vx (tE q ev (fun _ _ _ => False) (.x false) ve)) :
    PE X (.DictComp kx vx [⟨tx, ix, [], 0⟩] scope pos) (tE q ev W .new (.dc (own.map (·.2)) tgt k it ke ve)) :=
  pe_imp (pe_dc hc hN hi ok hg (fun _ _ _ _ _ => pts_nil) hk he (folded_of hs)) fun σ H Q h => dc_read hown h
end
end G
set_option maxHeartbeats 1000000
/-! try with several clauses, each with or without a name -/
namespace G
open PySem PySem.Spec PyProof.Rows L2
def endsAt (D : Ends) : Option Nat → Ends
  | none => D
  | some i => { nx := fun σ' H' => D.nx (σ'.set i none) H', rt := D.rt, bk := fun σ' H' => D.bk (σ'.set i none) H', ct := fun σ' H' => D.ct (σ'.set i none) H' }
def slotsAt (σ : L2.St) (a : Addr) : Option Nat → L2.St
  | none => σ
  | some i => σ.set i (some (.ref a))
abbrev Suite := Addr → Value → Option Addr → TS
/-- the wish of the clauses, from the first on -/
def wAll (K : PySem.W.Frag) (Wout : WX) (D : Ends) : List (Value × Option Nat × Suite) → WX
  | [] => Wout
  | (c, o, ts) :: r => fun cls d σ H => ∃ b, PySem.W.exmOne K cls c = some b ∧ (b = true → ∀ a, H a = none → ts a cls d (endsAt D o) (slotsAt σ a o) H) ∧ (b = false → wAll K Wout D r cls d σ H)
inductive HdA (X : Cx) : List ExceptHandler → List (Value × Option Nat × Suite) → Prop
  | nil : HdA X [] []
  | plain {x : Str} {c : Value} {ts : Suite} {st0 : Stmt} {sts : List Stmt} {np pos' : Pos} {hds : List ExceptHandler} {l : List (Value × Option Nat × Suite)} (hc : Names X x c)
      (hsu : ∀ (a : Addr) (oe : Obj) (cls : Value) (d : Option Addr) (pn : List (Addr × Obj)), Zc cls d oe → (∃ vs, oe.data = .fields vs) → PSs (X.suite a ((a, oe) :: pn)) (st0 :: sts) (ts a cls d)) (r : HdA X hds l) :
      HdA X (.ExceptHandler (some (.Name x np)) none (st0 :: sts) pos' :: hds) ((c, none, ts) :: l)
  | named {x n : Str} {i : Nat} {c : Value} {ts : Suite} {st0 : Stmt} {sts : List Stmt} {np pos' : Pos} {hds : List ExceptHandler} {l : List (Value × Option Nat × Suite)} (hi : X.N[i]? = some n) (hln : X.env.kindOf n = some .local) (hc : Names X x c)
      (hsu : ∀ (a : Addr) (oe : Obj) (cls : Value) (d : Option Addr) (pn : List (Addr × Obj)), Zc cls d oe → (∃ vs, oe.data = .fields vs) → PSs (X.suite a ((a, oe) :: pn)) (st0 :: sts) (ts a cls d)) (r : HdA X hds l) :
      HdA X (.ExceptHandler (some (.Name x np)) (some n) (st0 :: sts) pos' :: hds) ((c, some i, ts) :: l)
section
variable {X : Cx} {body : List Stmt} {hd0 : ExceptHandler} {hds : List ExceptHandler} {l : List (Value × Option Nat × Suite)} {pos : Pos} {tb : WX → TS} {Wout : WX}
theorem ps_tryA (hst : X.stack = X.env :: X.outer) (hfm : X.env.frame = some X.env.locals) (hN : X.N.Nodup) (tk : Takes X Wout)
    (hbd : ∀ (W : WX) (pn : List (Addr × Obj)) (xe : Value → Shared → Prop), Takes (X.tr pn xe) W → PassesOwn (model X.prog X.w) X.A X.env xe → PSs (X.tr pn xe) body (tb W))
    (hh : HdA X (hd0 :: hds) l) : PS X (.Try body (hd0 :: hds) [] [] pos) (fun D σ H => tb (wAll X.K Wout D l) D σ H) := by
  refine ⟨fun pins s σ H D I h => ?_⟩
  have okX := I.ok
  have fr1 : X.A.frames = some (X.env :: X.outer) := okX.frames.trans (by rw [hst])
  refine wpAny_Try_except (wpAny_mono ((hbd (wAll X.K Wout D l) (X.pn ++ pins) (fun e s₁ => wpAny (model X.prog X.w) X.A (noteFrame e X.env) (fun _ s₂ => wpAny (model X.prog X.w) X.A (setFlight e none) (fun _ s₃ =>
    wpAny (model X.prog X.w) X.A (handleBy e X.env (hd0 :: hds)) (SP X pins D) X.xe s₃) X.xe s₂) X.xe s₁) (fun u s' hx => ?_) PassesOwn.looking).run [] s σ H D (I.toTry _) h) (fun f s1 hsp => ?_) (fun e s1 he => he))
  · obtain ⟨a, B, sJ, pinsJ, σJ, HJ, cls, d, rfl, I1, nb, up, sky, na, os, ag, wish⟩ := hx
    have IJ : Inv X pins σJ HJ sJ := I1.ofTry okX
    have skyJ : Sky B (X.env :: X.outer) a (Zc cls d) X.env.locals s'.heap := hst ▸ sky
    show wpAny (model X.prog X.w) X.A (noteFrame (.ref a) X.env) (fun _ => _) _ _
    refine Sky.land Zc.steady fr1 hfm skyJ fun g3 fl3 up3 => ?_
    have I3 : Inv X pins σJ HJ { s' with heap := g3 } := IJ.landed nb fl3.1 (up.trans up3) os ag
    obtain ⟨oe3, vs3, he3, hz3, hd3⟩ := fl3.there
    have nfr : a ∉ frs (X.env :: X.outer) := fun hm => by
      obtain ⟨_, ob, hob, hnf⟩ := fl3.2.2.1.mem hm
      rw [he3] at hob; cases hob
      exact hnf _ hd3
    have nL : a ≠ X.env.locals := fun z => nfr (List.mem_filterMap.mpr ⟨X.env, List.mem_cons_self, by rw [hfm]; exact congrArg some z.symm⟩)
    have nF : a ∉ X.fs := fun hm => by
      obtain ⟨en, hen, q⟩ := List.mem_filterMap.mp hm
      exact nfr (List.mem_filterMap.mpr ⟨en, List.mem_cons_of_mem _ hen, q⟩)
    have S3 := I3.suite he3 hd3 na nL nF
    have LT : PySem.W.Looks (model X.prog X.w) g3 (typeOf (.ref a)) cls := fun A Q E s k q => wpAny_typeOf_ref (k _ _ he3) (hz3.1.symm ▸ q)
    have test : ∀ {x : Str} {np : Pos} {c : Value} {Q : Value → Shared → Prop} {E : Value → Shared → Prop}, Names X x c → Q c { s' with heap := g3 } → wpAny (model X.prog X.w) (X.A.mark (some (.ref a))) (eval (.Name x np) X.env) Q E { s' with heap := g3 } := fun {x np c Q E} hc q => by
      obtain ⟨hg, hdbg, hm | ⟨hm, hv, hnn⟩⟩ := hc
      · exact ld_glob (X := X.suite a ((a, oe3) :: (X.pn ++ pins))) S3 hg hm q hdbg
      · exact ld_blt (X := X.suite a ((a, oe3) :: (X.pn ++ pins))) S3 hg hm hv q hnn hdbg
    have go : ∀ {hs' : List ExceptHandler} {l' : List (Value × Option Nat × Suite)}, HdA X hs' l' → wAll X.K Wout D l' cls d σJ HJ → wpAny (model X.prog X.w) X.A (handleBy (.ref a) X.env hs') (SP X pins D) X.xe { s' with heap := g3 } := by
      intro hs' l' hk
      induction hk with
      | nil =>
        intro wish
        refine wpAny_handleBy_nil ?_
        obtain ⟨k1, k2, k3, oe, vs, T, oT, ts', he, hz, hd, h1, hr⟩ := id fl3
        unfold PySem.passOn
        refine wpAny_bind (wpAny_field he hd h1 ?_)
        rw [if_neg (show ¬ ((Value.ref T == Value.none) = true) by simp)]
        have out : wpAny (model X.prog X.w) X.A (setFlight (.ref a) X.env.frame) (fun _ s4 => wpAny (model X.prog X.w) X.A (throw (.ref a) : Sem Flow) (SP X pins D) X.xe s4) X.xe { s' with heap := g3 } := by
          rw [hfm]
          exact HandSPX.setFlight_upZ fl3 fun g4 hg4 up4 => wpAny_throw (tk _ _ ⟨a, B, sJ, pins, σJ, HJ, cls, d, rfl, IJ, nb, (up.trans up3).trans up4, .inr (.inr (by rw [hst]; exact hg4)), na, os, ag, wish⟩)
        first | exact wpAny_bind (wpAny_pure (wpAny_bind out)) | exact wpAny_bind out
      | @plain x c ts st0 sts np pos' hds2 l2 hc hsu r ih =>
        intro wish
        obtain ⟨b, hb1, hyes, hno⟩ := wish
        refine wpAny_handleBy_cons (codeAny_handlers_test ?_) (by intro q; cases q)
        refine test hc ((PySem.W.exm_one (M := model X.prog X.w) (I3.kIn) LT hb1).here ?_)
        cases b with
        | false => exact ih (hno rfl)
        | true =>
          refine codeAny_handlers_suite (HandSPX.lands_againZ fl3 fun g4 fl4 up4 => ?_)
          have I4 : Inv X pins σJ HJ { s' with heap := g4 } := IJ.landed nb fl4.1 ((up.trans up3).trans up4) os ag
          obtain ⟨oe4, vs4, he4, hz4, hd4⟩ := fl4.there
          have S4 := I4.suite he4 hd4 na nL nF
          refine wpAny_mono ((hsu a oe4 cls d (X.pn ++ pins) hz4 ⟨_, hd4⟩).run [] _ _ HJ _ S4 (hyes rfl a na)) (fun f s6 hsp => ?_) (fun _ _ z => False.elim z)
          cases f with
          | next => obtain ⟨σ6, H6, S6, q6⟩ := hsp; exact ⟨_, _, S6.unsuite okX, q6⟩
          | brk => obtain ⟨σ6, H6, S6, q6⟩ := hsp; exact ⟨_, _, S6.unsuite okX, q6⟩
          | cont => obtain ⟨σ6, H6, S6, q6⟩ := hsp; exact ⟨_, _, S6.unsuite okX, q6⟩
          | ret u => obtain ⟨v6, σ6, H6, S6, r6, q6⟩ := hsp; exact ⟨_, _, _, S6.unsuite okX, r6, q6⟩
      | @named x n i c ts st0 sts np pos' hds2 l2 hi hln hc hsu r ih =>
        intro wish
        obtain ⟨b, hb1, hyes, hno⟩ := wish
        refine wpAny_handleBy_cons (codeAny_handlers_test ?_) (by intro q; cases q)
        refine test hc ((PySem.W.exm_one (M := model X.prog X.w) (I3.kIn) LT hb1).here ?_)
        cases b with
        | false => exact ih (hno rfl)
        | true =>
          refine codeAny_handlers_suite_as (HandSPX.lands_againZ fl3 fun g4 fl4 up4 => ?_)
          have I4 : Inv X pins σJ HJ { s' with heap := g4 } := IJ.landed nb fl4.1 ((up.trans up3).trans up4) os ag
          obtain ⟨oe4, vs4, he4, hz4, hd4⟩ := fl4.there
          have S4 := I4.suite he4 hd4 na nL nF
          refine store_ok (X := X.suite a ((a, oe4) :: (X.pn ++ pins))) (v := .ref a) S4 hN hi (.inl hln) rfl (fun s5 S5 => ?_) (.inr hln)
          refine wpAny_mono ((hsu a oe4 cls d (X.pn ++ pins) hz4 ⟨_, hd4⟩).run [] s5 _ HJ _ S5 (hyes rfl a na)) (fun f s6 hsp => ?_) (fun _ _ z => False.elim z)
          have last : ∀ {σ6 : L2.St} {H6 : Hp} {Q : Shared → Prop}, Inv (X.suite a ((a, oe4) :: (X.pn ++ pins))) [] σ6 H6 s6 → (∀ s7, Inv X pins (σ6.set i none) H6 s7 → Q s7) →
              wpAny (model X.prog X.w) X.A (do bindName X.env n .none; unbindBehindTheSuite X.env n pos') (fun _ s7 => Q s7) X.xe s6 := fun {σ6 H6 Q} S6 hq => gone_ok (S6.unsuite okX) hN hi hln hq
          cases f with
          | next => obtain ⟨σ6, H6, S6, q6⟩ := hsp; exact last S6 fun s7 J7 => ⟨_, _, J7, q6⟩
          | brk => obtain ⟨σ6, H6, S6, q6⟩ := hsp; exact last S6 fun s7 J7 => ⟨_, _, J7, q6⟩
          | cont => obtain ⟨σ6, H6, S6, q6⟩ := hsp; exact last S6 fun s7 J7 => ⟨_, _, J7, q6⟩
          | ret u => obtain ⟨v6, σ6, H6, S6, r6, q6⟩ := hsp; exact last S6 fun s7 J7 => ⟨_, _, _, J7, r6, q6⟩
    exact go hh wish
  · cases f with
    | next => obtain ⟨σ', H', J', q⟩ := hsp; exact wpAny_execs_nil ⟨σ', H', J'.ofTry okX, q⟩
    | brk => obtain ⟨σ', H', J', q⟩ := hsp; exact ⟨σ', H', J'.ofTry okX, q⟩
    | cont => obtain ⟨σ', H', J', q⟩ := hsp; exact ⟨σ', H', J'.ofTry okX, q⟩
    | ret u => obtain ⟨v, σ', H', J', r, q⟩ := hsp; exact ⟨v, σ', H', J'.ofTry okX, r, q⟩
end
end G
set_option maxHeartbeats 1000000
namespace G
open PySem PySem.Spec PyProof.Rows L2

/-- the frame's own lists and dicts are younger than the frame -/
def OwnNew (H0 : Hp) (ρ : Rho) (σ : L2.St) : Prop := ∀ (i : Nat) (sl : Sl) (p : Addr), ρ[i]? = some sl → sl.own = true → σ[i]? = some (some (.ref p)) → H0 p = none
/-- what is fixed for a body: the state at its entry -/
structure Fr where
  q : Pc
  ev : Ev
  W : XK
  F0 : Hp
  A0 : List Addr
  H0 : Hp
structure StS (f : Fr) (F : Hp) (A : List Addr) (H : Hp) (ρ : Rho) (S : Store) (σ : L2.St) : Prop where
  step : Step f.F0 f.A0 f.H0 F A H
  st : StR f.q.g F A S H
  en : EnvR f.q.g F A H ρ σ
  own : OwnNew f.H0 ρ σ
def PostS (f : Fr) (F : Hp) (A : List Addr) (o : Out Res) (D : Ends) : Prop := match o with
  | .ok (.nx ρ') S' => ∀ σ' F' A' H', Le F F' → A <+: A' → StS f F' A' H' ρ' S' σ' → D.nx σ' H'
  | .ok (.rt d) S' => ∀ v F' A' H', Le F F' → A <+: A' → Step f.F0 f.A0 f.H0 F' A' H' → StR f.q.g F' A' S' H' → RepX f.q.g false F' A' H' v d → D.rt v H'
  | .ex c pd S' => ∀ cls dd F' A' H', Le F F' → A <+: A' → Step f.F0 f.A0 f.H0 F' A' H' → StR f.q.g F' A' S' H' → ExR f.q.g f.q.fn F' A' H' c pd cls dd → f.W cls dd H'
  | .no => False
def tS (f : Fr) (s : S) : TS := fun D σ H => ∃ F A ρ S, StS f F A H ρ S σ ∧ PostS f F A (exec f.ev ρ s S) D
def tSs (f : Fr) (l : List S) : TS := fun D σ H => ∃ F A ρ S, StS f F A H ρ S σ ∧ PostS f F A (execs f.ev ρ l S) D
theorem ps_imp {X : Cx} {s : Stmt} {t t' : TS} (h : PS X s t) (i : ∀ D σ H, t' D σ H → t D σ H) : PS X s t' := ⟨fun pins s σ H D I w => h.run pins s σ H D I (i D σ H w)⟩
theorem pss_imp {X : Cx} {s : List Stmt} {t t' : TS} (h : PSs X s t) (i : ∀ D σ H, t' D σ H → t D σ H) : PSs X s t' := ⟨fun pins s σ H D I w => h.run pins s σ H D I (i D σ H w)⟩
section
variable {f : Fr} {α β : Type} {R : Hp → List Addr → Hp → β → α → Prop} {F F' : Hp} {A A' : List Addr} {H H' : Hp} {ρ : Rho} {S : Store} {σ : L2.St}
theorem PostS.mono {o : Out Res} {D : Ends} (h : PostS f F A o D) (l : Le F F') (p : A <+: A') : PostS f F' A' o D := by
  cases o with
  | ok a S => cases a with
    | nx ρ => exact fun σ' F2 A2 H2 l2 p2 s => h σ' F2 A2 H2 (l.trans l2) (p.trans p2) s
    | rt d => exact fun v F2 A2 H2 l2 p2 s => h v F2 A2 H2 (l.trans l2) (p.trans p2) s
  | ex c d S => exact fun cls dd F2 A2 H2 l2 p2 s => h cls dd F2 A2 H2 (l.trans l2) (p.trans p2) s
  | no => exact h
theorem PostS.bind {o : Out α} {k : α → Store → Out Res} {D : Ends} {T : β → Hp → Prop} (h : PostS f F A (o.bind k) D) (s0 : StS f F A H ρ S σ)
    (c : ∀ v F1 A1 H1 a S1, Step F A H F1 A1 H1 → StS f F1 A1 H1 ρ S1 σ → R F1 A1 H1 v a → PostS f F1 A1 (k a S1) D → T v H1) : PostOf f.q R f.W F A H o T := by
  cases o with
  | ok a S1 => exact fun v F1 A1 H1 t st r => c v F1 A1 H1 a S1 t ⟨s0.step.trans t, st, s0.en.step t, s0.own⟩ r (h.mono t.le t.px)
  | ex c d S => exact fun cls dd F2 A2 H2 t st r => h cls dd F2 A2 H2 t.le t.px (s0.step.trans t) st r
  | no => exact h
theorem StS.go {F1 : Hp} {A1 : List Addr} {H1 : Hp} {S1 : Store} (s0 : StS f F A H ρ S σ) (t : Step F A H F1 A1 H1) (st : StR f.q.g F1 A1 S1 H1) : StS f F1 A1 H1 ρ S1 σ := ⟨s0.step.trans t, st, s0.en.step t, s0.own⟩
theorem OwnNew.set {H0 : Hp} (h : OwnNew H0 ρ σ) {i : Nat} {sl : Sl} {o : Option V} (hn : ∀ p, sl.own = true → o = some (.ref p) → H0 p = none) : OwnNew H0 (ρ.set i sl) (σ.set i o) := by
  intro j sj p hj wj ej
  by_cases hji : i = j
  · subst hji
    by_cases hl : i < ρ.length
    · rw [List.getElem?_set_self hl] at hj; cases hj
      by_cases hs : i < σ.length
      · rw [List.getElem?_set_self hs] at ej
        exact hn p wj (Option.some.inj ej)
      · rw [List.getElem?_eq_none (by simp; omega)] at ej; cases ej
    · rw [List.getElem?_eq_none (by simp; omega)] at hj; cases hj
  · rw [List.getElem?_set_ne hji] at hj ej
    exact h j sj p hj wj ej
theorem StS.set {i : Nat} {v : V} {d : D} (s0 : StS f F A H ρ S σ) (r : Rep f.q.g F A v d) : StS f F A H (ρ.set i (.v d)) S (σ.set i (some v)) :=
  ⟨s0.step, s0.st, s0.en.set ⟨v, rfl, r⟩ rfl, s0.own.set fun p z => by cases z⟩
/-- a new own thing goes to a slot -/
theorem EnvR.setNew {g : Gc} (e : EnvR g F A H ρ σ) {i : Nat} {sl : Sl} {p : Addr} (r : SlR g F A H sl (some (.ref p))) (fr : ∀ (j : Nat) (sj : Sl) (p' : Addr), ρ[j]? = some sj → sj.own = true → σ[j]? = some (some (.ref p')) → p' ≠ p) : EnvR g F A H (ρ.set i sl) (σ.set i (some (.ref p))) := by
  refine ⟨by simp [e.len], fun j sj h => ?_, fun j k sj sk p' hjk hj wj hk wk ej ek => ?_⟩
  · by_cases hji : i = j
    · subst hji
      by_cases hl : i < ρ.length
      · rw [List.getElem?_set_self hl] at h; cases h
        exact ⟨_, by rw [List.getElem?_set_self (by rw [← e.len]; exact hl)], r⟩
      · rw [List.getElem?_eq_none (by simp; omega)] at h; cases h
    · rw [List.getElem?_set_ne hji] at h
      obtain ⟨o', q, r'⟩ := e.at_ j sj h
      exact ⟨o', by rw [List.getElem?_set_ne hji]; exact q, r'⟩
  · have at_i : ∀ {j : Nat}, i = j → (σ.set i (some (.ref p)))[j]? = some (some (V.ref p')) → p' = p := fun {j} z ej => by
      subst z
      by_cases hs : i < σ.length
      · rw [List.getElem?_set_self hs] at ej
        have := Option.some.inj (Option.some.inj ej)
        cases this; rfl
      · rw [List.getElem?_eq_none (by simp; omega)] at ej; cases ej
    by_cases ij : i = j
    · have ep := at_i ij ej
      have nk : i ≠ k := fun z => hjk (ij.symm.trans z)
      rw [List.getElem?_set_ne nk] at hk ek
      exact fr k sk p' hk wk ek ep
    · by_cases ik : i = k
      · have ep := at_i ik ek
        rw [List.getElem?_set_ne ij] at hj ej
        exact fr j sj p' hj wj ej ep
      · rw [List.getElem?_set_ne ij] at hj ej
        rw [List.getElem?_set_ne ik] at hk ek
        exact e.apart j k sj sk p' hjk hj wj hk wk ej ek
theorem StS.setNew {i : Nat} {v : V} {d : D} {sl : Sl} {Hs : Hp} (s0 : StS f F A H ρ S σ) (hs : ∀ (j : Nat) (sj : Sl) (p' : Addr), ρ[j]? = some sj → sj.own = true → σ[j]? = some (some (.ref p')) → Hs p' ≠ none) (h0 : ∀ p, Hs p = none → f.H0 p = none) (r : RepN f.q.g Hs F A H v d) (he : slOf true d = some sl) : StS f F A H (ρ.set i sl) S (σ.set i (some v)) := by
  obtain ⟨p, rfl, hA, hF, hH, ⟨xs, vs, rfl, hp, rl⟩ | ⟨t, ks, ws, o, vs, rfl, hp, dr, rl⟩⟩ := r
  · cases he
    exact ⟨s0.step, s0.st, s0.en.setNew ⟨p, vs, rfl, hp, rl, hF, hA⟩ fun j sj p' h1 h2 h3 z => hs j sj p' h1 h2 h3 (by rw [z]; exact hH), s0.own.set fun p' _ e => by cases e; exact h0 p hH⟩
  · cases he
    exact ⟨s0.step, s0.st, s0.en.setNew ⟨p, o, vs, rfl, hp, dr, rl, hF, hA⟩ fun j sj p' h1 h2 h3 z => hs j sj p' h1 h2 h3 (by rw [z]; exact hH), s0.own.set fun p' _ e => by cases e; exact h0 p hH⟩
theorem EnvR.live {g : Gc} (e : EnvR g F A H ρ σ) (j : Nat) (sj : Sl) (p' : Addr) (h : ρ[j]? = some sj) (w : sj.own = true) (e' : σ[j]? = some (some (.ref p'))) : H p' ≠ none ∧ F p' = none ∧ p' ∉ A := by
  obtain ⟨o, ho, r⟩ := e.at_ j sj h
  obtain ⟨p, e1, h1, h2, h3⟩ := r.own_at w
  rw [ho, e1] at e'
  cases e'
  exact ⟨h1, h2, h3⟩
theorem StS.live (s0 : StS f F A H ρ S σ) (j : Nat) (sj : Sl) (p' : Addr) (h : ρ[j]? = some sj) (w : sj.own = true) (e' : σ[j]? = some (some (.ref p'))) : H p' ≠ none := (s0.en.live j sj p' h w e').1
/-- an own thing is changed in its place -/
theorem StS.mut {i : Nat} {sl sl' : Sl} {p : Addr} {o : HO} (s0 : StS f F A H ρ S σ) (hi : ρ[i]? = some sl) (hw : sl.own = true) (hσ : σ[i]? = some (some (.ref p))) (r : SlR f.q.g F A (upd H p o) sl' (some (.ref p))) : StS f F A (upd H p o) (ρ.set i sl') S σ := by
  obtain ⟨h1, h2, h3⟩ := s0.en.live i sl p hi hw hσ
  have hl : i < ρ.length := (List.getElem?_eq_some_iff.mp hi).1
  have hn : f.H0 p = none := s0.own i sl p hi hw hσ
  refine ⟨s0.step.mut hn, s0.st.mut h2 h3, ⟨by simp [s0.en.len], fun j sj h => ?_, fun j k sj sk p' hjk hj wj hk wk ej ek => ?_⟩, fun j sj p' hj wj ej => ?_⟩
  · by_cases hji : i = j
    · subst hji
      rw [List.getElem?_set_self hl] at h; cases h
      exact ⟨_, hσ, r⟩
    · rw [List.getElem?_set_ne hji] at h
      obtain ⟨o', q, r'⟩ := s0.en.at_ j sj h
      refine ⟨o', q, ?_⟩
      cases sj with
      | no => trivial
      | v d => exact r'
      | ol xs =>
        obtain ⟨p', vs, e1, e2, e3⟩ := r'
        have ne : p' ≠ p := fun z => s0.en.apart i j sl (.ol xs) p hji hi hw h rfl hσ (by rw [q, e1, z])
        exact ⟨p', vs, e1, by rw [upd_ne ne]; exact e2, e3⟩
      | od t ks ws =>
        obtain ⟨p', ho, vs, e1, e2, e3⟩ := r'
        have ne : p' ≠ p := fun z => s0.en.apart i j sl (.od t ks ws) p hji hi hw h rfl hσ (by rw [q, e1, z])
        exact ⟨p', ho, vs, e1, by rw [upd_ne ne]; exact e2, e3⟩
  · have was : ∀ {j : Nat} {sj : Sl}, (ρ.set i sl')[j]? = some sj → sj.own = true → ∃ s', ρ[j]? = some s' ∧ s'.own = true := fun {j sj} hj wj => by
      by_cases z : i = j
      · subst z; exact ⟨sl, hi, hw⟩
      · rw [List.getElem?_set_ne z] at hj; exact ⟨sj, hj, wj⟩
    obtain ⟨s1, a1, b1⟩ := was hj wj
    obtain ⟨s2, a2, b2⟩ := was hk wk
    exact s0.en.apart j k s1 s2 p' hjk a1 b1 a2 b2 ej ek
  · by_cases z : i = j
    · subst z
      exact s0.own i sl p' hi hw ej
    · rw [List.getElem?_set_ne z] at hj
      exact s0.own j sj p' hj wj ej
end
section
variable {X : Cx} {f : Fr} {m : Md} {a b c x : Expr} {e e1 e2 e3 : E} {es : List E} {pos p : Pos} {y : Str} {i : Nat}
theorem ss_nil : PSs X [] (tSs f []) := pss_imp pss_nil fun D σ H ⟨F, A, ρ, S, s0, po⟩ => by
  simp only [execs] at po
  exact po σ F A H (Le.refl _) List.prefix_rfl s0
theorem ss_cons {st : Stmt} {sts : List Stmt} {s : S} {r : List S} (h1 : PS X st (tS f s)) (h2 : PSs X sts (tSs f r)) : PSs X (st :: sts) (tSs f (s :: r)) := by
  refine pss_imp (pss_cons h1 h2) fun D σ H ⟨F, A, ρ, S, s0, po⟩ => ?_
  simp only [execs] at po
  refine ⟨F, A, ρ, S, s0, ?_⟩
  cases ho : exec f.ev ρ s S with
  | no => rw [ho] at po; exact po
  | ex c d S' => rw [ho] at po; exact po
  | ok res S' =>
    rw [ho] at po
    cases res with
    | rt d => exact po
    | nx ρ' =>
      intro σ' F' A' H' l p s1
      exact ⟨F', A', ρ', S', s1, PostS.mono (o := execs f.ev ρ' r S') po l p⟩
theorem st_asg (hN : X.N.Nodup) (hi : X.N[i]? = some y) (hx : Loc X.env.scope y) (hs : swapsWith a (some (.Name y p)) pos.line X.env = pure false) (hf : X.fn y = true ∨ X.env.scope.names.lookup y = some .local) (ha : PE X a (tE f.q f.ev f.W (.x false) e)) : PS X (.Assign [.Name y p] a pos) (tS f (.asg i e)) := by
  refine ps_imp (ps_set hN hi hx ha hs hf) fun D σ H ⟨F, A, ρ, S, s0, po⟩ => ?_
  simp only [exec] at po
  refine ⟨F, A, ρ, S, s0.st, s0.en, po.bind s0 fun v F1 A1 H1 d S1 t s1 r po => ?_⟩
  exact po _ F1 A1 H1 (Le.refl _) List.prefix_rfl (s1.set r.no)
theorem own_read {D : Ends} {σ : L2.St} {H : Hp} (h : tS f (.own i e) D σ H) : tE f.q f.ev f.W .new e σ H fun x H1 => gName i x σ H1 D.nx := by
  obtain ⟨F, A, ρ, S, s0, po⟩ := h
  simp only [exec] at po
  refine ⟨F, A, ρ, S, s0.st, s0.en, po.bind s0 fun v F1 A1 H1 d S1 t s1 r po => ?_⟩
  cases he : slOf true d with
  | none => rw [he] at po; exact po.elim
  | some sl =>
    rw [he] at po
    exact po _ F1 A1 H1 (Le.refl _) List.prefix_rfl (s1.setNew s0.live (fun p h => s0.step.non h) r he)
theorem st_own (hN : X.N.Nodup) (hi : X.N[i]? = some y) (hx : Loc X.env.scope y) (hs : swapsWith a (some (.Name y p)) pos.line X.env = pure false) (hf : X.fn y = true ∨ X.env.scope.names.lookup y = some .local) (ha : PE X a (tE f.q f.ev f.W .new e)) : PS X (.Assign [.Name y p] a pos) (tS f (.own i e)) :=
  ps_imp (ps_set hN hi hx ha hs hf) fun D σ H h => own_read h
theorem asg_new {D : Ends} {σ : L2.St} {H : Hp} (h : tS f (.asg i e) D σ H) : tE f.q f.ev f.W (.x false) e σ H fun x H1 => gName i x σ H1 D.nx := by
  obtain ⟨F, A, ρ, S, s0, po⟩ := h
  simp only [exec] at po
  refine ⟨F, A, ρ, S, s0.st, s0.en, po.bind s0 fun v F1 A1 H1 d S1 t s1 r po => ?_⟩
  exact po _ F1 A1 H1 (Le.refl _) List.prefix_rfl (s1.set r.no)
theorem st_pass : PS X (.Pass pos) (tS f .pass) := ps_imp ps_pass fun D σ H ⟨F, A, ρ, S, s0, po⟩ => by
  simp only [exec] at po
  exact po σ F A H (Le.refl _) List.prefix_rfl s0
theorem st_doc {z : Str} {j : Nat} {p2 : Pos} : PS X (.Expr (.Constant (.str z) j pos) p2) (tS f .pass) := ps_imp ps_doc fun D σ H ⟨F, A, ρ, S, s0, po⟩ => by
  simp only [exec] at po
  exact po σ F A H (Le.refl _) List.prefix_rfl s0
theorem st_no {st : Stmt} : PS X st (tS f .no) := ps_imp ps_never fun D σ H ⟨F, A, ρ, S, s0, po⟩ => po
theorem st_ret (ha : PE X a (tE f.q f.ev f.W (.x false) e)) : PS X (.Return (some a) pos) (tS f (.ret e)) := by
  refine ps_imp (ps_ret ha) fun D σ H ⟨F, A, ρ, S, s0, po⟩ => ?_
  simp only [exec] at po
  refine ⟨F, A, ρ, S, s0.st, s0.en, po.bind s0 fun v F1 A1 H1 d S1 t s1 r po => ?_⟩
  exact po v F1 A1 H1 (Le.refl _) List.prefix_rfl s1.step s1.st r
theorem st_retN : PS X (.Return none pos) (tS f .retN) := ps_imp ps_retN fun D σ H ⟨F, A, ρ, S, s0, po⟩ => by
  simp only [exec] at po
  exact po .non F A H (Le.refl _) List.prefix_rfl s0.step s0.st (.inl rfl)
theorem st_ex (hs : swapsWith a none pos.line X.env = pure false) (ha : PE X a (tE f.q f.ev f.W (.x false) e)) : PS X (.Expr a pos) (tS f (.ex e)) := by
  refine ps_imp (ps_expr ha hs) fun D σ H ⟨F, A, ρ, S, s0, po⟩ => ?_
  simp only [exec] at po
  refine ⟨F, A, ρ, S, s0.st, s0.en, po.bind s0 fun v F1 A1 H1 d S1 t s1 r po => ?_⟩
  exact po σ F1 A1 H1 (Le.refl _) List.prefix_rfl s1
theorem exec_ife {ρ : Rho} {S : Store} {t u : List G.S} : exec f.ev ρ (.ife e t u) S = ((evalE f.ev ρ e S).bind asB).bind fun b S1 => if b = true then execs f.ev ρ t S1 else execs f.ev ρ u S1 := by
  simp only [exec]
  cases evalE f.ev ρ e S with
  | ok d S1 =>
    cases d with
    | bl b => cases b <;> rfl
    | _ => rfl
  | ex c d S => rfl
  | no => rfl
theorem st_ife {t u : List G.S} {bt bu : List Stmt} (hc : PT X c (tT f.q f.ev f.W e)) (ht : PSs X bt (tSs f t)) (hu : PSs X bu (tSs f u)) : PS X (.If c bt bu pos) (tS f (.ife e t u)) := by
  refine ps_imp (ps_if hc ht hu) fun D σ H ⟨F, A, ρ, S, s0, po⟩ => ?_
  rw [exec_ife] at po
  refine ⟨F, A, ρ, S, s0.st, s0.en, po.bind s0 fun v F1 A1 H1 d S1 t s1 r po => ?_⟩
  cases r
  cases v with
  | true => rw [if_pos rfl] at po ⊢; exact ⟨F1, A1, ρ, S1, s1, po⟩
  | false => rw [if_neg (by simp)] at po ⊢; exact ⟨F1, A1, ρ, S1, s1, po⟩
theorem putAll_own {H0 : Hp} : ∀ {is : List Nat} {ds : List D} {vs : List V} {ρ ρ' : Rho} {σ : L2.St}, vs.length = ds.length → putAll ρ is ds = some ρ' → OwnNew H0 ρ σ → OwnNew H0 ρ' (setVs σ is vs)
  | [], [], [], _, _, _, _, h, o => by cases h; exact o
  | [], [], _ :: _, _, _, _, h, _, _ => by cases h
  | [], _ :: _, _, _, _, _, _, h, _ => by cases h
  | _ :: _, [], _, _, _, _, _, h, _ => by cases h
  | _ :: _, _ :: _, [], _, _, _, h, _, _ => by cases h
  | i :: is, d :: ds, v :: vs, ρ, ρ', σ, hl, h, o => putAll_own (is := is) (ds := ds) (vs := vs) (by simpa using hl) h (o.set fun p z => by cases z)
/-- a target takes a value -/
theorem target_st {F : Hp} {A : List Addr} {S : Store} {H : Hp} {tgt : Tg} {v : V} {d : D} {ρ ρ' : Rho} {σ : L2.St} (s0 : StS f F A H ρ S σ) (r : Rep f.q.g F A v d) (h : putTg S ρ tgt d = some ρ') :
    ∃ σ', StS f F A H ρ' S σ' ∧ (∀ Q : L2.St → Hp → Prop, Q σ' H → gT f.q.g.K tgt v σ H Q) := by
  cases tgt with
  | name i =>
    cases h
    exact ⟨_, s0.set r, fun Q h => h⟩
  | tup is =>
    have go : ∀ {a vs xs}, v = .ref a → SqT f.q.g.K H a vs → RepL f.q.g F A vs xs → putAll ρ is xs = some ρ' → ∃ σ', StS f F A H ρ' S σ' ∧ (∀ Q : L2.St → Hp → Prop, Q σ' H → gT f.q.g.K (.tup is) v σ H Q) := by
      intro a vs xs e hq rl h
      obtain ⟨hl, en2⟩ := putAll_ok rl h s0.en
      exact ⟨_, ⟨s0.step, s0.st, en2, putAll_own rl.len h s0.own⟩, fun Q hQ => ⟨a, vs, e, hq, hl, gTs_ok hl hQ⟩⟩
    cases d with
    | tup xs => obtain ⟨a, vs, e, hf, rl⟩ := r; exact go e (SqT.of (s0.st.fin.tup hf)) rl h
    | kt xs => obtain ⟨a, vs, e, hf, rl⟩ := r; exact go e (s0.st.fin.sqT hf) rl h
    | _ => cases h
theorem st_asgT {is : List Nat} {tx : Expr} (hg : PG X tx (gT f.q.g.K (.tup is))) (hs : swapsWithSole [tx] a pos.line X.env = pure false) (hw : swappedStores [tx] a X.env = pure none) (h1 : (assignEach [tx] X.env).map (·.2) = [assign tx X.env]) (ha : PE X a (tE f.q f.ev f.W (.x false) e)) : PS X (.Assign [tx] a pos) (tS f (.asgT is e)) := by
  refine ps_imp (ps_asg ha hg hs hw h1) fun D σ H ⟨F, A, ρ, S, s0, po⟩ => ?_
  simp only [exec] at po
  refine ⟨F, A, ρ, S, s0.st, s0.en, po.bind s0 fun v F1 A1 H1 d S1 t s1 r po => ?_⟩
  cases hp : putTg S1 ρ (.tup is) d with
  | none => rw [hp] at po; exact po.elim
  | some ρ' =>
    rw [hp] at po
    obtain ⟨σ', s2, hQ⟩ := target_st s1 r.no hp
    exact hQ _ (po σ' F1 A1 H1 (Le.refl _) List.prefix_rfl s2)
/-- for -/
theorem st_for {tgt : Tg} {k : ItK} {it : List E} {bl : List G.S} {body : List Stmt} {tx ix : Expr} (hp : PassesOwn (model X.prog X.w) X.A X.env X.xe) (hc : X.calm = true) (hi : PI X tx ix (iT f.q f.ev f.W false k it)) (hg : PG X tx (gT f.q.g.K tgt)) (hb : PSs X body (tSs f bl)) (hs : nset ix = true) :
    PS X (.For tx ix body [] pos) (tS f (.for_ tgt k it bl)) := by
  refine ps_imp (ps_for hp hc hi hg hb (folded_of hs)) fun D σ H ⟨F, A, ρ, S, s0, po⟩ => ?_
  simp only [exec] at po
  have po2 : PostS f F A (((evalEs f.ev ρ it S).bind fun ds S1 => .of (itemsOf k ds) S1).bind fun xs S1 => loopF tgt (fun ρ' S' => execs f.ev ρ' bl S') xs ρ S1) D := by
    cases hev : evalEs f.ev ρ it S with
    | ok ds S1 =>
      rw [hev] at po
      show PostS f F A (Out.bind (.of (itemsOf k ds) S1) _) D
      have po : PostS f F A (match itemsOf k ds with | none => (.no : Out Res) | some xs => _) D := po
      cases hk : itemsOf k ds with
      | none => rw [hk] at po; exact po
      | some xs => rw [hk] at po; exact po
    | ex c d S => rw [hev] at po; exact po
    | no => rw [hev] at po; exact po
  replace po := po2
  refine ⟨F, A, ρ, S, s0.st, s0.en, po.bind s0 fun J F1 A1 H1 xs S1 t s1 hJ po => ?_⟩
  obtain ⟨Gd, Y, w, hY⟩ := hJ.out
  let Pv : Nat → L2.St → Hp → Prop := fun i σ H => ∃ F A ρ S, StS f F A H ρ S σ ∧ Le F1 F ∧ A1 <+: A ∧ PostS f F1 A1 (loopF tgt (fun ρ' S' => execs f.ev ρ' bl S') (xs.drop i) ρ S) D
  refine for_it w (D := D) Pv ⟨F1, A1, ρ, S1, s1, Le.refl _, List.prefix_rfl, by rw [List.drop_zero]; exact po⟩ (fun i σ H _ ⟨F, A, ρ, S, s0, l, px, _⟩ => (hY F A S H ⟨l, px, fun z => by cases z⟩ s0.st).1) (fun i x σ H H' hi ⟨F, A, ρ, S, s0, l, px, po⟩ y => ?_) (fun σ H ⟨F, A, ρ, S, s0, l, px, po⟩ => ?_)
  · obtain ⟨d, F2, hd, t2, st2, r2⟩ := (hY F A S H ⟨l, px, fun z => by cases z⟩ s0.st).2 i x H' hi y
    have ed : xs.drop i = d :: xs.drop (i + 1) := by
      rw [List.drop_eq_getElem_cons hi]
      rw [List.getElem?_eq_getElem hi] at hd
      rw [Option.some.inj hd]
    rw [ed] at po
    simp only [loopF] at po
    cases hpt : putTg S ρ tgt d with
    | none => rw [hpt] at po; exact po.elim
    | some ρ' =>
      simp only [hpt] at po
      obtain ⟨σ2, s2, hQ⟩ := target_st (s0.go t2 st2) r2 hpt
      refine hQ _ ⟨F2, A, ρ', S, s2, ?_⟩
      cases ho : execs f.ev ρ' bl S with
      | no => rw [ho] at po; exact po
      | ex c p S' => rw [ho] at po; exact PostS.mono (o := .ex c p S') po (l.trans t2.le) px
      | ok res S' =>
        rw [ho] at po
        cases res with
        | rt d => exact PostS.mono (o := .ok (.rt d) S') po (l.trans t2.le) px
        | nx ρ3 =>
          intro σ3 F3 A3 H3 l3 p3 s3
          exact ⟨F3, A3, ρ3, S', s3, (l.trans t2.le).trans l3, px.trans p3, po⟩
  · rw [List.drop_length] at po
    simp only [loopF] at po
    exact po σ F A H l px s0
end
end G
set_option maxHeartbeats 1000000
namespace G
open PySem PySem.Spec PyProof.Rows L2
section
variable {X : Cx} {f : Fr} {m : Md} {a b c x : Expr} {e e1 e2 e3 : E} {es : List E} {pos p : Pos} {y : Str} {i j : Nat}
def mOf : Bool → Md
  | true => .new
  | false => .x false
/-- what two answers give to two slots -/
theorem two_slots {Fs : Hp} {As : List Addr} {H : Hp} {ρ : Rho} {Ss : Store} {σ : L2.St} {F1 : Hp} {A1 : List Addr} {H1 : Hp} {S1 : Store} {F2 : Hp} {A2 : List Addr} {H2 : Hp} {S2 : Store} {v w : V} {d1 d2 : D} {oi oj : Bool} {sx sy : Sl}
    (s0 : StS f Fs As H ρ Ss σ) (t1 : Step Fs As H F1 A1 H1) (t2 : Step F1 A1 H1 F2 A2 H2) (s2 : StS f F2 A2 H2 ρ S2 σ) (r1 : RepM f.q.g H (mOf oi) F1 A1 H1 v d1) (r2 : RepM f.q.g H1 (mOf oj) F2 A2 H2 w d2) (h1 : slOf oi d1 = some sx) (h2 : slOf oj d2 = some sy) :
    StS f F2 A2 H2 ((ρ.set i sx).set j sy) S2 ((σ.set i (some v)).set j (some w)) := by
  have n0 : ∀ p, H p = none → f.H0 p = none := fun p h => s0.step.non h
  have first : StS f F2 A2 H2 (ρ.set i sx) S2 (σ.set i (some v)) ∧ (∀ p, sx.own = true → v = .ref p → H1 p ≠ none) := by
    cases oi with
    | false =>
      cases h1
      exact ⟨s2.set ((RepX.no r1).mono t2.le t2.px), fun p z => by cases z⟩
    | true =>
      have r1 : RepN f.q.g H F1 A1 H1 v d1 := r1
      obtain ⟨p, rfl, hA, hF, hH, h⟩ := r1
      have hl : H1 p ≠ none := by
        rcases h with ⟨xs, vs, _, hp, _⟩ | ⟨t, ks, ws, o, vs, _, hp, _, _⟩ <;> (rw [hp]; exact fun z => nomatch z)
      have hA2 : p ∉ A2 := fun m => hl (t2.frA p m hA)
      have hF2 : F2 p = none := by
        cases e : F2 p with
        | none => rfl
        | some u =>
          have z := t2.frF p hA (by rw [e]; exact fun z => nomatch z) hF
          rcases h with ⟨xs, vs, _, hp, _⟩ | ⟨t, ks, ws, o, vs, _, hp, dr, _⟩
          · rw [hp] at z; exact (z trivial).elim
          · rw [hp] at z; exact (z (mut_dct dr)).elim
      have rn : RepN f.q.g H F2 A2 H2 (.ref p) d1 := by
        refine ⟨p, rfl, hA2, hF2, hH, ?_⟩
        rcases h with ⟨xs, vs, e, hp, rl⟩ | ⟨t, ks, ws, o, vs, e, hp, dr, rl⟩
        · exact .inl ⟨xs, vs, e, t2.keep p _ hp hA, rl.mono t2.le t2.px⟩
        · exact .inr ⟨t, ks, ws, o, vs, e, t2.keep p _ hp hA, dr, rl.mono t2.le t2.px⟩
      exact ⟨s2.setNew s0.live n0 rn h1, fun p' _ z => by cases z; exact hl⟩
  obtain ⟨sA, hv⟩ := first
  cases oj with
  | false =>
    cases h2
    exact sA.set (RepX.no r2)
  | true =>
    have r2 : RepN f.q.g H1 F2 A2 H2 w d2 := r2
    refine sA.setNew (Hs := H1) (fun k sk p' hk wk ek => ?_) (fun p h => n0 p (t1.non h)) r2 h2
    by_cases z : i = k
    · subst z
      by_cases hl : i < ρ.length
      · rw [List.getElem?_set_self hl] at hk; cases hk
        rw [List.getElem?_set_self (by rw [← s0.en.len]; exact hl)] at ek
        exact hv p' wk (Option.some.inj (Option.some.inj ek))
      · rw [List.getElem?_eq_none (by simp; omega)] at hk; cases hk
    · rw [List.getElem?_set_ne z] at hk ek
      exact t1.live p' (s0.live k sk p' hk wk ek)
theorem pa_two (hs : nstar a = true) (hs' : nstar b = true) {ta tb : TE} (ha : PE X a ta) (hb : PE X b tb) : PA X [a, b] (tCons ta (tCons tb tNil)) := pa_cons ha (pa_cons hb pa_nil (starEach_cons hs')) (starEach_cons hs)
theorem st_par2 {oi oj : Bool} {y2 : Str} {px py pt : Pos} {kt k2 : Nat} {pt2 : Pos} (hc : X.calm = true) (hN : X.N.Nodup) (hi : X.N[i]? = some y) (hj : X.N[j]? = some y2) (hij : i ≠ j) (hx : X.env.scope.names.lookup y = some .local) (hy : X.env.scope.names.lookup y2 = some .local)
    (hs : nstar a = true) (hs' : nstar b = true) (hw : swappedStores [.Tuple [.Name y px, .Name y2 py] kt pt] (.Tuple [a, b] k2 pt2) X.env = pure (some [y, y2]))
    (ha : PE X a (tE f.q f.ev f.W (mOf oi) e1)) (hb : PE X b (tE f.q f.ev f.W (mOf oj) e2)) : PS X (.Assign [.Tuple [.Name y px, .Name y2 py] kt pt] (.Tuple [a, b] k2 pt2) pos) (tS f (.par2 i j oi oj e1 e2)) := by
  refine ps_imp (ps_par hc hN hi hj hij hx hy (pa_two hs hs' ha hb) hw) fun D σ H ⟨F, A, ρ, S, s0, po⟩ => ?_
  simp only [exec] at po
  refine ⟨F, A, ρ, S, s0.st, s0.en, po.bind s0 fun v F1 A1 H1 d1 S1 t1 s1 r1 po => ?_⟩
  refine ⟨F1, A1, ρ, S1, s1.st, s1.en, po.bind s1 fun w F2 A2 H2 d2 S2 t2 s2 r2 po => ?_⟩
  refine ⟨v, w, rfl, ?_⟩
  cases h1 : slOf oi d1 with
  | none => rw [h1] at po; exact po.elim
  | some sx =>
    cases h2 : slOf oj d2 with
    | none => rw [h1, h2] at po; exact po.elim
    | some sy =>
      rw [h1, h2] at po
      exact po _ F2 A2 H2 (Le.refl _) List.prefix_rfl (two_slots (S1 := S1) s0 t1 t2 s2 r1 r2 h1 h2)
/-- the same through a tuple: where a name is captured -/
theorem st_par2c {oi oj : Bool} {tx : Expr} {k2 : Nat} {pt2 : Pos} (hg : PG X tx (gT f.q.g.K (.tup [i, j]))) (hsw : swapsWithSole [tx] (.Tuple [a, b] k2 pt2) pos.line X.env = pure false) (hw : swappedStores [tx] (.Tuple [a, b] k2 pt2) X.env = pure none) (h1 : (assignEach [tx] X.env).map (·.2) = [assign tx X.env])
    (hs : nstar a = true) (hs' : nstar b = true)
    (ha : PE X a (tE f.q f.ev f.W (mOf oi) e1)) (hb : PE X b (tE f.q f.ev f.W (mOf oj) e2)) : PS X (.Assign [tx] (.Tuple [a, b] k2 pt2) pos) (tS f (.par2 i j oi oj e1 e2)) := by
  refine ps_imp (ps_asg (pe_tup (pa_two hs hs' ha hb)) hg hsw hw h1) fun D σ H ⟨F, A, ρ, S, s0, po⟩ => ?_
  simp only [exec] at po
  refine ⟨F, A, ρ, S, s0.st, s0.en, po.bind s0 fun v F1 A1 H1 d1 S1 t1 s1 r1 po => ?_⟩
  refine ⟨F1, A1, ρ, S1, s1.st, s1.en, po.bind s1 fun w F2 A2 H2 d2 S2 t2 s2 r2 po => ?_⟩
  refine ⟨by simp [sizeLine_eq], fun p hp => ?_⟩
  cases h1 : slOf oi d1 with
  | none => rw [h1] at po; exact po.elim
  | some sx =>
    cases h2 : slOf oj d2 with
    | none => rw [h1, h2] at po; exact po.elim
    | some sy =>
      rw [h1, h2] at po
      have s3 := two_slots (i := i) (j := j) (S1 := S1) s0 t1 t2 s2 r1 r2 h1 h2
      obtain ⟨t3, st3, _, _⟩ := s3.st.own (o := .tup [v, w]) hp
      have s4 := s3.go t3 st3
      exact ⟨p, [v, w], rfl, SqT.of upd_same, rfl, gTs_ok rfl (po _ F2 A2 _ (Le.refl _) List.prefix_rfl s4)⟩
theorem st_par3 {l : Nat} {y2 y3 : Str} {px py pz pt : Pos} {kt k2 : Nat} {pt2 : Pos} (hc : X.calm = true) (hN : X.N.Nodup) (hi : X.N[i]? = some y) (hj : X.N[j]? = some y2) (hl : X.N[l]? = some y3) (hij : i ≠ j) (hil : i ≠ l) (hjl : j ≠ l) (hx : X.env.scope.names.lookup y = some .local) (hy : X.env.scope.names.lookup y2 = some .local) (hz : X.env.scope.names.lookup y3 = some .local)
    (hs : nstar a = true) (hs' : nstar b = true) (hs2 : nstar c = true) (hw : swappedStores [.Tuple [.Name y px, .Name y2 py, .Name y3 pz] kt pt] (.Tuple [a, b, c] k2 pt2) X.env = pure (some [y, y2, y3]))
    (ha : PE X a (tE f.q f.ev f.W (.x false) e1)) (hb : PE X b (tE f.q f.ev f.W (.x false) e2)) (hcc : PE X c (tE f.q f.ev f.W (.x false) e3)) : PS X (.Assign [.Tuple [.Name y px, .Name y2 py, .Name y3 pz] kt pt] (.Tuple [a, b, c] k2 pt2) pos) (tS f (.par3 i j l e1 e2 e3)) := by
  refine ps_imp (ps_par3 hc hN hi hj hl hij hil hjl hx hy hz (pa_cons ha (pa_two hs' hs2 hb hcc) (starEach_cons hs)) hw) fun D σ H ⟨F, A, ρ, S, s0, po⟩ => ?_
  simp only [exec] at po
  refine ⟨F, A, ρ, S, s0.st, s0.en, po.bind s0 fun v F1 A1 H1 d1 S1 t1 s1 r1 po => ?_⟩
  refine ⟨F1, A1, ρ, S1, s1.st, s1.en, po.bind s1 fun w F2 A2 H2 d2 S2 t2 s2 r2 po => ?_⟩
  refine ⟨F2, A2, ρ, S2, s2.st, s2.en, po.bind s2 fun u F3 A3 H3 d3 S3 t3 s3 r3 po => ?_⟩
  exact ⟨v, w, u, rfl, po _ F3 A3 H3 (Le.refl _) List.prefix_rfl (((s3.set (r1.no.mono (t2.le.trans t3.le) (t2.px.trans t3.px))).set (r2.no.mono t3.le t3.px)).set r3.no)⟩
/-! ### x[k] = e -/
theorem pset_or {t t' : TSet} (h : PSet X t) (h' : PSet X t') : PSet X (fun o i v H Q => t o i v H Q ∨ t' o i v H Q) := fun pins s σ H o i v ov iv u Q I ro ri rv q => q.elim (h pins s σ H o i v ov iv u Q I ro ri rv) (h' pins s σ H o i v ov iv u Q I ro ri rv)
theorem ixOf_eq {n : Nat} {k : Int} {j : Nat} (h : ixOf n k = some j) : ixN n k = some j := h
theorem st_setI {ix : E} {tp p2 : Pos} (hu : X.A.units + 65 < cLine) (hN : X.N[i]? = some y) (h2 : Vis X.env.scope y) (h3 : (y == ("__debug__" : Str)) = false) (h4 : (y == ("__classdict__" : Str)) = false) (hsw : swapsWithSole [.Subscript (.Name y p) b tp] a pos.line X.env = pure false)
    (hass : ∀ v, assign (.Subscript (.Name y p) b tp) X.env v = (do
      let ov ← holding [v] (eval (.Name y p) X.env)
      let iv ← holding [v, ov] (eval b X.env)
      standAt tp
      holding [v, ov, iv] (setItem ov iv v)
      release [v, ov, iv] []))
    (ha : PE X a (tE f.q f.ev f.W (.x false) e)) (hb : PE X b (tE f.q f.ev f.W (.x false) ix)) : PS X (.Assign [.Subscript (.Name y p) b tp] a pos) (tS f (.setI i ix e)) := by
  refine ps_imp (ps_asg ha (pg_sub (pe_var hN h2 h3 h4) hb (pset_or set_list (set_dict (by omega))) hass) hsw) fun D σ H ⟨F, A, ρ, S, s0, po⟩ => ?_
  simp only [exec] at po
  refine ⟨F, A, ρ, S, s0.st, s0.en, po.bind s0 fun v F1 A1 H1 d S1 t1 s1 r1 po => ?_⟩
  cases hsl : ρ[i]? with
  | none => rw [hsl] at po; exact po.elim
  | some sl =>
  rw [hsl] at po
  by_cases hw : sl.own = true
  · simp only [hw, if_true] at po
    obtain ⟨o0, ho0, rs⟩ := s1.en.at_ i sl hsl
    obtain ⟨p0, e0, hl0, _, _⟩ := rs.own_at hw
    subst e0
    refine ⟨.ref p0, ho0, F1, A1, ρ, S1, s1.st, s1.en, po.bind s1 fun k F2 A2 H2 dk S2 t2 s2 r2 po => ?_⟩
    obtain ⟨o2, ho2, rs2⟩ := s2.en.at_ i sl hsl
    rw [ho0] at ho2; cases ho2
    cases hsd : setD sl dk d with
    | none => simp only [hsd] at po; exact po.elim
    | some sl' =>
      simp only [hsd] at po
      have rd := r1.no.mono t2.le t2.px
      have rk := r2.no
      unfold setD at hsd
      split at hsd
      · rename_i xs k0
        rw [Option.map_eq_some_iff] at hsd
        obtain ⟨ys, hset, rfl⟩ := hsd
        unfold setAt at hset
        rw [Option.map_eq_some_iff] at hset
        obtain ⟨j, hj, rfl⟩ := hset
        obtain ⟨p1, vs, e1, hp, rl, hf, hA⟩ := rs2
        cases e1
        refine .inl ⟨p0, vs, k0, j, rfl, rx_int r2, hp, by rw [rl.len]; exact hj, ?_⟩
        exact po σ F2 A2 _ (Le.refl _) List.prefix_rfl (s2.mut hsl hw ho0 ⟨p0, _, rfl, upd_same, rl.set rd j, hf, hA⟩)
      · rename_i t ks ws
        split at hsd
        · rename_i hc
          cases hsd
          rw [Bool.and_eq_true] at hc
          obtain ⟨p1, ho, vs, e1, hp, dr, rl, hf, hA⟩ := rs2
          cases e1
          obtain ⟨o', vs', put, dr', rl'⟩ := dput_ok s2.st hp dr rl hc.1 rk rd hc.2
          exact .inr ⟨p0, _, rfl, put, po σ F2 A2 _ (Le.refl _) List.prefix_rfl (s2.mut hsl hw ho0 ⟨p0, o', vs', rfl, upd_same, dr', rl', hf, hA⟩)⟩
        · cases hsd
      · cases hsd
  · simp only [hw] at po; exact po.elim
/-- o[k] = e, o a cell -/
theorem st_setC {o ix : E} {xo : Expr} {tp : Pos} (hu : X.A.units + 65 < cLine) (hsw : swapsWithSole [.Subscript xo b tp] a pos.line X.env = pure false)
    (hass : ∀ v, assign (.Subscript xo b tp) X.env v = (do
      let ov ← holding [v] (eval xo X.env)
      let iv ← holding [v, ov] (eval b X.env)
      standAt tp
      holding [v, ov, iv] (setItem ov iv v)
      release [v, ov, iv] []))
    (ha : PE X a (tE f.q f.ev f.W (.x false) e)) (ho : PE X xo (tE f.q f.ev f.W (.x false) o)) (hb : PE X b (tE f.q f.ev f.W (.x false) ix)) : PS X (.Assign [.Subscript xo b tp] a pos) (tS f (.setC o ix e)) := by
  refine ps_imp (ps_asg ha (pg_sub ho hb (pset_or set_list (set_dict (by omega))) hass) hsw) fun D σ H ⟨F, A, ρ, S, s0, po⟩ => ?_
  simp only [exec] at po
  refine ⟨F, A, ρ, S, s0.st, s0.en, po.bind s0 fun v F1 A1 H1 d S1 t1 s1 r1 po => ?_⟩
  refine ⟨F1, A1, ρ, S1, s1.st, s1.en, po.bind s1 fun w F2 A2 H2 d2 S2 t2 s2 r2 po => ?_⟩
  refine ⟨F2, A2, ρ, S2, s2.st, s2.en, po.bind s2 fun k F3 A3 H3 dk S3 t3 s3 r3 po => ?_⟩
  cases hsc : setCell S3 d2 dk d with
  | none => rw [hsc] at po; exact po.elim
  | some S4 =>
    rw [hsc] at po
    have rd := r1.no.mono (t2.le.trans t3.le) (t2.px.trans t3.px)
    have ro := r2.no.mono t3.le t3.px
    have rk := r3.no
    unfold setCell at hsc
    split at hsc
    · rename_i n
      obtain ⟨a0, rfl, hA0⟩ := ro
      split at hsc
      · rename_i xs k0 hS
        rw [Option.map_eq_some_iff] at hsc
        obtain ⟨ys, hset, rfl⟩ := hsc
        unfold setAt at hset
        rw [Option.map_eq_some_iff] at hset
        obtain ⟨j, hj, rfl⟩ := hset
        obtain ⟨a1, hA1, hF1, vs, hp, rl⟩ := s3.st.cell n _ hS
        rw [hA0] at hA1; cases hA1
        obtain ⟨t4, st4⟩ := s3.st.put (o := .lst (vs.set j v)) (c' := .lst (xs.set j d)) hA0 ⟨_, upd_same, rl.set rd j⟩
        exact .inl ⟨a0, vs, k0, j, rfl, rx_int r3, hp, by rw [rl.len]; exact hj, po σ F3 A3 _ (Le.refl _) List.prefix_rfl (s3.go t4 st4)⟩
      · rename_i k9 t ks ws hS
        split at hsc
        · rename_i hc
          cases hsc
          rw [Bool.and_eq_true] at hc
          obtain ⟨a1, hA1, hF1, ho, vs, hp, dr, rl⟩ := s3.st.cell n _ hS
          rw [hA0] at hA1; cases hA1
          obtain ⟨o', vs', put, dr', rl'⟩ := dput_ok s3.st hp dr rl hc.1 rk rd hc.2
          obtain ⟨t4, st4⟩ := s3.st.put (o := o') (c' := .dct t _ _) hA0 ⟨o', vs', upd_same, dr', rl'⟩
          exact .inr ⟨a0, _, rfl, put, po σ F3 A3 _ (Le.refl _) List.prefix_rfl (s3.go t4 st4)⟩
        · cases hsc
      · cases hsc
    · cases hsc
/-! ### fields -/
theorem putF_ok {g : Gc} {F : Hp} {A : List Addr} {fl : Str} {v : V} {d : D} (r : Rep g F A v d) : ∀ {fs' : List (Str × V)} {fs : List (Str × D)}, fs'.map (·.1) = fs.map (·.1) → RepL g F A (fs'.map (·.2)) (fs.map (·.2)) →
    (L2.putF fl v fs').map (·.1) = (putF fl d fs).map (·.1) ∧ RepL g F A ((L2.putF fl v fs').map (·.2)) ((putF fl d fs).map (·.2))
  | [], [], _, _ => ⟨rfl, r, trivial⟩
  | [], _ :: _, h, _ => by cases h
  | _ :: _, [], h, _ => by cases h
  | (k, v0) :: fs', (k', d0) :: fs, h, rl => by
    have e : k = k' := by simpa using (List.cons.inj h).1
    subst e
    have ih := putF_ok (fl := fl) r (fs' := fs') (fs := fs) (List.cons.inj h).2 rl.2
    simp only [L2.putF, putF]
    by_cases c : k = fl
    · rw [if_pos c, if_pos c]
      simp only [List.map_cons, c]
      exact ⟨congrArg _ (List.cons.inj h).2, r, rl.2⟩
    · rw [if_neg c, if_neg c]
      simp only [List.map_cons]
      exact ⟨congrArg _ ih.1, rl.1, ih.2⟩
theorem st_setF {o : E} {cc : Nat} {fl : Str} {xo : Expr} {tp : Pos} (hK : X.K = f.q.g.K) (hcl : Cls f.q.g.K (f.q.g.ca cc)) (hna : NoAttr f.q.g.K (f.q.g.ca cc) fl) (hsw : swapsWith a (some (.Attribute xo fl tp)) pos.line X.env = pure false)
    (ha : PE X a (tE f.q f.ev f.W (.x false) e)) (ho : PE X xo (tE f.q f.ev f.W (.x false) o)) : PS X (.Assign [.Attribute xo fl tp] a pos) (tS f (.setF cc fl o e)) := by
  refine ps_imp (ps_fld ho ha hsw) fun D σ H ⟨F, A, ρ, S, s0, po⟩ => ?_
  simp only [exec] at po
  refine ⟨F, A, ρ, S, s0.st, s0.en, po.bind s0 fun v F1 A1 H1 d S1 t1 s1 r1 po => ?_⟩
  refine ⟨F1, A1, ρ, S1, s1.st, s1.en, po.bind s1 fun w F2 A2 H2 d2 S2 t2 s2 r2 po => ?_⟩
  have rd := r1.no.mono t2.le t2.px
  cases hob : objOf S2 cc d2 with
  | none =>
    rw [hob] at po
    cases d2 <;> exact po.elim
  | some fs =>
    obtain ⟨n, rfl, hS⟩ := objOf_at hob
    simp only [hob] at po
    by_cases hl : fs.length < 1000
    · rw [if_pos hl] at po
      obtain ⟨a0, rfl, hA0⟩ := r2.no
      obtain ⟨a1, hA1, hF1, dx, fs', hp, hf, rl⟩ := s2.st.cell n _ hS
      rw [hA0] at hA1; cases hA1
      obtain ⟨k1, k2⟩ := putF_ok (fl := fl) rd hf rl
      obtain ⟨t4, st4⟩ := s2.st.put (o := .ins (f.q.g.ca cc) dx (L2.putF fl v fs')) (c' := .obj cc (putF fl d fs)) hA0 ⟨dx, _, upd_same, k1, k2⟩
      have el : fs'.length = fs.length := by have := congrArg List.length hf; simpa using this
      exact ⟨a0, _, dx, fs', rfl, hp, by rw [hK]; exact hcl, by rw [hK]; exact hna, by rw [el]; exact hl, po σ F2 A2 _ (Le.refl _) List.prefix_rfl (s2.go t4 st4)⟩
    · rw [if_neg hl] at po; exact po.elim
/-! ### methods that change an own list -/
theorem few_of {env : Env} {args : List Expr} (hs : args.all nstar = true) (hn : args.length < 20) : ((backTo pos (starEach args env)).all (fun x => !x.1) && (backToKw pos (keywordEach [] env)).all (fun x => x.1.isSome)
      && decide (args.length + ([] : List Keyword).length + (if ([] : List Keyword).isEmpty then 0 else 1) < 30)) = true := by
  rw [back_all hs]
  simp [keywordEach, backToKw]
  omega
theorem st_app {p1 p2 : Pos} (hN : X.N[i]? = some y) (h2 : Vis X.env.scope y) (h3 : (y == ("__debug__" : Str)) = false) (h4 : (y == ("__classdict__" : Str)) = false) (hs : nstar a = true) (hl : (p1.endLine == p2.line) = true) (ha : PE X a (tE f.q f.ev f.W (.x false) e)) :
    PS X (.Expr (.Call (.Attribute (.Name y p) "append" p1) [a] [] p2) pos) (tS f (.app i e)) := by
  refine ps_imp (ps_expr (pe_bm F.plainAttrs_list F.slot_list_append F.type_list_append (r := rAppend) mt_append (pe_var hN h2 h3 h4) (pa_cons ha pa_nil (starEach_cons hs)) rfl (few_of (by simp [hs]) (by simp)) hl (starEach_cons hs) rfl) rfl) fun D σ H ⟨F, A, ρ, S, s0, po⟩ => ?_
  simp only [exec] at po
  split at po
  · rename_i xs hsl
    obtain ⟨o0, ho0, p0, vs0, e0, hp0, rl0, hf0, hA0⟩ := s0.en.at_ i _ hsl
    subst e0
    refine ⟨.ref p0, ho0, .inl ⟨rfl, vs0, SqL.of hp0⟩, ?_⟩
    refine ⟨F, A, ρ, S, s0.st, s0.en, po.bind s0 fun v F1 A1 H1 d S1 t1 s1 r1 po => ?_⟩
    obtain ⟨o2, ho2, p1, vs, e1, hp, rl, hf, hA⟩ := s1.en.at_ i _ hsl
    rw [ho0] at ho2; cases ho2; cases e1
    by_cases hl : line xs.length = true
    · rw [if_pos hl] at po
      exact ⟨p0, vs, v, rfl, rfl, hp, by rw [rl.len]; exact line_lt hl, po σ F1 A1 _ (Le.refl _) List.prefix_rfl (s1.mut hsl rfl ho0 ⟨p0, _, rfl, upd_same, rl.app ⟨r1.no, trivial⟩, hf, hA⟩)⟩
    · rw [if_neg hl] at po; exact po.elim
  · exact po.elim
theorem st_ins0 {p1 p2 p3 : Pos} {k : Nat} (hN : X.N[i]? = some y) (h2 : Vis X.env.scope y) (h3 : (y == ("__debug__" : Str)) = false) (h4 : (y == ("__classdict__" : Str)) = false) (hs : nstar a = true) (hl : (p1.endLine == p2.line) = true) (ha : PE X a (tE f.q f.ev f.W (.x false) e)) :
    PS X (.Expr (.Call (.Attribute (.Name y p) "insert" p1) [.Constant (.int 0) k p3, a] [] p2) pos) (tS f (.ins0 i e)) := by
  refine ps_imp (ps_expr (pe_bm F.plainAttrs_list F.slot_list_insert F.type_list_insert mt_insert (pe_var hN h2 h3 h4) (pa_cons pe_int (pa_cons ha pa_nil (starEach_cons hs)) rfl) rfl (few_of (by simp [hs]; rfl) (by simp)) hl rfl (back_any (by simp [hs]))) rfl) fun D σ H ⟨F, A, ρ, S, s0, po⟩ => ?_
  simp only [exec] at po
  split at po
  · rename_i xs hsl
    obtain ⟨o0, ho0, p0, vs0, e0, hp0, rl0, hf0, hA0⟩ := s0.en.at_ i _ hsl
    subst e0
    refine ⟨.ref p0, ho0, .inl ⟨rfl, vs0, SqL.of hp0⟩, ?_⟩
    refine ⟨F, A, ρ, S, s0.st, s0.en, po.bind s0 fun v F1 A1 H1 d S1 t1 s1 r1 po => ?_⟩
    obtain ⟨o2, ho2, p1, vs, e1, hp, rl, hf, hA⟩ := s1.en.at_ i _ hsl
    rw [ho0] at ho2; cases ho2; cases e1
    by_cases hl : line xs.length = true
    · rw [if_pos hl] at po
      refine ⟨p0, vs, 0, v, rfl, rfl, hp, by rw [rl.len]; exact line_lt hl, by decide, by decide, ?_⟩
      have e : vs.take (0 : Int).toNat ++ [v] ++ vs.drop (0 : Int).toNat = v :: vs := by simp
      rw [e]
      exact po σ F1 A1 _ (Le.refl _) List.prefix_rfl (s1.mut hsl rfl ho0 ⟨p0, _, rfl, upd_same, ⟨r1.no, rl⟩, hf, hA⟩)
    · rw [if_neg hl] at po; exact po.elim
  · exact po.elim
theorem RepL.eraseIdx {g : Gc} {F : Hp} {A : List Addr} {vs : List V} {ds : List D} (r : RepL g F A vs ds) (i : Nat) : RepL g F A (vs.eraseIdx i) (ds.eraseIdx i) := by
  rw [List.eraseIdx_eq_take_drop_succ, List.eraseIdx_eq_take_drop_succ]
  exact (r.take i).app (r.drop (i + 1))
theorem st_pop {j : Nat} {y2 : Str} {py p1 p2 : Pos} (hNd : X.N.Nodup) (hj : X.N[j]? = some y2) (hx : Loc X.env.scope y2) (hf : X.fn y2 = true ∨ X.env.scope.names.lookup y2 = some .local) (hij : i ≠ j) (hN : X.N[i]? = some y) (h2 : Vis X.env.scope y) (h3 : (y == ("__debug__" : Str)) = false) (h4 : (y == ("__classdict__" : Str)) = false) (hs : nstar a = true) (hl : (p1.endLine == p2.line) = true) (ha : PE X a (tE f.q f.ev f.W (.x false) e)) :
    PS X (.Assign [.Name y2 py] (.Call (.Attribute (.Name y p) "pop" p1) [a] [] p2) pos) (tS f (.pop j i e)) := by
  refine ps_imp (ps_set hNd hj hx (pe_bm F.plainAttrs_list F.slot_list_pop F.type_list_pop (r := rPopAt) mt_popAt (pe_var hN h2 h3 h4) (pa_cons ha pa_nil (starEach_cons hs)) rfl (few_of (by simp [hs]) (by simp)) hl (starEach_cons hs) rfl) rfl hf) fun D σ H ⟨F, A, ρ, S, s0, po⟩ => ?_
  simp only [exec] at po
  split at po
  · rename_i xs hsl
    obtain ⟨o0, ho0, p0, vs0, e0, hp0, rl0, hf0, hA0⟩ := s0.en.at_ i _ hsl
    subst e0
    refine ⟨.ref p0, ho0, .inl ⟨rfl, vs0, SqL.of hp0⟩, ?_⟩
    refine ⟨F, A, ρ, S, s0.st, s0.en, po.bind s0 fun v F1 A1 H1 d S1 t1 s1 r1 po => ?_⟩
    obtain ⟨o2, ho2, p1, vs, e1, hp, rl, hf, hA⟩ := s1.en.at_ i _ hsl
    rw [ho0] at ho2; cases ho2; cases e1
    cases hpo : popAt xs d with
    | none => rw [hpo] at po; exact po.elim
    | some q =>
      obtain ⟨w, ys⟩ := q
      rw [hpo] at po
      unfold popAt at hpo
      split at hpo
      · rename_i k
        split at hpo
        · rename_i hline
          rw [Option.bind_eq_some_iff] at hpo
          obtain ⟨jx, hjx, hpo⟩ := hpo
          rw [Option.map_eq_some_iff] at hpo
          obtain ⟨w', hw, e3⟩ := hpo
          cases e3
          have hv := rx_int r1
          obtain ⟨hseq, hlt, hlo, hhi⟩ := ixN_seq (ixOf_eq hjx)
          obtain ⟨vw, hvw, rw'⟩ := rl.get hw
          have hll : xs.length ≤ 1000000 := of_decide_eq_true hline
          have s2 := s1.mut (sl' := .ol (xs.eraseIdx jx)) (o := .lst (vs.eraseIdx jx)) hsl rfl ho0 ⟨p0, _, rfl, upd_same, rl.eraseIdx jx, hf, hA⟩
          refine ⟨p0, vs, k, jx, vw, rfl, by rw [hv], hp, by omega, by omega, by rw [rl.len]; exact hseq, hvw, ?_⟩
          exact po _ F1 A1 _ (Le.refl _) List.prefix_rfl (s2.set rw')
        · cases hpo
      · cases hpo
  · exact po.elim
/-! ### several names, the last one an own thing -/
def tAL (f : Fr) (e : E) : List E → TA
  | [] => tCons (tE f.q f.ev f.W .new e) tNil
  | e1 :: es => tCons (tE f.q f.ev f.W (.x false) e1) (tAL f e es)
theorem al_read {e : E} {T : List V → Hp → Prop} {ρ : Rho} {σ : L2.St} : ∀ (es : List E) (k : List D → D → Store → Out Res) {D : Ends} {F : Hp} {A : List Addr} {H : Hp} {S : Store}, (∀ x ∈ es, x.star? = false) → StS f F A H ρ S σ → PostS f F A ((evalEs f.ev ρ es S).bind fun ds S1 => (evalE f.ev ρ e S1).bind fun d S2 => k ds d S2) D →
    (∀ vs v ds d F2 A2 H0 H2 S2, RepL f.q.g F2 A2 vs ds → RepN f.q.g H0 F2 A2 H2 v d → (∀ p, H0 p = none → H p = none) → (∀ (j : Nat) (sj : Sl) (p' : Addr), ρ[j]? = some sj → sj.own = true → σ[j]? = some (some (.ref p')) → H0 p' ≠ none) → StS f F2 A2 H2 ρ S2 σ → Step F A H F2 A2 H2 → PostS f F2 A2 (k ds d S2) D → T (vs ++ [v]) H2) →
    tAL f e es σ H T
  | [], k, D, F, A, H, S, _, s0, po, fin => by
    simp only [evalEs] at po
    refine ⟨F, A, ρ, S, s0.st, s0.en, PostS.bind (o := evalE f.ev ρ e S) (k := fun d S2 => k [] d S2) po s0 fun v F1 A1 H1 d S1 t1 s1 r1 po => ?_⟩
    exact fin [] v [] d F1 A1 H H1 S1 trivial r1 (fun _ h => h) s0.live s1 t1 po
  | e1 :: es, k, D, F, A, H, S, hs, s0, po, fin => by
    rw [evalEs_cons (hs e1 List.mem_cons_self), Out.bind_assoc] at po
    refine ⟨F, A, ρ, S, s0.st, s0.en, PostS.bind (o := evalE f.ev ρ e1 S) po s0 fun v F1 A1 H1 d1 S1 t1 s1 r1 po => ?_⟩
    rw [Out.bind_assoc] at po
    refine al_read es (fun ds d S2 => k (d1 :: ds) d S2) (fun x hx => hs x (List.mem_cons_of_mem _ hx)) s1 po fun vs w ds d F2 A2 H0 H2 S2 rl rn h0 hlv s2 t2 po => ?_
    exact fin (v :: vs) w (d1 :: ds) d F2 A2 H0 H2 S2 ⟨r1.no.mono t2.le t2.px, rl⟩ rn (fun p h => t1.non (h0 p h)) hlv s2 (t1.trans t2) po
/-! ### an own thing becomes known -/
theorem upd_eq {H : Hp} {p : Addr} {u : HO} (h : H p = some u) : upd H p u = H := by
  funext b
  by_cases z : b = p
  · rw [z, upd_same, h]
  · rw [upd_ne z]
theorem StS.given {F : Hp} {A : List Addr} {H : Hp} {ρ : Rho} {S : Store} {σ : L2.St} {sl : Sl} {p0 : Addr} {u : HO} {d : D} (s0 : StS f F A H ρ S σ) (hi : ρ[i]? = some sl) (hw : sl.own = true) (hσ : σ[i]? = some (some (.ref p0))) (rd : Rep f.q.g (upd F p0 u) A (.ref p0) d) :
    StS f (upd F p0 u) A (upd H p0 u) (ρ.set i (.v d)) S σ := by
  obtain ⟨hH, hf, hA⟩ := s0.en.live i sl p0 hi hw hσ
  have hl : i < ρ.length := (List.getElem?_eq_some_iff.mp hi).1
  have hn : f.H0 p0 = none := s0.own i sl p0 hi hw hσ
  obtain ⟨le, st2⟩ := (s0.st.mut (o := u) hf hA).give upd_same hf hA
  have was : ∀ {j : Nat} {sj : Sl}, (ρ.set i (.v d))[j]? = some sj → sj.own = true → i ≠ j ∧ ρ[j]? = some sj := fun {j sj} hj wj => by
    by_cases z : i = j
    · subst z
      rw [List.getElem?_set_self hl] at hj; cases hj; cases wj
    · rw [List.getElem?_set_ne z] at hj; exact ⟨z, hj⟩
  refine ⟨(s0.step.mut hn).give hn hf, st2, ⟨by simp [s0.en.len], fun j sj h => ?_, fun j k sj sk p' hjk hj wj hk wk ej ek => ?_⟩, fun j sj p' hj wj ej => ?_⟩
  · by_cases hji : i = j
    · subst hji
      rw [List.getElem?_set_self hl] at h; cases h
      exact ⟨_, hσ, _, rfl, rd⟩
    · rw [List.getElem?_set_ne hji] at h
      obtain ⟨o', q, r'⟩ := s0.en.at_ j sj h
      refine ⟨o', q, ?_⟩
      cases sj with
      | no => trivial
      | v d' => obtain ⟨v, e1, r⟩ := r'; exact ⟨v, e1, r.mono le List.prefix_rfl⟩
      | ol xs =>
        obtain ⟨p', vs, e1, e2, e3, e4, e5⟩ := r'
        have ne : p' ≠ p0 := fun z => s0.en.apart i j sl (.ol xs) p0 hji hi hw h rfl hσ (by rw [q, e1, z])
        exact ⟨p', vs, e1, by rw [upd_ne ne]; exact e2, e3.mono le List.prefix_rfl, by rw [upd_ne ne]; exact e4, e5⟩
      | od t ks ws =>
        obtain ⟨p', ho, vs, e1, e2, e3, e4, e5, e6⟩ := r'
        have ne : p' ≠ p0 := fun z => s0.en.apart i j sl (.od t ks ws) p0 hji hi hw h rfl hσ (by rw [q, e1, z])
        exact ⟨p', ho, vs, e1, by rw [upd_ne ne]; exact e2, e3, e4.mono le List.prefix_rfl, by rw [upd_ne ne]; exact e5, e6⟩
  · obtain ⟨_, a1⟩ := was hj wj
    obtain ⟨_, a2⟩ := was hk wk
    exact s0.en.apart j k sj sk p' hjk a1 wj a2 wk ej ek
  · obtain ⟨_, a1⟩ := was hj wj
    exact s0.own j sj p' a1 wj ej
theorem ss_frz {sts : List Stmt} {r : List G.S} (h : PSs X sts (tSs f r)) : PSs X sts (tSs f (.frz i :: r)) := by
  refine ⟨fun pins s σ H D I ⟨F, A, ρ, S, s0, po⟩ => ?_⟩
  simp only [execs, exec] at po
  cases hsl : ρ[i]? with
  | none => rw [hsl] at po; exact po.elim
  | some sl =>
    cases sl with
    | no => rw [hsl] at po; exact po.elim
    | v d => rw [hsl] at po; exact po.elim
    | ol xs =>
      rw [hsl] at po
      obtain ⟨o0, ho0, p0, vs, e0, hp, rl, hf, hA⟩ := s0.en.at_ i _ hsl
      subst e0
      have g := s0.given (u := .lst vs) (d := .lst xs) hsl rfl ho0 ⟨p0, vs, rfl, upd_same, rl.mono (Le.new hf) List.prefix_rfl⟩
      rw [upd_eq hp] at g
      exact h.run pins s σ H D I ⟨_, A, _, S, g, PostS.mono (o := execs f.ev (ρ.set i (.v (.lst xs))) r S) po (Le.new hf) List.prefix_rfl⟩
    | od t ks ws =>
      rw [hsl] at po
      obtain ⟨o0, ho0, p0, ho, vs, e0, hp, dr, rl, hf, hA⟩ := s0.en.at_ i _ hsl
      subst e0
      obtain ⟨od, I2⟩ := I.lock hp (mut_dct dr)
      have g := s0.given (u := .frz od ho) (d := .dct t ks ws) hsl rfl ho0 ⟨p0, ho, vs, od, rfl, upd_same, dr, rl.mono (Le.new hf) List.prefix_rfl⟩
      exact h.run pins s σ _ D I2 ⟨_, A, _, S, g, PostS.mono (o := execs f.ev (ρ.set i (.v (.dct t ks ws))) r S) po (Le.new hf) List.prefix_rfl⟩
/-! ### own errors -/
theorem st_rais {k : Nat} {es : List E} {t : L2.St → Hp → XK → Prop} (hc : X.calm = true) (tk : Takes X fun c d _ H => f.W c d H) (he : PMk X a t) (hr : ∀ D σ H, tS f (.rais k es) D σ H → t σ H fun cls d H' => f.W cls d H') : PS X (.Raise (some a) none pos) (tS f (.rais k es)) :=
  ps_imp (ps_raise hc tk he) fun D σ H h => hr D σ H h
/-- C(e), C with an own __init__ that keeps it -/
def spI (C : Addr) (fl : Str) : Sp := fun vs H Q _ => ∃ a y, vs = [.ref a, y] ∧ H a = some (exo a C none) ∧ ∀ dx, H dx = none → dx ≠ a → Q .non (upd (upd H dx (exd dx [(fl, y)])) a (exo a C (some dx)))
structure IniAt (X : Cx) (C fI : Addr) (fl : Str) (k : Nat) : Prop where
  ox : OexC X.K C
  iC : PySem.W.findIn X.K (.ref C) "__init__" = some (some (.ref fI))
  tI : PySem.W.typeIn X.K (.ref fI) = some (.type "function")
  ok : ∃ (fd : FuncData) (ps : List Str), FnOk X.prog X.w X.K X.mg X.base (L2.CX X.prog X.w) k fI fd ps (spI C fl) ∧ Binds X.K fd ps []
theorem st_rais1 {k lv : Nat} {fI : Addr} {cp : Pos} (hc : X.calm = true) (tk : Takes X fun c d _ H => f.W c d H) (hr : Room (lv + 1) X.A) (h0 : e.star? = false) (T : IniAt X (f.q.g.ca k) fI (f.q.fn k) lv) (hg : Gl X y) (hm : X.mg y = some (.ref (f.q.g.ca k))) (hd : (y == ("__debug__" : Str)) = false) (hs : nstar a = true) (ha : PE X a (tE f.q f.ev f.W (.x false) e)) :
    PS X (.Raise (some (.Call (.Name y p) [a] [] cp)) none pos) (tS f (.rais k [e])) := by
  obtain ⟨fd, ps, F1, hb⟩ := T.ok
  have hx : Passes (L2.CX X.prog X.w) X (fun _ _ _ => False) := fun pins σ H s e s' I c => by
    obtain ⟨_, _, _, _, _, _, _, _, _, _, _, _, z⟩ := c
    exact z.elim
  refine st_rais hc tk (pmk_oex (dvs := []) T.ox T.iC T.tI F1 hr hb .nil hx hg hm (pa_cons ha pa_nil (starEach_cons hs)) hd (starEach_cons hs) rfl) fun D σ H ⟨F, A, ρ, S, s0, po⟩ => ?_
  simp only [exec] at po
  rw [evalEs_one h0] at po
  refine ⟨F, A, ρ, S, s0.st, s0.en, po.bind s0 fun v F1 A1 H1 d S1 t1 s1 r1 po => ?_⟩
  refine ⟨by simp, fun a0 ha0 => ?_⟩
  refine ⟨a0, v, rfl, upd_same, fun dx hdx hne => ⟨rfl, dx, [(f.q.fn k, v)], upd_same, by rw [upd_ne hne, upd_same], ?_, ?_⟩⟩
  · rw [upd_ne hne] at hdx; exact hdx
  · have hdx1 : H1 dx = none := by rw [upd_ne hne] at hdx; exact hdx
    have e : upd (del (upd (upd (upd H1 a0 (exo a0 (f.q.g.ca k) none)) dx (exd dx [(f.q.fn k, v)])) a0 (exo a0 (f.q.g.ca k) (some dx))) a0) dx (.xd [(f.q.fn k, v)]) = upd H1 dx (.xd [(f.q.fn k, v)]) := by
      funext b
      by_cases z : b = dx
      · rw [z, upd_same, upd_same]
      · rw [upd_ne z, upd_ne z]
        by_cases z2 : b = a0
        · rw [z2, del_same, ha0]
        · rw [del_ne z2, upd_ne z2, upd_ne z, upd_ne z2]
    rw [e]
    obtain ⟨t2, st2, hf2, hA2⟩ := s1.st.own (o := .xd [(f.q.fn k, v)]) hdx1
    exact po _ _ F1 A1 _ (Le.refl _) List.prefix_rfl (s1.step.trans t2) st2 ⟨rfl, fun d' ed => by cases ed; exact ⟨dx, v, rfl, upd_same, r1.no⟩⟩
/-- C(), C an own exception class without own __init__ -/
theorem pmk_own0 {C : Addr} {bmB : List Value} {B newId initId : String} {x : Str} {p pos : Pos} (F : ExcBaseFacts B newId initId bmB) (q : PySem.W.excIn X.K C bmB newId = true) (gC : X.mg x = some (.ref C)) (kC : PySem.W.keepIn X.K (.ref C) = true) (r : Raises X (.ref C)) (hg : Gl X x) (hdb : (x == ("__debug__" : Str)) = false) :
    PMk X (.Call (.Name x p) [] [] pos) (fun _ H Q => Q (.ref C) none H) := by
  intro pins s σ H Q I h
  refine wpAny_Call_Name_kw (ld_glob I hg gC ?_ hdb)
  refine PySem.W.callWith_K0 I.kIn kC ?_
  show wpAny _ _ (call (.ref C) []) _ _ _
  obtain ⟨bm, N, nm, qn, bs, hdct, sn, sub, ab, col, dd, k0, k1, k2, k3, k5, mN, hC, hN, hni, T⟩ := exc_obj I.kIn q
  refine wpAny_call_exc_subT F T hC hN hni (fun h' e hm => ?_) (by simp)
  exact mk_of I hm r h (I.hok.gone hm.new)
theorem st_rais0 {k : Nat} {cp : Pos} (hc : X.calm = true) (tk : Takes X fun c d _ H => f.W c d H) (hx : PySem.W.excIn X.K (f.q.g.ca k) [.type "ValueError", .type "Exception", .type "BaseException", .type "object"] "ValueError.__new__" = true) (hk : PySem.W.keepIn X.K (.ref (f.q.g.ca k)) = true)
    (h1 : PySem.W.subIn X.K (.ref (f.q.g.ca k)) (.type "BaseException") = some true) (h2 : PySem.W.typeIn X.K (.ref (f.q.g.ca k)) = some (.type "type")) (hg : Gl X y) (hm : X.mg y = some (.ref (f.q.g.ca k))) (hd : (y == ("__debug__" : Str)) = false) :
    PS X (.Raise (some (.Call (.Name y p) [] [] cp)) none pos) (tS f (.rais k [])) := by
  refine st_rais hc tk (pmk_own0 PySem.F.excBase_ValueError hx hm hk (raises_own h1 h2) hg hd) fun D σ H ⟨F, A, ρ, S, s0, po⟩ => ?_
  simp only [exec, evalEs] at po
  exact po _ none F A H (Le.refl _) List.prefix_rfl s0.step s0.st ⟨rfl, fun d h => by cases h⟩
end
end G
set_option maxHeartbeats 1000000
namespace G
open PySem PySem.Spec PyProof.Rows L2
/-- what is known of the caught error -/
structure Cght (q : Pc) (F : Hp) (A : List Addr) (H : Hp) (h : Nat) (cls : Value) (d : Option Addr) (p : Option D) : Prop where
  at_ : ∀ dd, p = some dd → cls = .ref (q.g.ca h) ∧ ∃ dx v, d = some dx ∧ H dx = some (.xd [(q.fn h, v)]) ∧ Rep q.g F A v dd
def tHA (q : Pc) (a : Addr) (cls : Value) (d : Option Addr) (h : Nat) (o : Option Nat) (hes : List HE) : TA := fun σ H Q => ∃ F A S p ds, StR q.g F A S H ∧ Cght q F A H h cls d p ∧ heval p hes = some ds ∧ (∀ i, o = some i → σ[i]? = some (some (.ref a))) ∧ ∀ vs, RepL q.g F A vs ds → Q vs H
def tHd (q : Pc) (h : Nat) (o : Option Nat) (hes : List HE) : Suite := fun a cls d D σ H => ∃ F A S p ds, StR q.g F A S H ∧ Cght q F A H h cls d p ∧ heval p hes = some ds ∧ (∀ i, o = some i → σ[i]? = some (some (.ref a))) ∧ hes.length ≤ 1000 ∧ ∀ v F' A' H', Step F A H F' A' H' → StR q.g F' A' S H' → Rep q.g F' A' v (.tup ds) → D.rt v H'
section
variable {X : Cx} {f : Fr} {q : Pc} {a : Addr} {cls : Value} {d : Option Addr} {oe : Obj} {pn : List (Addr × Obj)} {h : Nat} {o : Option Nat}
inductive HEm (X : Cx) (q : Pc) (h : Nat) : Option Nat → List HE → List Expr → Prop
  | nil {o : Option Nat} : HEm X q h o [] []
  | con {o : Option Nat} {k : Const} {j : Nat} {p : Pos} {dd : D} {v : V} {hes : List HE} {xs : List Expr} (hl : litOf k = some (dd, v)) (r : HEm X q h o hes xs) : HEm X q h o (.con dd :: hes) (.Constant k j p :: xs)
  | fld {i : Nat} {n : Str} {p1 p2 : Pos} {hes : List HE} {xs : List Expr} (hN : X.N[i]? = some n) (hv : Vis X.env.scope n) (h3 : (n == ("__debug__" : Str)) = false) (h4 : (n == ("__classdict__" : Str)) = false) (T : XfC X.K (q.g.ca h)) (hno : PySem.W.findIn X.K (.ref (q.g.ca h)) (q.fn h) = some none) (r : HEm X q h (some i) hes xs) :
      HEm X q h (some i) (.fld :: hes) (.Attribute (.Name n p1) (q.fn h) p2 :: xs)
theorem ha_ok (hz : Zc cls d oe) (hf : ∃ vs, oe.data = .fields vs) : ∀ {o : Option Nat} {hes : List HE} {xs : List Expr}, HEm X q h o hes xs → PA (X.suite a ((a, oe) :: pn)) xs (tHA q a cls d h o hes) := by
  intro o hes xs hm
  induction hm with
  | nil => exact pa_imp pa_nil fun σ H Q ⟨F, A, S, p, ds, st, cg, hh, ho, k⟩ => by cases hh; exact k [] trivial
  | @con o k j p dd v hes xs hl r ih =>
    have go : ∀ {t : V}, PE (X.suite a ((a, oe) :: pn)) (.Constant k j p) (tC t) → (∀ F A, Rep q.g F A t dd) → PA (X.suite a ((a, oe) :: pn)) (.Constant k j p :: xs) (tHA q a cls d h o (.con dd :: hes)) := fun {t} he hr =>
      pa_imp (pa_cons he ih rfl) fun σ H Q ⟨F, A, S, p, ds, st, cg, hh, ho, kk⟩ => by
        simp only [heval, Option.map_eq_some_iff] at hh
        obtain ⟨ds', h1, rfl⟩ := hh
        exact ⟨F, A, S, p, ds', st, cg, h1, ho, fun vs rl => kk (t :: vs) ⟨hr F A, rl⟩⟩
    cases k <;> (try (cases hl; done)) <;> (cases hl) <;> first
      | exact go pe_int fun _ _ => rfl
      | exact go pe_bl fun _ _ => rfl
      | exact go pe_non fun _ _ => rfl
      | exact go pe_str fun _ _ => rfl
  | @fld i n p1 p2 hes xs hN hv h3 h4 T hno r ih =>
    refine pa_imp (pa_cons (pe_xf T hno hz hf (pe_var hN hv h3 h4) rfl) ih rfl) fun σ H Q ⟨F, A, S, p, ds, st, cg, hh, ho, kk⟩ => ?_
    cases p with
    | none => cases hh
    | some dd =>
      simp only [heval, Option.map_eq_some_iff] at hh
      obtain ⟨ds', h1, rfl⟩ := hh
      obtain ⟨e1, dx, v, e2, hx, rv⟩ := cg.at_ dd rfl
      exact ⟨.ref a, ho i rfl, rfl, e1, dx, _, v, e2, hx, by simp [List.lookup], F, A, S, some dd, ds', st, cg, h1, ho, fun vs rl => kk (v :: vs) ⟨rv, rl⟩⟩
theorem hes_len : ∀ {p : Option D} {hes : List HE} {ds : List D}, heval p hes = some ds → ds.length = hes.length
  | _, [], _, h => by cases h; rfl
  | p, .con d :: r, ds, h => by
    simp only [heval, Option.map_eq_some_iff] at h
    obtain ⟨ds', h1, rfl⟩ := h
    simp [hes_len h1]
  | some d, .fld :: r, ds, h => by
    simp only [heval, Option.map_eq_some_iff] at h
    obtain ⟨ds', h1, rfl⟩ := h
    simp [hes_len h1]
  | none, .fld :: _, _, h => by cases h
theorem suite_ok {hes : List HE} {xs : List Expr} {k : Nat} {p1 p2 : Pos} (hz : Zc cls d oe) (hf : ∃ vs, oe.data = .fields vs) (hm : HEm X q h o hes xs) : PSs (X.suite a ((a, oe) :: pn)) [.Return (some (.Tuple xs k p1)) p2] (tHd q h o hes a cls d) := by
  refine pss_imp (pss_one (ps_ret (pe_tup (ha_ok hz hf hm)))) fun D σ H ⟨F, A, S, p, ds, st, cg, hh, ho, hl, kk⟩ => ?_
  refine ⟨F, A, S, p, ds, st, cg, hh, ho, fun vs rl => ⟨?_, fun r hr => ?_⟩⟩
  · rw [rl.len, hes_len hh, sizeLine_eq]; omega
  · obtain ⟨t, st2⟩ := st.new (o := .tup vs) hr
    exact kk _ _ A _ t st2 ⟨r, vs, rfl, upd_same, rl.mono t.le t.px⟩
/-- the clauses of a try and how they are told -/
inductive Hdls (X : Cx) (q : Pc) (sub : Nat → Nat → Option Bool) : List (Nat × Option Nat × List HE) → List ExceptHandler → Prop
  | nil : Hdls X q sub [] []
  | plain {h : Nat} {hes : List HE} {x : Str} {np pos' p1 p2 : Pos} {k : Nat} {xs : List Expr} {r : List (Nat × Option Nat × List HE)} {hds : List ExceptHandler} (hc : Names X x (.ref (q.g.ca h))) (hm : HEm X q h none hes xs) (hl : hes.length ≤ 1000)
      (hs : ∀ c b, sub c h = some b → PySem.W.exmOne X.K (.ref (q.g.ca c)) (.ref (q.g.ca h)) = some b) (rest : Hdls X q sub r hds) :
      Hdls X q sub ((h, none, hes) :: r) (.ExceptHandler (some (.Name x np)) none [.Return (some (.Tuple xs k p1)) p2] pos' :: hds)
  | named {h i : Nat} {n : Str} {hes : List HE} {x : Str} {np pos' p1 p2 : Pos} {k : Nat} {xs : List Expr} {r : List (Nat × Option Nat × List HE)} {hds : List ExceptHandler} (hi : X.N[i]? = some n) (hln : X.env.kindOf n = some .local) (hc : Names X x (.ref (q.g.ca h))) (hm : HEm X q h (some i) hes xs) (hl : hes.length ≤ 1000)
      (hs : ∀ c b, sub c h = some b → PySem.W.exmOne X.K (.ref (q.g.ca c)) (.ref (q.g.ca h)) = some b) (rest : Hdls X q sub r hds) :
      Hdls X q sub ((h, some i, hes) :: r) (.ExceptHandler (some (.Name x np)) (some n) [.Return (some (.Tuple xs k p1)) p2] pos' :: hds)
def sts (q : Pc) : List (Nat × Option Nat × List HE) → List (Value × Option Nat × Suite)
  | [] => []
  | (h, o, hes) :: r => (.ref (q.g.ca h), o, tHd q h o hes) :: sts q r
theorem hdls_ok {sub : Nat → Nat → Option Bool} {l : List (Nat × Option Nat × List HE)} {hds : List ExceptHandler} (h : Hdls X q sub l hds) : HdA X hds (sts q l) := by
  induction h with
  | nil => exact .nil
  | plain hc hm hl hs rest ih => exact .plain hc (fun a oe cls d pn hz hf => suite_ok hz hf hm) ih
  | named hi hln hc hm hl hs rest ih => exact .named hi hln hc (fun a oe cls d pn hz hf => suite_ok hz hf hm) ih
theorem takes_len {W : WX} {W2 : XK} (tk : Takes X W) (i : ∀ c d H, W2 c d H → ∀ σ : L2.St, σ.length = X.N.length → W c d σ H) : Takes X fun c d _ H => W2 c d H := by
  rintro u s' ⟨a, B, sI, pins, σ, H, cls, d, e, I, nb, up, sky, na, os, ag, w⟩
  exact tk u s' ⟨a, B, sI, pins, σ, H, cls, d, e, I, nb, up, sky, na, os, ag, i _ _ _ w σ I.len⟩
theorem try_wish {c : Nat} {p : Option D} {S1 : Store} {D : Ends} {F : Hp} {A : List Addr} {F' : Hp} {A' : List Addr} {H' : Hp} {dd : Option Addr} (l1 : Le F F') (l2 : A <+: A') (t : Step f.F0 f.A0 f.H0 F' A' H') (st : StR f.q.g F' A' S1 H') (ex : ExR f.q.g f.q.fn F' A' H' c p cls dd) :
    ∀ {l : List (Nat × Option Nat × List HE)} {hds : List ExceptHandler}, Hdls X f.q f.ev.sub l hds → PostS f F A (tryH f.ev c p S1 l) D → ∀ σ : L2.St, σ.length = X.N.length → wAll X.K (fun c d _ H => f.W c d H) D (sts f.q l) cls dd σ H' := by
  intro l hds hh po σ hσ
  have step : ∀ {h : Nat} {o : Option Nat} {hes : List HE} {r : List (Nat × Option Nat × List HE)} (hl : hes.length ≤ 1000) (ho : ∀ i, o = some i → i < X.N.length) (hs : ∀ c b, f.ev.sub c h = some b → PySem.W.exmOne X.K (.ref (f.q.g.ca c)) (.ref (f.q.g.ca h)) = some b)
      (ih : PostS f F A (tryH f.ev c p S1 r) D → wAll X.K (fun c d _ H => f.W c d H) D (sts f.q r) cls dd σ H') (po : PostS f F A (tryH f.ev c p S1 ((h, o, hes) :: r)) D), wAll X.K (fun c d _ H => f.W c d H) D (sts f.q ((h, o, hes) :: r)) cls dd σ H' := by
    intro h o hes r hl ho hs ih po
    simp only [tryH] at po
    cases hsub : f.ev.sub c h with
    | none => rw [hsub] at po; exact po.elim
    | some b =>
      rw [hsub] at po
      refine ⟨b, by rw [ex.1]; exact hs c b hsub, fun hb a ha => ?_, fun hb => ?_⟩
      · subst hb
        cases hv : heval (if c = h then p else none) hes with
        | none => simp only [hv] at po; exact po.elim
        | some ds =>
          simp only [hv] at po
          refine ⟨F', A', S1, _, ds, st, ⟨fun d' ed => ?_⟩, hv, fun i hi => ?_, hl, fun v F2 A2 H2 t2 st2 r2 => ?_⟩
          · split at ed
            · rename_i ech
              subst ech
              exact ⟨ex.1, ex.2 d' ed⟩
            · cases ed
          · subst hi
            show (σ.set i (some (.ref a)))[i]? = _
            rw [List.getElem?_set_self (by rw [hσ]; exact ho i rfl)]
          · have e : (endsAt D o).rt = D.rt := by cases o <;> rfl
            rw [e]
            exact po v F2 A2 H2 (l1.trans t2.le) (l2.trans t2.px) (t.trans t2) st2 (.inl r2)
      · subst hb
        exact ih po
  induction hh with
  | nil => exact po _ dd F' A' H' l1 l2 t st ex
  | plain hc hm hl hs rest ih => exact step hl (fun i z => by cases z) hs ih po
  | named hi hln hc hm hl hs rest ih => exact step hl (fun i z => by cases z; exact (List.getElem?_eq_some_iff.mp hi).1) hs ih po
theorem st_try {bl : List G.S} {body : List Stmt} {hd0 : ExceptHandler} {hds : List ExceptHandler} {l : List (Nat × Option Nat × List HE)} {pos : Pos} (hst : X.stack = X.env :: X.outer) (hfm : X.env.frame = some X.env.locals) (hN : X.N.Nodup) (tk : Takes X fun c d _ H => f.W c d H) (hh : Hdls X f.q f.ev.sub l (hd0 :: hds))
    (hb : ∀ (W : XK) (pn : List (Addr × Obj)) (xe : Value → Shared → Prop), Takes (X.tr pn xe) (fun c d _ H => W c d H) → PassesOwn (model X.prog X.w) X.A X.env xe → PSs (X.tr pn xe) body (tSs { f with W := W } bl)) :
    PS X (.Try body (hd0 :: hds) [] [] pos) (tS f (.try_ bl l)) := by
  refine ps_imp (ps_tryA (tb := fun W => tSs { f with W := fun c d H => ∀ σ : L2.St, σ.length = X.N.length → W c d σ H } bl) hst hfm hN tk (fun W pn xe tk' po' => hb _ pn xe (takes_len tk' fun c d H h => h) po') (hdls_ok hh)) fun D σ H ⟨F, A, ρ, S, s0, po⟩ => ?_
  simp only [exec] at po
  refine ⟨F, A, ρ, S, ⟨s0.step, s0.st, s0.en, s0.own⟩, ?_⟩
  show PostS _ F A (execs f.ev ρ bl S) D
  cases ho : execs f.ev ρ bl S with
  | no => rw [ho] at po; exact (show False from po).elim
  | ok res S' =>
    rw [ho] at po
    cases res with
    | rt d => exact fun v F' A' H' l1 l2 s st r => po v F' A' H' l1 l2 s st r
    | nx ρ' => exact fun σ' F' A' H' l1 l2 s => po σ' F' A' H' l1 l2 ⟨s.step, s.st, s.en, s.own⟩
  | ex c p S' =>
    rw [ho] at po
    intro cls dd F' A' H' l1 l2 t st ex σ hσ
    exact try_wish (f := f) (F := F) (A := A) l1 l2 t st ex hh (show PostS f F A (tryH f.ev c p S' l) D from po) σ hσ
end
end G
set_option maxHeartbeats 1000000
namespace G
open PySem PySem.Spec PyProof.Rows L2
/-- the keys of a dict display -/
def keyEs : List Str → List (Option Expr) → Bool
  | [], [] => true
  | k :: ks, some (.Constant (.str y) _ _) :: r => decide (k = y) && keyEs ks r
  | _, _ => false
/-- what is seen of a block: its slots' names, its scope, which names' cells were made at its entry -/
structure Sta where
  N : List Str
  sc : Scope
  fn : Str → Bool
/-- what is checked once of the written part -/
structure Tb where
  fns : List (Str × Nat)
  np : Nat → Nat
  bns : List Str
  gcd : Bool
  glos : List (Str × Nat)
  tabs : List (Str × Nat)
  flds : List (Nat × Str)
  props : List (Nat × Str × Nat)
  meths : List (Nat × Str × Nat)
  makes : List (Str × Nat × Nat)
  raises : List (Str × Nat)
  raises0 : List (Str × Nat)
  names : List (Str × Nat)
  hfld : List Nat
  kws : List Nat := []
  pn : Nat → List Str := fun _ => []
def Sta.blk (st : Sta) (scope : Scope) : Sta := ⟨st.N, relS scope st.sc, fun x => scope.names.lookup x == some .cell⟩
def dbg (x : Str) : Bool := !(x == ("__debug__" : Str)) && !(x == ("__classdict__" : Str))
def visB (sc : Scope) (x : Str) : Bool := match sc.names.lookup x with
  | some .local => true
  | some .cell => true
  | some .free => true
  | _ => false
def visC (st : Sta) (i : Nat) (x : Str) : Bool := decide (st.N[i]? = some x) && visB st.sc x && dbg x
def gloC (st : Sta) (x : Str) : Bool := decide (st.sc.names.lookup x = some .globalImplicit) && dbg x
def tgN (st : Sta) (i : Nat) (x : Str) : Bool := decide (st.N[i]? = some x) && (decide (st.sc.names.lookup x = some .local) || (decide (st.sc.names.lookup x = some .cell) && st.fn x))
def tgNs (st : Sta) : List Nat → List Expr → Bool
  | [], [] => true
  | i :: is, .Name x _ :: xs => tgN st i x && tgNs st is xs
  | _, _ => false
def tgC (st : Sta) : Tg → Expr → Bool
  | .name i, .Name x _ => tgN st i x
  | .tup is, .Tuple xs _ _ => tgNs st is xs
  | _, _ => false
def litC (k : Const) (d : D) : Bool := match k, d with
  | .int i, .int j => decide (i = j)
  | .bool i, .bl j => decide (i = j)
  | .none, .non => true
  | .str i, .str j => decide (i = j)
  | _, _ => false
theorem litC_ok {k : Const} {d : D} (h : litC k d = true) : ∃ v, litOf k = some (d, v) := by
  unfold litC at h
  split at h
  · have := of_decide_eq_true h; subst this; exact ⟨_, rfl⟩
  · have := of_decide_eq_true h; subst this; exact ⟨_, rfl⟩
  · exact ⟨_, rfl⟩
  · have := of_decide_eq_true h; subst this; exact ⟨_, rfl⟩
  · cases h
def biN : Bi → Str
  | .len => "len" | .abs => "abs" | .max1 => "max" | .max2 => "max" | .min1 => "min" | .min2 => "min" | .sum => "sum" | .all => "all" | .any => "any" | .int => "int" | .str => "str"
  | .list => "list" | .tuple => "tuple" | .sorted => "sorted" | .divmod => "divmod" | .gcd => "gcd" | .set => "set"
def biNew : Bi → Bool
  | .list => true
  | .sorted => true
  | _ => false
def ownP (st : Sta) (own : List Nat) : List (Str × Nat) := own.map fun i => (st.N.getD i Str.empty, i)
def isTup : Expr → Bool
  | .Tuple _ _ _ => true
  | _ => false
section
variable (T : Tb)
/-- a built-in name that nobody binds -/
def bltC (st : Sta) (y x : Str) : Bool := decide (x = y) && gloC st x && T.bns.contains x
/-- what a for walks: what is evaluated, may it be lent, what else is seen -/
def iX : ItK → Expr → List Expr
  | .over, ix => [ix]
  | .keys, ix => [ix]
  | _, .Call _ xs _ _ => xs
  | _, _ => []
def iB : ItK → Bool
  | .over => true
  | .enum => true
  | .zip => true
  | _ => false
def iC (st : Sta) (k : ItK) (n : Nat) (tx ix : Expr) : Bool := match k with
  | .over => decide (n = 1)
  | .keys => decide (n = 1)
  | .range1 => decide (n = 1) && (match ix with
    | .Call (.Name y _) _ [] _ => bltC T st "range" y
    | _ => false)
  | .range2 => decide (n = 2) && (match ix with
    | .Call (.Name y _) _ [] _ => bltC T st "range" y
    | _ => false)
  | .enum => decide (n = 1) && isTup tx && (match ix with
    | .Call (.Name y _) _ [] _ => bltC T st "enumerate" y
    | _ => false)
  | .zip => decide (n = 2) && isTup tx && (match ix with
    | .Call (.Name y _) _ [] _ => bltC T st "zip" y
    | _ => false)
  | .items => false
mutual
def mE (st : Sta) : E → Md → Expr → Bool
  | .no, _, _ => true
  | .var i, m, x => m.nn && (match x with
    | .Name y _ => visC st i y
    | _ => false)
  | .bor i, m, x => decide (m = .x true) && (match x with
    | .Name y _ => visC st i y
    | _ => false)
  | .con d, m, x => m.nn && (match x with
    | .Constant k _ _ => litC k d
    | _ => false)
  | .glo k, m, x => m.nn && (match x with
    | .Name y _ => gloC st y && T.glos.contains (y, k)
    | _ => false)
  | .fnv f, m, x => m.nn && (match x with
    | .Name y _ => gloC st y && T.fns.contains (y, f)
    | _ => false)
  | .tup es, m, x => m.nn && (match x with
    | .Tuple xs _ _ => mEs st true es false xs
    | _ => false)
  | .star e, _, x => (match x with
    | .Starred y _ => mE st e (.x true) y
    | _ => false)
  | .lst es, _, x => (match x with
    | .List xs _ => mEs st true es false xs
    | _ => false)
  | .cell e, m, x => m.nn && mE st e .new x
  | .disp ks es, _, x => (match x with
    | .Dict keys vs _ => keyEs ks keys && decide (ks.length = es.length) && decide (ks.length ≤ 15) && decide (ks ≠ []) && mEs st false es false vs
    | _ => false)
  | .dct0 _, _, x => (match x with
    | .Dict [] [] _ => true
    | _ => false)
  | .lrg es, _, x => (match x with
    | .Call (.Name l _) [.Call (.Name r _) xs [] _] [] _ => bltC T st "list" l && bltC T st "range" r && (decide (es.length = 1) || decide (es.length = 2)) && mEs st false es false xs
    | _ => false)
  | .kin neg k a, m, x => m.nn && (match x with
    | .Compare y [op] [.Name t _] _ => decide (op = if neg = true then .NotIn else .In) && gloC st t && T.tabs.contains (t, k) && mE st a (.x false) y
    | _ => false)
  | .kidx k a, m, x => m.nn && (match x with
    | .Subscript (.Name t _) y _ => nslice y && gloC st t && T.tabs.contains (t, k) && mE st a (.x false) y
    | _ => false)
  | .bin o a b, m, x => (m.nn || (decide (o = .add) && isLD b)) && (match x with
    | .BinOp y op z _ => decide (op = bOp o) && mE st a (.x true) y && mE st b (.x true) z
    | _ => false)
  | .neg a, m, x => m.nn && (match x with
    | .UnaryOp .USub y _ => mE st a (.x false) y
    | _ => false)
  | .not a, m, x => m.nn && (match x with
    | .UnaryOp .Not y _ => mE st a (.x false) y
    | _ => false)
  | .and a b, m, x => m.nn && (match x with
    | .BoolOp .And (y :: z :: r) pos => mE st a (.x false) y && mE st b m (match r with | [] => z | _ => .BoolOp .And (z :: r) pos)
    | _ => false)
  | .or a b, m, x => m.nn && (match x with
    | .BoolOp .Or (y :: z :: r) pos => mE st a (.x false) y && mE st b m (match r with | [] => z | _ => .BoolOp .Or (z :: r) pos)
    | _ => false)
  | .ite c a b, m, x => m.nn && (match x with
    | .IfExp t y z _ => mT st c t && mE st a m y && mE st b m z
    | _ => false)
  | .cmp o a b, m, x => m.nn && (match x with
    | .Compare y [op] [z] _ => decide (op = cOp o) && nset z && mE st a (.x true) y && mE st b (.x true) z
    | _ => false)
  | .chn o o' a b c, m, x => m.nn && (match x with
    | .Compare y [op, op'] [z, u] _ => decide (op = cOp o) && decide (op' = cOp o') && nset u && mE st a (.x true) y && mE st b (.x true) z && mE st c (.x true) u
    | _ => false)
  | .call f es, m, x => m.nn && (match x with
    | .Call (.Name y _) xs [] _ => gloC st y && T.fns.contains (y, f) && mEs st false es false xs
    | _ => false)
  | .bi k es, m, x => (biNew k || m.nn) && (match x with
    | .Call (.Name y _) xs [] _ => decide (y = biN k) && gloC st y && (if k = .gcd then T.gcd else T.bns.contains y) && decide (k ≠ .set) && mEs st false es true xs && decide (es ≠ []) && (!biNew k || decide (es.length = 1))
    | _ => false)
  | .mth .get2 o es, m, x => m.nn && (match x with
    | .Call (.Attribute y a ap) xs [] pos => decide (a = ("get" : Str)) && ncall y && (ap.endLine == pos.line) && decide (es.length = 2) && mE st o (.x true) y && mEs st false es false xs
    | _ => false)
  | .mth _ _ _, _, _ => false
  | .idx a i, m, x => m.nn && (match x with
    | .Subscript y z _ => nslice z && mE st a (.x true) y && mE st i (.x true) z
    | _ => false)
  | .slc a lo hi, m, x => m.nn && (match x with
    | .Subscript y (.Slice l h none _) _ => mE st a (.x true) y && mEs st false lo false l.toList && mEs st false hi false h.toList
    | _ => false)
  | .rev a, m, x => m.nn && (match x with
    | .Subscript y (.Slice none none s _) _ => minus1 s && mE st a (.x true) y
    | _ => false)
  | .lc own tg k it ifs elt, _, x => (match x with
    | .ListComp ox [⟨tx, ix, ifx, 0⟩] scope _ => nset ix && blkC st.N st.sc scope (ownP st own) && tg.ixs.all own.contains && iC T st k it.length tx ix && mEs st false it (iB k) (iX k ix) && tgC (st.blk scope) tg tx && decide (ifs.length ≤ 1) && mTs (st.blk scope) ifs ifx && mE (st.blk scope) elt (.x false) ox
    | _ => false)
  | .dc own tg k it ke ve, _, x => (match x with
    | .DictComp kx vx [⟨tx, ix, [], 0⟩] scope _ => nset ix && blkC st.N st.sc scope (ownP st own) && tg.ixs.all own.contains && iC T st k it.length tx ix && mEs st false it (iB k) (iX k ix) && tgC (st.blk scope) tg tx && mE (st.blk scope) ke (.x false) kx && mE (st.blk scope) ve (.x false) vx
    | _ => false)
  | .isi ts a, m, x => m.nn && (match ts, x with
    | [t], .Call (.Name f _) [y, .Name n _] [] _ => bltC T st "isinstance" f && bltC T st (Str.ofString (tyS t)) n && nstar y && mE st a (.x true) y
    | _, _ => false)
  | .fld c f a, m, x => m.nn && (match x with
    | .Attribute y n _ => decide (n = f) && T.flds.contains (c, f) && ncall y && mE st a (.x false) y
    | _ => false)
  | .prop c f a, m, x => m.nn && (match x with
    | .Attribute y n _ => T.props.contains (c, n, f) && ncall y && mE st a (.x false) y
    | _ => false)
  | .meth c mn f o es, m, x => m.nn && (match x with
    | .Call (.Attribute y a ap) xs [] pos => decide (a = mn) && T.meths.contains (c, mn, f) && ncall y && (ap.endLine == pos.line) && decide (xs.length < 20) && mE st o (.x false) y && mEs st false es false xs
    | _ => false)
  | .new c f es, m, x => m.nn && (match x with
    | .Call (.Name y _) xs [] _ => gloC st y && T.makes.contains (y, c, f) && decide (es ≠ []) && mEs st false es false xs
    | _ => false)
  | .callK f es ks pm, m, x => m.nn && (match x with
    | .Call (.Name y _) [] kws _ => gloC st y && T.fns.contains (y, f) && T.kws.contains f && decide (kwNames kws = ks.map some) && kwOk (T.pn f) 0 ks pm && mKs st es kws
    | _ => false)
  | .methK c mn f o es ks pm, m, x => m.nn && (match x with
    | .Call (.Attribute y a ap) [] kws pos => decide (a = mn) && T.meths.contains (c, mn, f) && ncall y && (ap.endLine == pos.line) && decide (kws.length < 20) && T.kws.contains f && decide (kwNames kws = ks.map some) && kwOk (T.pn f) 1 ks pm && mE st o (.x false) y && mKs st es kws
    | _ => false)
  | .newK c f es ks pm, m, x => m.nn && (match x with
    | .Call (.Name y _) [] kws _ => gloC st y && T.makes.contains (y, c, f) && T.kws.contains f && decide (kwNames kws = ks.map some) && kwOk (T.pn f) 1 ks pm && mKs st es kws
    | _ => false)
def mKs (st : Sta) : List E → List Keyword → Bool
  | [], kws => kws.isEmpty
  | e :: es, kws => (match kws with
    | ⟨_, x, _⟩ :: kws => !e.star? && mE st e (.x false) x && mKs st es kws
    | [] => false)
def mEs (st : Sta) (s : Bool) : List E → Bool → List Expr → Bool
  | [], _, xs => xs.isEmpty
  | e :: es, b, xs => (match xs with
    | x :: xs => (if e.star? = true then s && !b && mE st e (.x true) x else nstar x && mE st e (.x b) x) && mEs st s es b xs
    | [] => false)
def mT (st : Sta) : E → Expr → Bool
  | .no, _ => true
  | .not a, x => (match x with
    | .UnaryOp .Not y _ => mT st a y
    | _ => false)
  | .and a b, x => (match x with
    | .BoolOp .And (y :: z :: r) pos => mT st a y && mT st b (match r with | [] => z | _ => .BoolOp .And (z :: r) pos)
    | _ => false)
  | .or a b, x => (match x with
    | .BoolOp .Or (y :: z :: r) pos => mT st a y && mT st b (match r with | [] => z | _ => .BoolOp .Or (z :: r) pos)
    | _ => false)
  | .cmp o a b, x => (match x with
    | .Compare y [op] [z] _ => decide (op = cOp o) && nset z && mE st a (.x true) y && mE st b (.x true) z
    | _ => false)
  | .chn o o' a b c, x => (match x with
    | .Compare y [op, op'] [z, u] _ => decide (op = cOp o) && decide (op' = cOp o') && nset u && mE st a (.x true) y && mE st b (.x true) z && mE st c (.x true) u
    | _ => false)
  | .var i, x => (match x with
    | .Name y _ => visC st i y
    | _ => false)
  | .call f es, x => (match x with
    | .Call (.Name y _) xs [] _ => gloC st y && T.fns.contains (y, f) && mEs st false es false xs
    | _ => false)
  | .bi k es, x => (match x with
    | .Call (.Name y _) xs [] _ => !biNew k && decide (y = biN k) && gloC st y && (if k = .gcd then T.gcd else T.bns.contains y) && decide (k ≠ .set) && mEs st false es true xs && decide (es ≠ [])
    | _ => false)
  | .isi ts a, x => (match ts, x with
    | [t], .Call (.Name f _) [y, .Name n _] [] _ => bltC T st "isinstance" f && bltC T st (Str.ofString (tyS t)) n && nstar y && mE st a (.x true) y
    | _, _ => false)
  | .kin neg k a, x => (match x with
    | .Compare y [op] [.Name t _] _ => decide (op = if neg = true then .NotIn else .In) && gloC st t && T.tabs.contains (t, k) && mE st a (.x false) y
    | _ => false)
  | _, _ => false
def mTs (st : Sta) : List E → List Expr → Bool
  | [], xs => xs.isEmpty
  | e :: _, xs => (match xs with
    | [x] => mT st e x
    | _ => false)
end
end
end G
set_option maxHeartbeats 2000000
namespace G
open PySem PySem.Spec PyProof.Rows L2
/-- what holds of the written part and of the defs, whatever block runs -/
structure Wrl (T : Tb) (q : Pc) (ev : Ev) (k : Nat) (X : Cx) : Prop where
  K : X.K = q.g.K
  fns : ∀ y f, T.fns.contains (y, f) = true → X.mg y = some (.ref (q.g.fa f)) ∧ PySem.W.keepIn X.K (.ref (q.g.fa f)) = true ∧ FnAt X q ev.call k f (T.np f)
  bns : ∀ y, T.bns.contains y = true → X.mg y = none
  gcd : T.gcd = true → X.mg "gcd" = some (.builtin "math.gcd")
  glos : ∀ y i, T.glos.contains (y, i) = true → ∃ u v d, X.mg y = some u ∧ RelV v u ∧ ev.glo i = some d ∧ ∀ F A, Rep q.g F A v d
  tabs : ∀ y i, T.tabs.contains (y, i) = true → ∃ yd, X.mg y = some (.ref yd) ∧ TabR q.g X.w (ev.tab i) yd
  flds : ∀ c f, T.flds.contains (c, f) = true → Cls q.g.K (q.g.ca c) ∧ NoAttr q.g.K (q.g.ca c) f
  props : ∀ c n f, T.props.contains (c, n, f) = true → ∃ pa, Cls q.g.K (q.g.ca c) ∧ PropOf q.g.K (q.g.ca c) n pa (q.g.fa f) ∧ FnAt X q ev.call k f (T.np f)
  meths : ∀ c n f, T.meths.contains (c, n, f) = true → Cls q.g.K (q.g.ca c) ∧ Meth q.g.K (q.g.ca c) n (q.g.fa f) ∧ FnAt X q ev.call k f (T.np f)
  makes : ∀ y c f, T.makes.contains (y, c, f) = true → X.mg y = some (.ref (q.g.ca c)) ∧ Mk q.g.K (q.g.ca c) (q.g.fa f) ∧ FnAt X q ev.call k f (T.np f)
  raises : ∀ y c, T.raises.contains (y, c) = true → ∃ fI, X.mg y = some (.ref (q.g.ca c)) ∧ IniAt X (q.g.ca c) fI (q.fn c) k
  raises0 : ∀ y c, T.raises0.contains (y, c) = true → X.mg y = some (.ref (q.g.ca c)) ∧ PySem.W.excIn X.K (q.g.ca c) [.type "ValueError", .type "Exception", .type "BaseException", .type "object"] "ValueError.__new__" = true ∧ PySem.W.keepIn X.K (.ref (q.g.ca c)) = true ∧ PySem.W.subIn X.K (.ref (q.g.ca c)) (.type "BaseException") = some true ∧ PySem.W.typeIn X.K (.ref (q.g.ca c)) = some (.type "type")
  pn : ∀ f, T.kws.contains f = true → T.pn f = q.pn f
  names : ∀ y c, T.names.contains (y, c) = true → X.mg y = some (.ref (q.g.ca c)) ∧ ∀ c' b, ev.sub c' c = some b → PySem.W.exmOne X.K (.ref (q.g.ca c')) (.ref (q.g.ca c)) = some b
  hfld : ∀ c, T.hfld.contains c = true → XfC X.K (q.g.ca c) ∧ PySem.W.findIn X.K (.ref (q.g.ca c)) (q.fn c) = some none
/-- a block that runs -/
structure Good (T : Tb) (q : Pc) (ev : Ev) (W : XK) (k : Nat) (st : Sta) (X : Cx) : Prop where
  w : Wrl T q ev k X
  N : X.N = st.N
  nd : X.N.Nodup
  sc : X.env.scope = st.sc
  fn : X.fn = st.fn
  calm : X.calm = true
  room : Room (k + 1) X.A
  tk : Takes X fun c d _ H => W c d H
section
variable {T : Tb} {q : Pc} {ev : Ev} {W : XK} {k : Nat} {st : Sta} {X : Cx}
theorem Wrl.to {X' : Cx} (w : Wrl T q ev k X) (e1 : X'.prog = X.prog) (e2 : X'.w = X.w) (e3 : X'.K = X.K) (e4 : X'.mg = X.mg) (e5 : X'.base = X.base) : Wrl T q ev k X' := by
  have fa : ∀ {f np}, FnAt X q ev.call k f np → FnAt X' q ev.call k f np := fun h => ⟨by rw [e1, e2, e3, e4, e5]; exact h.ok, h.len, by rw [e1, e2, e3, e4, e5]; exact h.kw⟩
  have ia : ∀ {C fI fl}, IniAt X C fI fl k → IniAt X' C fI fl k := fun h => ⟨by rw [e3]; exact h.ox, by rw [e3]; exact h.iC, by rw [e3]; exact h.tI, by rw [e1, e2, e3, e4, e5]; exact h.ok⟩
  refine ⟨by rw [e3]; exact w.K, fun y f h => ?_, fun y h => by rw [e4]; exact w.bns y h, fun h => by rw [e4]; exact w.gcd h, fun y i h => by rw [e4]; exact w.glos y i h, fun y i h => by rw [e4, e2]; exact w.tabs y i h, w.flds, fun c n f h => ?_, fun c n f h => ?_, fun y c f h => ?_, fun y c h => ?_, fun y c h => by rw [e4, e3]; exact w.raises0 y c h, w.pn, fun y c h => by rw [e4, e3]; exact w.names y c h, fun c h => by rw [e3]; exact w.hfld c h⟩
  · obtain ⟨a, b, c⟩ := w.fns y f h
    exact ⟨by rw [e4]; exact a, by rw [e3]; exact b, fa c⟩
  · obtain ⟨pa, a, b, c⟩ := w.props c n f h
    exact ⟨pa, a, b, fa c⟩
  · obtain ⟨a, b, c⟩ := w.meths c n f h
    exact ⟨a, b, fa c⟩
  · obtain ⟨a, b, c⟩ := w.makes y c f h
    exact ⟨by rw [e4]; exact a, b, fa c⟩
  · obtain ⟨fI, a, b⟩ := w.raises y c h
    exact ⟨fI, by rw [e4]; exact a, ia b⟩
theorem Good.blk (G : Good T q ev W k st X) (s : Shared) (H : Hp) (scope : Scope) (C : Addr) (cl : List (Str × Addr)) (fp : List Addr) : Good T q ev (fun _ _ _ => False) k (st.blk scope) (X.blk s H scope (compEnvC scope cl C X.env) fp) := by
  refine ⟨G.w.to rfl rfl rfl rfl rfl, G.N, G.nd, ?_, rfl, G.calm, G.room, takes_none5⟩
  show relabel scope X.env = relS scope st.sc
  rw [← G.sc]; rfl
theorem Good.units (G : Good T q ev W k st X) : X.A.units + 65 < cLine := by have := G.room.un; omega
theorem Good.room0 (G : Good T q ev W k st X) : Room k X.A := G.room.mono (Nat.le_succ _)
theorem dbg_ok {x : Str} (h : dbg x = true) : (x == ("__debug__" : Str)) = false ∧ (x == ("__classdict__" : Str)) = false := by
  unfold dbg at h
  simpa using h
theorem Good.vis (G : Good T q ev W k st X) {i : Nat} {x : Str} (h : visC st i x = true) : X.N[i]? = some x ∧ Vis X.env.scope x ∧ (x == ("__debug__" : Str)) = false ∧ (x == ("__classdict__" : Str)) = false := by
  unfold visC at h
  simp only [Bool.and_eq_true, decide_eq_true_eq] at h
  obtain ⟨⟨h1, h2⟩, h3⟩ := h
  refine ⟨by rw [G.N]; exact h1, ?_, dbg_ok h3⟩
  unfold visB at h2
  unfold Vis
  rw [G.sc]
  split at h2 <;> first | (rename_i e; simp [e]; done) | cases h2
theorem Good.glo (G : Good T q ev W k st X) {x : Str} (h : gloC st x = true) : Gl X x ∧ (x == ("__debug__" : Str)) = false := by
  unfold gloC at h
  simp only [Bool.and_eq_true, decide_eq_true_eq] at h
  refine ⟨?_, (dbg_ok h.2).1⟩
  show X.env.scope.names.lookup x = _
  rw [G.sc]; exact h.1
theorem Good.blt (G : Good T q ev W k st X) {y x : Str} (h : bltC T st y x = true) : x = y ∧ Gl X y ∧ X.mg y = none := by
  unfold bltC at h
  simp only [Bool.and_eq_true, decide_eq_true_eq] at h
  obtain ⟨⟨rfl, h2⟩, h3⟩ := h
  exact ⟨rfl, (G.glo h2).1, G.w.bns _ h3⟩
theorem Good.tgN (G : Good T q ev W k st X) {i : Nat} {x : Str} (h : tgN st i x = true) : X.N[i]? = some x ∧ L2.Loc X.env.scope x ∧ (X.fn x = true ∨ X.env.scope.names.lookup x = some .local) := by
  unfold _root_.G.tgN at h
  simp only [Bool.and_eq_true, Bool.or_eq_true, decide_eq_true_eq] at h
  obtain ⟨h1, h2⟩ := h
  refine ⟨by rw [G.N]; exact h1, ?_⟩
  unfold L2.Loc
  rw [G.sc, G.fn]
  rcases h2 with h2 | ⟨h2, h3⟩
  · exact ⟨.inl h2, .inr h2⟩
  · exact ⟨.inr h2, .inl h3⟩
theorem nameEach {env : Env} : ∀ {is : List Nat} {xs : List Expr}, tgNs st is xs = true → (assignEach xs env).length = is.length ∧ (assignEach xs env).findIdx? (·.1) = none ∧ (assignEach xs env).map (·.2) = xs.map fun x => assign x env
  | [], [], _ => ⟨rfl, rfl, rfl⟩
  | [], _ :: _, h => by cases h
  | _ :: _, [], h => by cases h
  | i :: is, x :: xs, h => by
    cases x with
    | Name y p =>
      simp only [tgNs, Bool.and_eq_true] at h
      obtain ⟨h1, h2, h3⟩ := nameEach (env := env) h.2
      have e : assignEach (.Name y p :: xs) env = (false, assign (.Name y p) env) :: assignEach xs env := rfl
      rw [e]
      refine ⟨by simp [h1], ?_, by simp [h3]⟩
      rw [List.findIdx?_cons]
      simp [h2]
    | _ => cases h
theorem g_names (G : Good T q ev W k st X) : ∀ {is : List Nat} {xs : List Expr}, tgNs st is xs = true → PGs X xs (gTs is)
  | [], [], _ => pgs_nil
  | [], _ :: _, h => by cases h
  | _ :: _, [], h => by cases h
  | i :: is, x :: xs, h => by
    cases x with
    | Name y p =>
      simp only [tgNs, Bool.and_eq_true] at h
      obtain ⟨h1, h2, h3⟩ := G.tgN h.1
      exact pgs_cons (pg_name G.nd h1 h2 h3) (g_names G h.2) rfl
    | _ => cases h
theorem g_tgt (G : Good T q ev W k st X) {tg : Tg} {x : Expr} (h : tgC st tg x = true) : PG X x (gT q.g.K tg) := by
  cases tg with
  | name i =>
    cases x with
    | Name y p =>
      obtain ⟨h1, h2, h3⟩ := G.tgN h
      exact pg_name G.nd h1 h2 h3
    | _ => cases h
  | tup is =>
    cases x with
    | Tuple xs kk p =>
      have h : tgNs st is xs = true := h
      have e := nameEach (env := X.env) h
      rw [← G.w.K]
      exact pg_tup G.calm (g_names G h) e.1 e.2.1
    | _ => cases h
/-- a list of expressions, one by one -/
def LE (q : Pc) (ev : Ev) (W : XK) (X : Cx) (b : Bool) : List E → List Expr → Prop
  | [], [] => True
  | e :: es, x :: xs => PE X x (tE q ev W (.x b) e) ∧ e.star? = false ∧ nstar x = true ∧ LE q ev W X b es xs
  | _, _ => False
theorem LE.pa {b : Bool} : ∀ {es : List E} {xs : List Expr}, LE q ev W X b es xs → PA X xs (tA q ev W b es) ∧ xs.all nstar = true ∧ xs.length = es.length
  | [], [], _ => ⟨a_nil, rfl, rfl⟩
  | [], _ :: _, h => h.elim
  | _ :: _, [], h => h.elim
  | e :: es, x :: xs, h => by
    obtain ⟨h1, h2, h3, h4⟩ := h
    obtain ⟨k1, k2, k3⟩ := LE.pa h4
    exact ⟨a_cons h2 (starEach_cons h3) h1 k1, by simp [h3, k2], by simp [k3]⟩
theorem LE.one {b : Bool} {es : List E} {xs : List Expr} (h : LE q ev W X b es xs) (hl : es.length = 1) : ∃ e x, es = [e] ∧ xs = [x] ∧ PE X x (tE q ev W (.x b) e) ∧ e.star? = false ∧ nstar x = true := by
  match es, xs, h with
  | [e], [x], h => exact ⟨e, x, rfl, rfl, h.1, h.2.1, h.2.2.1⟩
  | [], _, _ => cases hl
  | [_], [], h => exact h.elim
  | [_], _ :: _ :: _, h => exact h.2.2.2.elim
  | _ :: _ :: _, _, _ => simp at hl
theorem LE.two {b : Bool} {es : List E} {xs : List Expr} (h : LE q ev W X b es xs) (hl : es.length = 2) : ∃ e e' x x', es = [e, e'] ∧ xs = [x, x'] ∧ (PE X x (tE q ev W (.x b) e) ∧ e.star? = false ∧ nstar x = true) ∧ (PE X x' (tE q ev W (.x b) e') ∧ e'.star? = false ∧ nstar x' = true) := by
  match es, xs, h with
  | [e, e'], [x, x'], h => exact ⟨e, e', x, x', rfl, rfl, ⟨h.1, h.2.1, h.2.2.1⟩, h.2.2.2.1, h.2.2.2.2.1, h.2.2.2.2.2.1⟩
  | [], _, _ => cases hl
  | [_], _, _ => simp at hl
  | [_, _], [], h => exact h.elim
  | [_, _], [_], h => exact h.2.2.2.elim
  | [_, _], _ :: _ :: _ :: _, h => exact h.2.2.2.2.2.2.elim
  | _ :: _ :: _ :: _, _, _ => simp at hl
end
end G
set_option maxHeartbeats 1000000
namespace G
open PySem PySem.Spec PyProof.Rows L2
section
variable {q : Pc} {ev : Ev} {W : XK} {X : Cx} {pos : Pos}
def trsOf (q : Pc) (ev : Ev) (W : XK) : List Str → List E → List (TE × TE)
  | k :: ks, e :: es => (tC (.str k), tE q ev W (.x false) e) :: trsOf q ev W ks es
  | _, _ => []
theorem pps_of : ∀ {ks : List Str} {es : List E} {keys : List (Option Expr)} {vs : List Expr}, keyEs ks keys = true → ks.length = es.length → LE q ev W X false es vs → PPs X pos keys vs (trsOf q ev W ks es) ∧ keys.all (·.isSome) = true ∧ keys.length = vs.length ∧ keys.length = ks.length
  | [], [], [], [], _, _, _ => ⟨pps_nil, rfl, rfl, rfl⟩
  | [], [], [], _ :: _, _, _, h => h.elim
  | [], [], _ :: _, _, h, _, _ => by simp [keyEs] at h
  | [], _ :: _, _, _, _, h, _ => by simp at h
  | _ :: _, [], _, _, _, h, _ => by simp at h
  | _ :: _, _ :: _, [], _, h, _, _ => by simp [keyEs] at h
  | _ :: _, _ :: _, _ :: _, [], _, _, h => h.elim
  | k :: ks, e :: es, o :: keys, x :: xs, h, hl, hh => by
    obtain ⟨h1, h2, h3, h4⟩ := hh
    unfold keyEs at h
    split at h
    · rename_i heq _; cases heq
    · rename_i heq1 heq2
      cases heq1; cases heq2
      simp only [Bool.and_eq_true, decide_eq_true_eq] at h
      obtain ⟨rfl, h⟩ := h
      obtain ⟨g1, g2, g3, g4⟩ := pps_of h (by simpa using hl) h4
      exact ⟨pps_cons pe_str h1 g1, by simp [g2], by simp [g3], by simp [g4]⟩
    · cases h
theorem tPairs_of {σ : L2.St} {ρ : Rho} : ∀ (ks : List Str) (es : List E) (xs : List Expr) {F : Hp} {A : List Addr} {H : Hp} {S : Store} {T : List V → Hp → Prop} {Q' : List (V × V) → Hp → Prop}, ks.length = es.length → LE q ev W X false es xs → StR q.g F A S H → EnvR q.g F A H ρ σ → PostOf q (RepXL q.g false) W F A H (evalEs ev ρ es S) T →
    (∀ vs H2, vs.length = ks.length → T vs H2 → Q' ((ks.zip vs).map fun p => (V.str p.1, p.2)) H2) → tPairs (trsOf q ev W ks es) σ H Q'
  | [], [], xs, F, A, H, S, T, Q', _, _, st, en, po, k => by
    have po : PostOf q (RepXL q.g false) W F A H (.ok [] S) T := po
    exact k [] H rfl (po [] F A H Step.refl st trivial)
  | [], _ :: _, _, _, _, _, _, _, _, h, _, _, _, _, _ => by simp at h
  | _ :: _, [], _, _, _, _, _, _, _, h, _, _, _, _, _ => by simp at h
  | _ :: _, _ :: _, [], _, _, _, _, _, _, _, h, _, _, _, _ => h.elim
  | y :: ks, e :: es, x :: xs, F, A, H, S, T, Q', hl, hh, st, en, po, k => by
    obtain ⟨h1, h2, h3, h4⟩ := hh
    rw [evalEs_cons h2] at po
    refine ⟨F, A, ρ, S, st, en, PostOf.bind po fun v F1 A1 H1 d S1 _ s1 st1 r1 po => ?_⟩
    refine tPairs_of ks es xs (T := fun vs H => T (v :: vs) H) (by simpa using hl) h4 st1 (en.step s1) (PostOf.bind po fun vs F2 A2 H2 ds S2 _ s2 st2 rl po => po (v :: vs) F2 A2 H2 Step.refl st2 ⟨r1.step s2, rl⟩) fun vs H2 l t => ?_
    exact k (v :: vs) H2 (by simp [l]) t
theorem putK_fresh {kvs : List (Key × V)} {k : Key} {v : V} (h : ∀ p ∈ kvs, p.1 ≠ k) : putK kvs k v = kvs ++ [(k, v)] := by
  unfold putK
  rw [if_neg]
  simp only [List.any_eq_true, decide_eq_true_eq, not_exists, not_and]
  exact h
theorem mergeK_nodup : ∀ (more acc : List (Key × V)), (∀ p ∈ more, ∀ r ∈ acc, r.1 ≠ p.1) → (more.map (·.1)).Nodup → mergeK acc more = acc ++ more
  | [], acc, _, _ => by simp [mergeK]
  | p :: more, acc, h, hn => by
    rw [List.map_cons, List.nodup_cons] at hn
    show mergeK (putK acc p.1 p.2) more = _
    rw [putK_fresh (h p (by simp)), mergeK_nodup more _ _ hn.2]
    · simp
    · intro r hr s hs
      rcases List.mem_append.mp hs with hs | hs
      · exact h r (by simp [hr]) s hs
      · rw [List.mem_singleton.mp hs]
        intro e
        exact hn.1 (by rw [show p.1 = r.1 from e]; exact List.mem_map_of_mem hr)
theorem nodup_inr : ∀ ks : List Str, ks.Nodup → (ks.map (fun k : Str => (Sum.inr k : Key))).Nodup
  | [], _ => List.nodup_nil
  | k :: ks, h => by
    rw [List.nodup_cons] at h
    rw [List.map_cons, List.nodup_cons]
    refine ⟨fun m => ?_, nodup_inr ks h.2⟩
    obtain ⟨j, hj, e⟩ := List.mem_map.mp m
    cases e
    exact h.1 hj
theorem n_disp {ks : List Str} {es : List E} {keys : List (Option Expr)} {vs : List Expr} (h1 : keyEs ks keys = true) (h2 : ks.length = es.length) (h3 : ks.length ≤ 15) (h4 : ks ≠ []) (hh : LE q ev W X false es vs) : PE X (.Dict keys vs pos) (tE q ev W .new (.disp ks es)) := by
  obtain ⟨g1, g2, g3, g4⟩ := pps_of (pos := pos) h1 h2 hh
  refine pe_imp (pe_disp g1 g2 g3 (fun e => h4 (List.length_eq_zero_iff.mp (by rw [← g4, e]; rfl))) (by omega)) fun σ H Q ⟨F, A, ρ, S, st, en, po⟩ => ?_
  intro p hp
  obtain ⟨s0, st0, hf0, ha0⟩ := st.own (o := .dK []) hp
  simp only [evalE] at po
  refine tPairs_of ks es vs (T := fun us H2 => ∃ F2 A2 ds S2, Step F A (upd H p (.dK [])) F2 A2 H2 ∧ StR q.g F2 A2 S2 H2 ∧ RepXL q.g false F2 A2 H2 us ds ∧ evalEs ev ρ es S = .ok ds S2) h2 hh st0 (en.step s0) ?_ ?_
  · cases he : evalEs ev ρ es S with
    | ok ds S2 => exact fun us F2 A2 H2 s2 st2 rl => ⟨F2, A2, ds, S2, s2, st2, rl, rfl⟩
    | ex c d S2 =>
      rw [he] at po
      exact fun cls dd F2 A2 H2 s2 st2 r => po cls dd F2 A2 H2 (s0.trans s2) st2 r
    | no => rw [he] at po; exact po
  · rintro us H2 hl ⟨F2, A2, ds, S2, s2, st2, rl, he⟩
    rw [he] at po
    have po : PostOf q (RepM q.g H .new) W F A H (if dispOk ks ds = true then .ok (.dct false (ks.map .str) ds) S2 else .no) Q := po
    split at po
    · rename_i hd
      simp only [dispOk, decide_eq_true_eq] at hd
      obtain ⟨d1, d2, d3, d4⟩ := hd
      have hp2 : H2 p = some (.dK []) := s2.keep p _ upd_same ha0
      have hA2 : p ∉ A2 := fun m => by
        have := s2.frA p m ha0
        rw [upd_same] at this; cases this
      have hF2 : F2 p = none := by
        cases hf : F2 p with
        | none => rfl
        | some o => exact absurd (by rw [upd_same]; trivial) (s2.frF p ha0 (by rw [hf]; exact fun z => nomatch z) hf0)
      refine ⟨hp2, (ks.zip us).map (fun p => (Sum.inr p.1, p.2)), ?_, by simp; omega, ?_⟩
      · rw [List.map_map]; rfl
      · have hm : mergeK [] ((ks.zip us).map (fun p => ((Sum.inr p.1 : Key), p.2))) = (ks.zip us).map (fun p => (Sum.inr p.1, p.2)) := by
          rw [mergeK_nodup _ _ (by simp) ?_]
          · simp
          · rw [List.map_map]
            have : ((fun x : Key × V => x.1) ∘ fun p : Str × V => ((Sum.inr p.1 : Key), p.2)) = (fun k : Str => (Sum.inr k : Key)) ∘ Prod.fst := rfl
            rw [this, ← List.map_map, List.map_fst_zip (by omega)]
            exact nodup_inr ks d4
        rw [hm]
        have sAll := s0.trans s2
        refine po (.ref p) F2 A2 _ (sAll.mut hp) (st2.mut hF2 hA2) ⟨p, rfl, hA2, hF2, hp, .inr ⟨false, ks.map .str, ds, _, us, rfl, upd_same, ⟨_, rfl, ?_, ?_⟩, (rl.no).mono (Le.refl F2) List.prefix_rfl⟩⟩
        · rw [List.map_map, List.map_map]
          have e1 : (dkey ∘ D.str) = fun k : Str => some (Sum.inr k : Key) := rfl
          have e2 : ((fun p : Key × V => some p.1) ∘ fun p : Str × V => ((Sum.inr p.1 : Key), p.2)) = (fun k : Str => some (Sum.inr k : Key)) ∘ Prod.fst := rfl
          rw [e1, e2, ← List.map_map, List.map_fst_zip (by omega)]
        · rw [List.map_map]
          have e2 : ((fun x : Key × V => x.2) ∘ fun p : Str × V => ((Sum.inr p.1 : Key), p.2)) = Prod.snd := rfl
          rw [e2, List.map_snd_zip (by omega)]
    · exact po.elim
end
end G
set_option maxHeartbeats 4000000
namespace G
open PySem PySem.Spec PyProof.Rows L2
section
variable {T : Tb} {q : Pc} {ev : Ev} {k : Nat} {W : XK} {st : Sta} {X : Cx}
theorem i_ok (G : Good T q ev W k st X) {c : Bool} {kd : ItK} {it : List E} {tx ix : Expr} (hc : iC T st kd it.length tx ix = true) (h : LE q ev W X (c && iB kd) it (iX kd ix)) : PI X tx ix (iT q ev W c kd it) := by
  cases kd with
  | over =>
    have hl := of_decide_eq_true hc
    obtain ⟨e, x, rfl, hx, h1, h2, h3⟩ := h.one hl
    cases hx
    rw [show (c && iB .over) = c by cases c <;> rfl] at h1
    exact i_over h2 G.w.K h1
  | keys =>
    have hl := of_decide_eq_true hc
    obtain ⟨e, x, rfl, hx, h1, h2, h3⟩ := h.one hl
    cases hx
    rw [show (c && iB .keys) = false by cases c <;> rfl] at h1
    exact i_keys h2 h1
  | range1 =>
    simp only [iC, Bool.and_eq_true, decide_eq_true_eq] at hc
    obtain ⟨hl, hc⟩ := hc
    split at hc
    · obtain ⟨rfl, g1, g2⟩ := G.blt hc
      obtain ⟨e, x, rfl, hx, h1, h2, h3⟩ := h.one hl
      have hx : _ = [x] := hx
      subst hx
      rw [show (c && iB .range1) = false by cases c <;> rfl] at h1
      exact i_range1 h2 g1 g2 h3 h1
    · cases hc
  | range2 =>
    simp only [iC, Bool.and_eq_true, decide_eq_true_eq] at hc
    obtain ⟨hl, hc⟩ := hc
    split at hc
    · obtain ⟨rfl, g1, g2⟩ := G.blt hc
      obtain ⟨e, e', x, x', rfl, hx, ⟨h1, h2, h3⟩, h4, h5, h6⟩ := h.two hl
      have hx : _ = [x, x'] := hx
      subst hx
      rw [show (c && iB .range2) = false by cases c <;> rfl] at h1 h4
      exact i_range2 h2 h5 g1 g2 h3 h6 h1 h4
    · cases hc
  | enum =>
    simp only [iC, Bool.and_eq_true, decide_eq_true_eq] at hc
    obtain ⟨⟨hl, ht⟩, hc⟩ := hc
    split at hc
    · obtain ⟨rfl, g1, g2⟩ := G.blt hc
      obtain ⟨e, x, rfl, hx, h1, h2, h3⟩ := h.one hl
      have hx : _ = [x] := hx
      subst hx
      rw [show (c && iB .enum) = c by cases c <;> rfl] at h1
      cases tx <;> first | exact i_enum h2 G.w.K g1 g2 h3 h1 | cases ht
    · cases hc
  | zip =>
    simp only [iC, Bool.and_eq_true, decide_eq_true_eq] at hc
    obtain ⟨⟨hl, ht⟩, hc⟩ := hc
    split at hc
    · obtain ⟨rfl, g1, g2⟩ := G.blt hc
      obtain ⟨e, e', x, x', rfl, hx, ⟨h1, h2, h3⟩, h4, h5, h6⟩ := h.two hl
      have hx : _ = [x, x'] := hx
      subst hx
      rw [show (c && iB .zip) = c by cases c <;> rfl] at h1 h4
      cases tx <;> first | exact i_zip h2 h5 G.w.K g1 g2 h3 h6 h1 h4 | cases ht
    · cases hc
  | items => cases hc
theorem ownP_ix (own : List Nat) : (ownP st own).map (·.2) = own := by
  unfold ownP
  rw [List.map_map]
  exact List.map_id _
theorem biB_ok (G : Good T q ev W k st X) {b : Bi} {y : Str} {es : List E} {xs : List Expr} {p pos : Pos} {m : Md} (hm : m.nn = true) (hb : biNew b = false) (hy : y = biN b) (hg : gloC st y = true) (hn : (if b = .gcd then T.gcd else T.bns.contains y) = true) (hset : b ≠ .set) (h : LE q ev W X true es xs) (h0 : es ≠ []) : PE X (.Call (.Name y p) xs [] pos) (tE q ev W m (.bi b es)) := by
  subst hy
  obtain ⟨ha, hs, hlen⟩ := h.pa
  obtain ⟨g1, g2⟩ := G.glo hg
  cases xs with
  | nil => cases es with
    | nil => exact absurd rfl h0
    | cons _ _ => cases hlen
  | cons x xs =>
    have hmn : b ≠ .gcd → X.mg (biN b) = none := fun z => by rw [if_neg z] at hn; exact G.w.bns _ hn
    cases b with
    | len => exact s_biB hm (bi_len G.w.K) g1 (.inl ⟨hmn (by decide), by first | rfl | decide +kernel⟩) (by decide) g2 hs ha
    | abs => exact s_biB hm bi_abs g1 (.inl ⟨hmn (by decide), by first | rfl | decide +kernel⟩) (by decide) g2 hs ha
    | max1 => exact s_biB hm (bi_max1 G.w.K G.calm) g1 (.inl ⟨hmn (by decide), by first | rfl | decide +kernel⟩) (by decide) g2 hs ha
    | max2 => exact s_biB hm (bi_max2 G.calm) g1 (.inl ⟨hmn (by decide), by first | rfl | decide +kernel⟩) (by decide) g2 hs ha
    | min1 => exact s_biB hm (bi_min1 G.w.K G.calm) g1 (.inl ⟨hmn (by decide), by first | rfl | decide +kernel⟩) (by decide) g2 hs ha
    | min2 => exact s_biB hm (bi_min2 G.calm) g1 (.inl ⟨hmn (by decide), by first | rfl | decide +kernel⟩) (by decide) g2 hs ha
    | sum => exact s_biB hm (bi_sum G.w.K G.calm) g1 (.inl ⟨hmn (by decide), by first | rfl | decide +kernel⟩) (by decide) g2 hs ha
    | all => exact s_biB hm (bi_all G.w.K G.calm) g1 (.inl ⟨hmn (by decide), by first | rfl | decide +kernel⟩) (by decide) g2 hs ha
    | any => exact s_biB hm (bi_any G.w.K G.calm) g1 (.inl ⟨hmn (by decide), by first | rfl | decide +kernel⟩) (by decide) g2 hs ha
    | int => exact s_biT hm bi_int g1 (hmn (by decide)) (by first | rfl | decide +kernel) (by decide) g2 hs ha
    | str => exact s_biT hm bi_str g1 (hmn (by decide)) (by first | rfl | decide +kernel) (by decide) g2 hs ha
    | tuple => exact s_biT hm (bi_tuple G.w.K) g1 (hmn (by decide)) (by first | rfl | decide +kernel) (by decide) g2 hs ha
    | divmod => exact s_biB hm bi_divmod g1 (.inl ⟨hmn (by decide), by first | rfl | decide +kernel⟩) (by decide) g2 hs ha
    | gcd => exact s_biB hm bi_gcd g1 (.inr (G.w.gcd hn)) (by decide) g2 hs ha
    | list => cases hb
    | sorted => cases hb
    | set => exact absurd rfl hset

theorem PE.cast {x y : Expr} {t : TE} (h : PE X x t) (e : x = y) : PE X y t := e ▸ h
def PAs (q : Pc) (ev : Ev) (W : XK) (X : Cx) (es : List E) (xs : List Expr) : Prop := PA X xs (tA q ev W false es)
mutual
theorem sE : ∀ (e : E) (W : XK) (st : Sta) (X : Cx) (m : Md) (x : Expr), Good T q ev W k st X → mE T st e m x = true → PE X x (tE q ev W m e)
  | .no, W, st, X, m, x, G, h => s_no
  | .var i, W, st, X, m, x, G, h => by
    simp only [mE, Bool.and_eq_true] at h
    obtain ⟨hm, h⟩ := h
    split at h
    · obtain ⟨h1, h2, h3, h4⟩ := G.vis h
      exact s_var hm h1 h2 h3 h4
    · cases h
  | .bor i, W, st, X, m, x, G, h => by
    simp only [mE, Bool.and_eq_true, decide_eq_true_eq] at h
    obtain ⟨rfl, h⟩ := h
    split at h
    · obtain ⟨h1, h2, h3, h4⟩ := G.vis h
      exact s_bor h1 h2 h3 h4
    · cases h
  | .con d, W, st, X, m, x, G, h => by
    simp only [mE, Bool.and_eq_true] at h
    obtain ⟨hm, h⟩ := h
    split at h
    · obtain ⟨v, hv⟩ := litC_ok h
      exact s_con hm hv
    · cases h
  | .glo i, W, st, X, m, x, G, h => by
    simp only [mE, Bool.and_eq_true] at h
    obtain ⟨hm, h⟩ := h
    split at h
    · simp only [Bool.and_eq_true] at h
      obtain ⟨h1, h2⟩ := h
      obtain ⟨g1, g2⟩ := G.glo h1
      obtain ⟨u, v, d, k1, k2, k3, k4⟩ := G.w.glos _ _ h2
      exact s_glo hm g1 k1 k2 k4 k3 g2
    · cases h
  | .fnv f, W, st, X, m, x, G, h => by
    simp only [mE, Bool.and_eq_true] at h
    obtain ⟨hm, h⟩ := h
    split at h
    · simp only [Bool.and_eq_true] at h
      obtain ⟨h1, h2⟩ := h
      obtain ⟨g1, g2⟩ := G.glo h1
      exact s_fnv hm g1 (G.w.fns _ _ h2).1 g2
    · cases h
  | .tup es, W, st, X, m, x, G, h => by
    simp only [mE, Bool.and_eq_true] at h
    obtain ⟨hm, h⟩ := h
    split at h
    · exact s_tup hm (sEsS es W st X _ G h)
    · cases h
  | .star e, W, st, X, m, x, G, h => ⟨fun pins s σ H Q I ⟨F, A, ρ, S, s0, en, po⟩ => by simp only [evalE] at po; exact po.elim⟩
  | .lst es, W, st, X, m, x, G, h => by
    simp only [mE] at h
    split at h
    · exact new_m (n_lst (sEsS es W st X _ G h)) m
    · cases h
  | .cell e, W, st, X, m, x, G, h => by
    simp only [mE, Bool.and_eq_true] at h
    obtain ⟨hm, h⟩ := h
    exact s_cell hm (sE e W st X .new x G h)
  | .disp ks es, W, st, X, m, x, G, h => by
    simp only [mE] at h
    split at h
    · simp only [Bool.and_eq_true, decide_eq_true_eq] at h
      obtain ⟨⟨⟨⟨h1, h2⟩, h3⟩, h4⟩, h5⟩ := h
      exact new_m (n_disp h1 h2 h3 h4 (sEs es W st X false _ G h5)) m
    · cases h
  | .dct0 t, W, st, X, m, x, G, h => by
    simp only [mE] at h
    split at h
    · cases t
      · exact new_m n_dct0K m
      · exact new_m n_dct0T m
    · cases h
  | .lrg es, W, st, X, m, x, G, h => by
    simp only [mE] at h
    split at h
    · simp only [Bool.and_eq_true, Bool.or_eq_true, decide_eq_true_eq] at h
      obtain ⟨⟨⟨h1, h2⟩, h3⟩, h4⟩ := h
      obtain ⟨rfl, g1, g2⟩ := G.blt h1
      obtain ⟨rfl, g3, g4⟩ := G.blt h2
      have L := sEs es W st X false _ G h4
      rcases h3 with h3 | h3
      · obtain ⟨e, y, rfl, rfl, k1, k2, k3⟩ := L.one h3
        exact new_m (n_lrg1 G.calm k2 g1 g2 g3 g4 k3 k1) m
      · obtain ⟨e, e', y, y', rfl, rfl, ⟨k1, k2, k3⟩, k4, k5, k6⟩ := L.two h3
        exact new_m (n_lrg2 G.calm k2 k5 g1 g2 g3 g4 k3 k6 k1 k4) m
    · cases h
  | .kin neg i a, W, st, X, m, x, G, h => by
    simp only [mE, Bool.and_eq_true] at h
    obtain ⟨hm, h⟩ := h
    split at h
    · simp only [Bool.and_eq_true, decide_eq_true_eq] at h
      obtain ⟨⟨⟨rfl, h1⟩, h2⟩, h3⟩ := h
      obtain ⟨g1, g2⟩ := G.glo h1
      obtain ⟨yd, k1, k2⟩ := G.w.tabs _ _ h2
      exact s_kin hm G.w.K g1 k1 g2 k2 (sE a W st X (.x false) _ G h3)
    · cases h
  | .kidx i a, W, st, X, m, x, G, h => by
    simp only [mE, Bool.and_eq_true] at h
    obtain ⟨hm, h⟩ := h
    split at h
    · simp only [Bool.and_eq_true] at h
      obtain ⟨⟨⟨h0, h1⟩, h2⟩, h3⟩ := h
      obtain ⟨g1, g2⟩ := G.glo h1
      obtain ⟨yd, k1, k2⟩ := G.w.tabs _ _ h2
      exact s_kidx hm G.w.K g1 k1 g2 k2 h0 (sE a W st X (.x false) _ G h3)
    · cases h
  | .bin o a b, W, st, X, m, x, G, h => by
    simp only [mE, Bool.and_eq_true, Bool.or_eq_true, decide_eq_true_eq] at h
    obtain ⟨hm, h⟩ := h
    split at h
    · simp only [Bool.and_eq_true, decide_eq_true_eq] at h
      obtain ⟨⟨rfl, h1⟩, h2⟩ := h
      rcases hm with hm | ⟨rfl, hl⟩
      · exact s_bin hm G.w.K (sE a W st X (.x true) _ G h1) (sE b W st X (.x true) _ G h2)
      · exact new_m (n_add hl (sE a W st X (.x true) _ G h1) (sE b W st X (.x true) _ G h2)) m
    · cases h
  | .neg a, W, st, X, m, x, G, h => by
    simp only [mE, Bool.and_eq_true] at h
    obtain ⟨hm, h⟩ := h
    split at h
    · exact s_neg hm (sE a W st X (.x false) _ G h)
    · cases h
  | .not a, W, st, X, m, x, G, h => by
    simp only [mE, Bool.and_eq_true] at h
    obtain ⟨hm, h⟩ := h
    split at h
    · exact s_not hm (sE a W st X (.x false) _ G h)
    · cases h
  | .and a b, W, st, X, m, x, G, h => by
    simp only [mE, Bool.and_eq_true] at h
    obtain ⟨hm, h⟩ := h
    split at h
    · rename_i y z r p
      simp only [Bool.and_eq_true] at h
      obtain ⟨h1, h2⟩ := h
      refine s_and hm (sE a W st X (.x false) _ G h1) ?_
      cases m with
      | new => cases hm
      | x bb =>
        cases r with
        | nil => exact pe_one (sE b W st X (.x bb) _ G h2)
        | cons u r => exact sE b W st X (.x bb) _ G h2
    · cases h
  | .or a b, W, st, X, m, x, G, h => by
    simp only [mE, Bool.and_eq_true] at h
    obtain ⟨hm, h⟩ := h
    split at h
    · rename_i y z r p
      simp only [Bool.and_eq_true] at h
      obtain ⟨h1, h2⟩ := h
      refine s_or hm (sE a W st X (.x false) _ G h1) ?_
      cases m with
      | new => cases hm
      | x bb =>
        cases r with
        | nil => exact pe_one (sE b W st X (.x bb) _ G h2)
        | cons u r => exact sE b W st X (.x bb) _ G h2
    · cases h
  | .ite c a b, W, st, X, m, x, G, h => by
    simp only [mE, Bool.and_eq_true] at h
    obtain ⟨hm, h⟩ := h
    split at h
    · simp only [Bool.and_eq_true] at h
      obtain ⟨⟨h1, h2⟩, h3⟩ := h
      cases m with
      | new => cases hm
      | x bb => exact s_ite (sT c W st X _ G h1) (sE a W st X (.x bb) _ G h2) (sE b W st X (.x bb) _ G h3)
    · cases h
  | .cmp o a b, W, st, X, m, x, G, h => by
    simp only [mE, Bool.and_eq_true] at h
    obtain ⟨hm, h⟩ := h
    split at h
    · simp only [Bool.and_eq_true, decide_eq_true_eq] at h
      obtain ⟨⟨⟨rfl, h0⟩, h1⟩, h2⟩ := h
      exact s_cmp hm G.w.K G.units (marks_of h0) (sE a W st X (.x true) _ G h1) (sE b W st X (.x true) _ G h2)
    · cases h
  | .chn o o' a b c, W, st, X, m, x, G, h => by
    simp only [mE, Bool.and_eq_true] at h
    obtain ⟨hm, h⟩ := h
    split at h
    · simp only [Bool.and_eq_true, decide_eq_true_eq] at h
      obtain ⟨⟨⟨⟨⟨rfl, rfl⟩, h0⟩, h1⟩, h2⟩, h3⟩ := h
      exact s_chn hm G.w.K G.units (lastMarks_of h0) (sE a W st X (.x true) _ G h1) (sE b W st X (.x true) _ G h2) (sE c W st X (.x true) _ G h3)
    · cases h
  | .call f es, W, st, X, m, x, G, h => by
    simp only [mE, Bool.and_eq_true] at h
    obtain ⟨hm, h⟩ := h
    split at h
    · simp only [Bool.and_eq_true] at h
      obtain ⟨⟨h1, h2⟩, h3⟩ := h
      obtain ⟨g1, g2⟩ := G.glo h1
      obtain ⟨k1, k2, k3⟩ := G.w.fns _ _ h2
      obtain ⟨p1, p2, p3⟩ := (sEs es W st X false _ G h3).pa
      cases m with
      | new => cases hm
      | x bb => exact s_call k3 G.room0 G.tk g1 k1 k2 g2 p2 p3 p1
    · cases h
  | .bi b es, W, st, X, m, x, G, h => by
    simp only [mE, Bool.and_eq_true, Bool.or_eq_true] at h
    obtain ⟨hm, h⟩ := h
    split at h
    · simp only [Bool.and_eq_true, Bool.or_eq_true, decide_eq_true_eq, Bool.not_eq_true'] at h
      obtain ⟨⟨⟨⟨⟨⟨h1, h2⟩, h3⟩, h3'⟩, h4⟩, h5⟩, h6⟩ := h
      have L := sEs es W st X true _ G h4
      by_cases hn : biNew b = true
      · have hl : es.length = 1 := by
          rcases h6 with h6 | h6
          · rw [hn] at h6; cases h6
          · exact h6
        obtain ⟨e, y, rfl, rfl, k1, k2, k3⟩ := L.one hl
        obtain ⟨g1, g2⟩ := G.glo h2
        have pa := L.pa.1
        cases b <;> first | (cases hn; done) | skip
        · have h1 : _ = ("list" : Str) := h1
          subst h1
          exact new_m (n_list G.w.K g1 (G.w.bns _ (by simpa using h3)) k3 pa) m
        · have h1 : _ = ("sorted" : Str) := h1
          subst h1
          exact new_m (n_sorted G.w.K g1 (G.w.bns _ (by simpa using h3)) k3 pa) m
      · have hn : biNew b = false := by simpa using hn
        have hm : m.nn = true := by
          rcases hm with hm | hm
          · rw [hn] at hm; cases hm
          · exact hm
        exact biB_ok G hm hn h1 h2 h3 h3' L h5
    · cases h
  | .mth mt o es, W, st, X, m, x, G, h => by
    cases mt <;> first | (simp only [mE] at h; cases h; done) | skip
    simp only [mE, Bool.and_eq_true] at h
    obtain ⟨hm, h⟩ := h
    split at h
    · simp only [Bool.and_eq_true, decide_eq_true_eq] at h
      obtain ⟨⟨⟨⟨⟨rfl, h1⟩, h2⟩, h3⟩, h4⟩, h5⟩ := h
      have L := sEs es W st X false _ G h5
      obtain ⟨e, e', y, y', rfl, rfl, ⟨k1, k2, k3⟩, k4, k5, k6⟩ := L.two h3
      exact s_get2 hm G.units k2 k5 h1 h2 (by simp [k3, k6]) (sE o W st X (.x true) _ G h4) k1 k4
    · cases h
  | .idx a i, W, st, X, m, x, G, h => by
    simp only [mE, Bool.and_eq_true] at h
    obtain ⟨hm, h⟩ := h
    split at h
    · simp only [Bool.and_eq_true] at h
      obtain ⟨⟨h0, h1⟩, h2⟩ := h
      exact s_idx hm G.w.K G.units (plainIx_of h0) (sE a W st X (.x true) _ G h1) (sE i W st X (.x true) _ G h2)
    · cases h
  | .slc a lo hi, W, st, X, m, x, G, h => by
    simp only [mE, Bool.and_eq_true] at h
    obtain ⟨hm, h⟩ := h
    split at h
    · rename_i y l hh p1 p2
      simp only [Bool.and_eq_true] at h
      obtain ⟨⟨h0, h1⟩, h2⟩ := h
      have part : ∀ {l : Option Expr} {ls : List E}, LE q ev W X false ls l.toList → (l = none ∧ ls = []) ∨ ∃ x e, l = some x ∧ ls = [e] ∧ e.star? = false ∧ PE X x (tE q ev W (.x false) e) := by
        intro l ls L
        cases l with
        | none =>
          cases ls with
          | nil => exact .inl ⟨rfl, rfl⟩
          | cons _ _ => exact L.elim
        | some x =>
          obtain ⟨_, _, hlen⟩ := L.pa
          obtain ⟨e, y, rfl, hy, k1, k2, k3⟩ := L.one (by simpa using hlen.symm)
          cases hy
          exact .inr ⟨x, e, rfl, rfl, k2, k1⟩
      exact s_slc hm G.w.K (sE a W st X (.x true) _ G h0) (part (sEs lo W st X false _ G h1)) (part (sEs hi W st X false _ G h2))
    · cases h
  | .rev a, W, st, X, m, x, G, h => by
    simp only [mE, Bool.and_eq_true] at h
    obtain ⟨hm, h⟩ := h
    split at h
    · simp only [Bool.and_eq_true] at h
      obtain ⟨h0, h1⟩ := h
      unfold minus1 at h0
      split at h0
      · exact s_rev hm G.w.K (sE a W st X (.x true) _ G h1)
      · cases h0
    · cases h
  | .lc own tg kd it ifs elt, W, st, X, m, x, G, h => by
    simp only [mE] at h
    split at h
    · rename_i ox tx ix ifx scope p
      simp only [Bool.and_eq_true, decide_eq_true_eq] at h
      obtain ⟨⟨⟨⟨⟨⟨⟨⟨h1, h2⟩, h3⟩, h4⟩, h5⟩, h6⟩, h7⟩, h8⟩, h9⟩ := h
      have hi := i_ok (c := true) G h4 (by rw [Bool.true_and]; exact sEs it W st X _ _ G h5)
      have ok := blkOk_by h2
      rw [← G.N, ← G.sc] at ok
      have hown : ∀ i ∈ tg.ixs, i ∈ (ownP st own).map (·.2) := fun i hi => by
        rw [ownP_ix]
        have := (List.all_eq_true.mp h3) i hi
        simpa using this
      have := n_lc (q := q) (ev := ev) (W := W) (tgt := tg) (k := kd) (it := it) (ifs := ifs) (elt := elt) (pos := p) G.w.K G.calm G.nd ok h1 hown hi (fun s H C cl fp => g_tgt (G.blk s H scope C cl fp) h6)
        (fun s H C cl fp => sTs ifs _ (st.blk scope) _ _ (G.blk s H scope C cl fp) h8 h7) (fun s H C cl fp => sE elt _ (st.blk scope) _ (.x false) _ (G.blk s H scope C cl fp) h9)
      rw [ownP_ix] at this
      exact new_m this m
    · cases h
  | .dc own tg kd it ke ve, W, st, X, m, x, G, h => by
    simp only [mE] at h
    split at h
    · rename_i kx vx tx ix scope p
      simp only [Bool.and_eq_true, decide_eq_true_eq] at h
      obtain ⟨⟨⟨⟨⟨⟨⟨h1, h2⟩, h3⟩, h4⟩, h5⟩, h6⟩, h7⟩, h8⟩ := h
      have hi := i_ok (c := true) G h4 (by rw [Bool.true_and]; exact sEs it W st X _ _ G h5)
      have ok := blkOk_by h2
      rw [← G.N, ← G.sc] at ok
      have hown : ∀ i ∈ tg.ixs, i ∈ (ownP st own).map (·.2) := fun i hi => by
        rw [ownP_ix]
        have := (List.all_eq_true.mp h3) i hi
        simpa using this
      have := n_dc (q := q) (ev := ev) (W := W) (tgt := tg) (k := kd) (it := it) (ke := ke) (ve := ve) (pos := p) G.calm G.nd ok h1 hown hi (fun s H C cl fp => g_tgt (G.blk s H scope C cl fp) h6)
        (fun s H C cl fp => sE ke _ (st.blk scope) _ (.x false) _ (G.blk s H scope C cl fp) h7) (fun s H C cl fp => sE ve _ (st.blk scope) _ (.x false) _ (G.blk s H scope C cl fp) h8)
      rw [ownP_ix] at this
      exact new_m this m
    · cases h
  | .isi ts a, W, st, X, m, x, G, h => by
    simp only [mE, Bool.and_eq_true] at h
    obtain ⟨hm, h⟩ := h
    split at h
    · simp only [Bool.and_eq_true] at h
      obtain ⟨⟨⟨h1, h2⟩, h3⟩, h4⟩ := h
      obtain ⟨rfl, g1, g2⟩ := G.blt h1
      obtain ⟨rfl, g3, g4⟩ := G.blt h2
      exact s_isi hm G.w.K g1 g2 g3 g4 h3 (sE a W st X (.x true) _ G h4)
    · cases h
  | .fld c f a, W, st, X, m, x, G, h => by
    simp only [mE, Bool.and_eq_true] at h
    obtain ⟨hm, h⟩ := h
    split at h
    · simp only [Bool.and_eq_true, decide_eq_true_eq] at h
      obtain ⟨⟨⟨rfl, h1⟩, h2⟩, h3⟩ := h
      obtain ⟨k1, k2⟩ := G.w.flds _ _ h1
      exact s_fld hm G.w.K k1 k2 h2 (sE a W st X (.x false) _ G h3)
    · cases h
  | .prop c f a, W, st, X, m, x, G, h => by
    simp only [mE, Bool.and_eq_true] at h
    obtain ⟨hm, h⟩ := h
    split at h
    · simp only [Bool.and_eq_true] at h
      obtain ⟨⟨h1, h2⟩, h3⟩ := h
      obtain ⟨pa, k1, k2, k3⟩ := G.w.props _ _ _ h1
      cases m with
      | new => cases hm
      | x bb => exact s_prop k3 G.room G.w.K k1 k2 h2 (sE a W st X (.x false) _ G h3)
    · cases h
  | .meth c mn f o es, W, st, X, m, x, G, h => by
    simp only [mE, Bool.and_eq_true] at h
    obtain ⟨hm, h⟩ := h
    split at h
    · simp only [Bool.and_eq_true, decide_eq_true_eq] at h
      obtain ⟨⟨⟨⟨⟨⟨rfl, h1⟩, h2⟩, h3⟩, h4⟩, h5⟩, h6⟩ := h
      obtain ⟨k1, k2, k3⟩ := G.w.meths _ _ _ h1
      obtain ⟨p1, p2, p3⟩ := (sEs es W st X false _ G h6).pa
      cases m with
      | new => cases hm
      | x bb => exact s_meth k3 G.room0 G.tk G.w.K k1 k2 h2 h3 p2 h4 p3 (sE o W st X (.x false) _ G h5) p1
    · cases h
  | .new c f es, W, st, X, m, x, G, h => by
    simp only [mE, Bool.and_eq_true] at h
    obtain ⟨hm, h⟩ := h
    split at h
    · simp only [Bool.and_eq_true, decide_eq_true_eq] at h
      obtain ⟨⟨⟨h1, h2⟩, h3⟩, h4⟩ := h
      obtain ⟨g1, g2⟩ := G.glo h1
      obtain ⟨k1, k2, k3⟩ := G.w.makes _ _ _ h2
      obtain ⟨p1, p2, p3⟩ := (sEs es W st X false _ G h4).pa
      cases m with
      | new => cases hm
      | x bb =>
        rename_i y p xs p'
        cases xs with
        | nil =>
          cases es with
          | nil => exact absurd rfl h3
          | cons _ _ => cases p3
        | cons x0 xs => exact s_new k3 G.room G.tk G.w.K k2 g1 k1 g2 p2 p1
    · cases h
  | .callK f es ks pm, W, st, X, m, x, G, h => by
    simp only [mE, Bool.and_eq_true] at h
    obtain ⟨hm, h⟩ := h
    split at h
    · simp only [Bool.and_eq_true, decide_eq_true_eq] at h
      obtain ⟨⟨⟨⟨⟨h1, h2⟩, h3⟩, h4⟩, h5⟩, h6⟩ := h
      obtain ⟨g1, g2⟩ := G.glo h1
      obtain ⟨k1, k2, k3⟩ := G.w.fns _ _ h2
      rw [G.w.pn _ h3] at h5
      cases m with
      | new => cases hm
      | x bb => exact s_callK k3 G.room0 G.tk g1 k1 k2 g2 h4 h5 (sKs es W st X _ G h6)
    · cases h
  | .methK c mn f o es ks pm, W, st, X, m, x, G, h => by
    simp only [mE, Bool.and_eq_true] at h
    obtain ⟨hm, h⟩ := h
    split at h
    · simp only [Bool.and_eq_true, decide_eq_true_eq] at h
      obtain ⟨⟨⟨⟨⟨⟨⟨⟨⟨rfl, h1⟩, h2⟩, h3⟩, h4⟩, h5⟩, h6⟩, h7⟩, h8⟩, h9⟩ := h
      obtain ⟨k1, k2, k3⟩ := G.w.meths _ _ _ h1
      rw [G.w.pn _ h5] at h7
      cases m with
      | new => cases hm
      | x bb => exact s_methK k3 G.room0 G.tk G.w.K k1 k2 h2 h3 h6 h4 h7 (sE o W st X (.x false) _ G h8) (sKs es W st X _ G h9)
    · cases h
  | .newK c f es ks pm, W, st, X, m, x, G, h => by
    simp only [mE, Bool.and_eq_true] at h
    obtain ⟨hm, h⟩ := h
    split at h
    · simp only [Bool.and_eq_true, decide_eq_true_eq] at h
      obtain ⟨⟨⟨⟨⟨h1, h2⟩, h3⟩, h4⟩, h5⟩, h6⟩ := h
      obtain ⟨g1, g2⟩ := G.glo h1
      obtain ⟨k1, k2, k3⟩ := G.w.makes _ _ _ h2
      rw [G.w.pn _ h3] at h5
      cases m with
      | new => cases hm
      | x bb => exact s_newK k3 G.room G.tk G.w.K k2 g1 k1 g2 h4 h5 (sKs es W st X _ G h6)
    · cases h
theorem sKs : ∀ (es : List E) (W : XK) (st : Sta) (X : Cx) (kws : List Keyword), Good T q ev W k st X → mKs T st es kws = true → PK X kws (tA q ev W false es)
  | [], W, st, X, kws, G, h => by
    cases kws with
    | nil => exact k_nil
    | cons _ _ => simp [mKs] at h
  | e :: es, W, st, X, kws, G, h => by
    cases kws with
    | nil => simp [mKs] at h
    | cons kw kws =>
      obtain ⟨nm, x, kp⟩ := kw
      simp only [mKs, Bool.and_eq_true, Bool.not_eq_true'] at h
      obtain ⟨⟨h1, h2⟩, h3⟩ := h
      exact k_cons h1 (sE e W st X (.x false) x G h2) (sKs es W st X kws G h3)
theorem sEs : ∀ (es : List E) (W : XK) (st : Sta) (X : Cx) (b : Bool) (xs : List Expr), Good T q ev W k st X → mEs T st false es b xs = true → LE q ev W X b es xs
  | [], W, st, X, b, xs, G, h => by
    cases xs with
    | nil => trivial
    | cons _ _ => simp [mEs] at h
  | e :: es, W, st, X, b, xs, G, h => by
    cases xs with
    | nil => simp [mEs] at h
    | cons x xs =>
      simp only [mEs, Bool.and_eq_true] at h
      obtain ⟨h1, h2⟩ := h
      by_cases hs : e.star? = true
      · rw [if_pos hs] at h1; simp at h1
      · rw [if_neg hs, Bool.and_eq_true] at h1
        exact ⟨sE e W st X (.x b) x G h1.2, by simpa using hs, h1.1, sEs es W st X b xs G h2⟩
theorem sEsS : ∀ (es : List E) (W : XK) (st : Sta) (X : Cx) (xs : List Expr), Good T q ev W k st X → mEs T st true es false xs = true → PA X xs (tA q ev W false es)
  | [], W, st, X, xs, G, h => by
    cases xs with
    | nil => exact a_nil
    | cons _ _ => simp [mEs] at h
  | e :: es, W, st, X, xs, G, h => by
    cases xs with
    | nil => simp [mEs] at h
    | cons x xs =>
      simp only [mEs, Bool.and_eq_true] at h
      obtain ⟨h1, h2⟩ := h
      have rest := sEsS es W st X xs G h2
      by_cases hs : e.star? = true
      · cases e <;> first | (cases hs; done) | skip
        rename_i e'
        simp only [E.star?, if_true, Bool.true_and, Bool.not_false, mE] at h1
        split at h1
        · exact a_star G.w.K starEach_star (sE e' W st X (.x true) _ G h1) rest
        · cases h1
      · rw [if_neg hs, Bool.and_eq_true] at h1
        exact a_cons (by simpa using hs) (starEach_cons h1.1) (sE e W st X (.x false) x G h1.2) rest
theorem sT : ∀ (e : E) (W : XK) (st : Sta) (X : Cx) (x : Expr), Good T q ev W k st X → mT T st e x = true → PT X x (tT q ev W e)
  | .no, W, st, X, x, G, h => ⟨fun pins s σ H Q I ⟨F, A, ρ, S, s0, en, po⟩ => po.elim⟩
  | .not a, W, st, X, x, G, h => by
    simp only [mT] at h
    split at h
    · exact t_not (sT a W st X _ G h)
    · cases h
  | .and a b, W, st, X, x, G, h => by
    simp only [mT] at h
    split at h
    · rename_i y z r p
      simp only [Bool.and_eq_true] at h
      refine t_and (sT a W st X _ G h.1) ?_
      cases r with
      | nil => exact pw_and1 (sT b W st X _ G h.2)
      | cons u r => exact pw_bool (sT b W st X _ G h.2)
    · cases h
  | .or a b, W, st, X, x, G, h => by
    simp only [mT] at h
    split at h
    · rename_i y z r p
      simp only [Bool.and_eq_true] at h
      refine t_or (sT a W st X _ G h.1) ?_
      cases r with
      | nil => exact pw_or1 (sT b W st X _ G h.2)
      | cons u r => exact pw_bool (sT b W st X _ G h.2)
    · cases h
  | .cmp o a b, W, st, X, x, G, h => by
    simp only [mT] at h
    split at h
    · simp only [Bool.and_eq_true, decide_eq_true_eq] at h
      obtain ⟨⟨⟨rfl, h0⟩, h1⟩, h2⟩ := h
      exact t_cmp G.w.K G.units (marks_of h0) (sE a W st X (.x true) _ G h1) (sE b W st X (.x true) _ G h2)
    · cases h
  | .chn o o' a b c, W, st, X, x, G, h => by
    simp only [mT] at h
    split at h
    · simp only [Bool.and_eq_true, decide_eq_true_eq] at h
      obtain ⟨⟨⟨⟨⟨rfl, rfl⟩, h0⟩, h1⟩, h2⟩, h3⟩ := h
      exact t_chn G.w.K G.units (lastMarks_of h0) (sE a W st X (.x true) _ G h1) (sE b W st X (.x true) _ G h2) (sE c W st X (.x true) _ G h3)
    · cases h
  | .var i, W, st, X, x, G, h => by
    simp only [mT] at h
    split at h
    · obtain ⟨h1, h2, h3, h4⟩ := G.vis h
      exact t_val (s_var rfl h1 h2 h3 h4) (test_of rfl)
    · cases h
  | .call f es, W, st, X, x, G, h => by
    simp only [mT] at h
    split at h
    · simp only [Bool.and_eq_true] at h
      obtain ⟨⟨h1, h2⟩, h3⟩ := h
      obtain ⟨g1, g2⟩ := G.glo h1
      obtain ⟨k1, k2, k3⟩ := G.w.fns _ _ h2
      obtain ⟨p1, p2, p3⟩ := (sEs es W st X false _ G h3).pa
      exact t_val (s_call k3 G.room0 G.tk g1 k1 k2 g2 p2 p3 p1) (test_of rfl)
    · cases h
  | .bi b es, W, st, X, x, G, h => by
    simp only [mT] at h
    split at h
    · simp only [Bool.and_eq_true, decide_eq_true_eq, Bool.not_eq_true'] at h
      obtain ⟨⟨⟨⟨⟨⟨h0, h1⟩, h2⟩, h3⟩, h3'⟩, h4⟩, h5⟩ := h
      exact t_val (biB_ok G rfl h0 h1 h2 h3 h3' (sEs es W st X true _ G h4) h5) (test_of rfl)
    · cases h
  | .isi ts a, W, st, X, x, G, h => by
    simp only [mT] at h
    split at h
    · simp only [Bool.and_eq_true] at h
      obtain ⟨⟨⟨h1, h2⟩, h3⟩, h4⟩ := h
      obtain ⟨rfl, g1, g2⟩ := G.blt h1
      obtain ⟨rfl, g3, g4⟩ := G.blt h2
      exact t_val (s_isi rfl G.w.K g1 g2 g3 g4 h3 (sE a W st X (.x true) _ G h4)) (test_of rfl)
    · cases h
  | .bor _, _, _, _, _, _, h => by simp [mT] at h
  | .con _, _, _, _, _, _, h => by simp [mT] at h
  | .glo _, _, _, _, _, _, h => by simp [mT] at h
  | .fnv _, _, _, _, _, _, h => by simp [mT] at h
  | .tup _, _, _, _, _, _, h => by simp [mT] at h
  | .star _, _, _, _, _, _, h => by simp [mT] at h
  | .lst _, _, _, _, _, _, h => by simp [mT] at h
  | .cell _, _, _, _, _, _, h => by simp [mT] at h
  | .disp _ _, _, _, _, _, _, h => by simp [mT] at h
  | .dct0 _, _, _, _, _, _, h => by simp [mT] at h
  | .lrg _, _, _, _, _, _, h => by simp [mT] at h
  | .kin neg i a, W, st, X, x, G, h => by
    simp only [mT] at h
    split at h
    · simp only [Bool.and_eq_true, decide_eq_true_eq] at h
      obtain ⟨⟨⟨rfl, h1⟩, h2⟩, h3⟩ := h
      obtain ⟨g1, g2⟩ := G.glo h1
      obtain ⟨yd, k1, k2⟩ := G.w.tabs _ _ h2
      exact t_kin G.w.K g1 k1 g2 k2 (sE a W st X (.x false) _ G h3)
    · cases h
  | .kidx _ _, _, _, _, _, _, h => by simp [mT] at h
  | .bin _ _ _, _, _, _, _, _, h => by simp [mT] at h
  | .neg _, _, _, _, _, _, h => by simp [mT] at h
  | .ite _ _ _, _, _, _, _, _, h => by simp [mT] at h
  | .mth _ _ _, _, _, _, _, _, h => by simp [mT] at h
  | .idx _ _, _, _, _, _, _, h => by simp [mT] at h
  | .slc _ _ _, _, _, _, _, _, h => by simp [mT] at h
  | .rev _, _, _, _, _, _, h => by simp [mT] at h
  | .lc _ _ _ _ _ _, _, _, _, _, _, h => by simp [mT] at h
  | .dc _ _ _ _ _ _, _, _, _, _, _, h => by simp [mT] at h
  | .fld _ _ _, _, _, _, _, _, h => by simp [mT] at h
  | .prop _ _ _, _, _, _, _, _, h => by simp [mT] at h
  | .meth _ _ _ _ _, _, _, _, _, _, h => by simp [mT] at h
  | .new _ _ _, _, _, _, _, _, h => by simp [mT] at h
  | .callK _ _ _ _, _, _, _, _, _, h => by simp [mT] at h
  | .methK _ _ _ _ _ _ _, _, _, _, _, _, h => by simp [mT] at h
  | .newK _ _ _ _ _, _, _, _, _, _, h => by simp [mT] at h
theorem sTs : ∀ (es : List E) (W : XK) (st : Sta) (X : Cx) (xs : List Expr), Good T q ev W k st X → mTs T st es xs = true → es.length ≤ 1 → PTs X xs (tTs q ev W es)
  | [], W, st, X, xs, G, h, hl => by
    cases xs with
    | nil => exact ts_nil
    | cons _ _ => simp [mTs] at h
  | e :: es, W, st, X, xs, G, h, hl => by
    cases es with
    | cons _ _ => simp at hl
    | nil =>
      simp only [mTs] at h
      split at h
      · exact ts_one (sT e W st X _ G h)
      · cases h
end
end
end G
set_option maxHeartbeats 2000000
namespace G
open PySem PySem.Spec PyProof.Rows L2
section
variable {X : Cx} {f : Fr}
theorem al_pa {x : Expr} {e : E} (hx : nstar x = true) (hp : PE X x (tE f.q f.ev f.W .new e)) : ∀ {es : List E} {xs : List Expr}, LE f.q f.ev f.W X false es xs → PA X (xs ++ [x]) (tAL f e es) ∧ (∀ y ∈ es, y.star? = false)
  | [], [], _ => ⟨pa_cons hp pa_nil (starEach_cons hx), fun _ h => by cases h⟩
  | [], _ :: _, h => h.elim
  | _ :: _, [], h => h.elim
  | e1 :: es, y :: xs, h => by
    obtain ⟨h1, h2, h3, h4⟩ := h
    obtain ⟨a1, a2⟩ := al_pa hx hp h4
    refine ⟨pa_cons h1 a1 (starEach_cons h3), fun z hz => ?_⟩
    rcases List.mem_cons.mp hz with rfl | hz
    · exact h2
    · exact a2 z hz
theorem putAll_keep : ∀ {is : List Nat} {ds : List D} {vs : List V} {ρ ρ' : Rho} {σ : L2.St}, vs.length = is.length → putAll ρ is ds = some ρ' → ∀ (j : Nat) (sj : Sl) (p' : Addr), ρ'[j]? = some sj → sj.own = true → (setVs σ is vs)[j]? = some (some (.ref p')) → ρ[j]? = some sj ∧ σ[j]? = some (some (.ref p'))
  | [], [], [], ρ, ρ', σ, _, h, j, sj, p', h1, h2, h3 => by cases h; exact ⟨h1, h3⟩
  | [], [], _ :: _, _, _, _, hl, _, _, _, _, _, _, _ => by cases hl
  | [], _ :: _, _, _, _, _, _, h, _, _, _, _, _, _ => by cases h
  | _ :: _, [], _, _, _, _, _, h, _, _, _, _, _, _ => by cases h
  | _ :: _, _ :: _, [], _, _, _, hl, _, _, _, _, _, _, _ => by cases hl
  | i :: is, d :: ds, v :: vs, ρ, ρ', σ, hl, h, j, sj, p', h1, h2, h3 => by
    obtain ⟨k1, k2⟩ := putAll_keep (is := is) (ds := ds) (vs := vs) (ρ := ρ.set i (.v d)) (σ := σ.set i (some v)) (by simpa using hl) h j sj p' h1 h2 h3
    have ne : i ≠ j := fun z => by
      subst z
      by_cases hlt : i < ρ.length
      · rw [List.getElem?_set_self hlt] at k1; cases k1; cases h2
      · rw [List.getElem?_eq_none (by simp; omega)] at k1; cases k1
    rw [List.getElem?_set_ne ne] at k1 k2
    exact ⟨k1, k2⟩
theorem setVs_snoc {v : V} {i : Nat} : ∀ {is : List Nat} {vs : List V} {σ : L2.St}, vs.length = is.length → setVs σ (is ++ [i]) (vs ++ [v]) = (setVs σ is vs).set i (some v)
  | [], [], σ, _ => rfl
  | [], _ :: _, _, h => by cases h
  | _ :: _, [], _, h => by cases h
  | j :: is, w :: vs, σ, h => setVs_snoc (is := is) (vs := vs) (σ := σ.set j (some w)) (by simpa using h)
theorem st_parL {is : List Nat} {i : Nat} {es : List E} {e : E} {tx x : Expr} {xs : List Expr} {k2 : Nat} {pt2 pos : Pos} (hg : PG X tx (gT f.q.g.K (.tup (is ++ [i])))) (hsw : swapsWithSole [tx] (.Tuple (xs ++ [x]) k2 pt2) pos.line X.env = pure false) (hw : swappedStores [tx] (.Tuple (xs ++ [x]) k2 pt2) X.env = pure none) (h1 : (assignEach [tx] X.env).map (·.2) = [assign tx X.env])
    (hn : is.length < 20) (hx : nstar x = true) (ha : LE f.q f.ev f.W X false es xs) (hb : PE X x (tE f.q f.ev f.W .new e)) : PS X (.Assign [tx] (.Tuple (xs ++ [x]) k2 pt2) pos) (tS f (.parL is i es e)) := by
  obtain ⟨pa, hst⟩ := al_pa hx hb ha
  refine ps_imp (ps_asg (pe_tup pa) hg hsw hw h1) fun D σ H ⟨F, A, ρ, S, s0, po⟩ => ?_
  simp only [exec] at po
  refine al_read es (fun ds d S2 => match slOf true d, putAll ρ is ds with
    | some sl, some ρ' => .ok (.nx (ρ'.set i sl)) S2
    | _, _ => .no) hst s0 po fun vs v ds d F2 A2 H0 H2 S2 rl rn h0 hlv s2 t2 po => ?_
  cases he : slOf true d with
  | none => rw [he] at po; exact po.elim
  | some sl =>
    cases hp : putAll ρ is ds with
    | none => rw [he, hp] at po; exact po.elim
    | some ρ' =>
      rw [he, hp] at po
      obtain ⟨hl, en2⟩ := putAll_ok rl hp s2.en
      have s3 : StS f F2 A2 H2 ρ' S2 (setVs σ is vs) := ⟨s2.step, s2.st, en2, putAll_own rl.len hp s2.own⟩
      have s4 := s3.setNew (i := i) (Hs := H0) (fun j sj p' a b c => by
        obtain ⟨k1, k3⟩ := putAll_keep hl hp j sj p' a b c
        exact hlv j sj p' k1 b k3) (fun p h => s0.step.non (h0 p h)) rn he
      refine ⟨by simp [hl]; rw [sizeLine_eq]; omega, fun p hpn => ?_⟩
      obtain ⟨t3, st3, _, _⟩ := s4.st.own (o := .tup (vs ++ [v])) hpn
      have s5 := s4.go t3 st3
      refine ⟨p, vs ++ [v], rfl, SqT.of upd_same, by simp [hl], gTs_ok (by simp [hl]) ?_⟩
      rw [setVs_snoc hl]
      exact po _ F2 A2 _ (Le.refl _) List.prefix_rfl s5
end
end G
set_option maxHeartbeats 2000000
namespace G
open PySem PySem.Spec PyProof.Rows L2
def notComp : Expr → Bool
  | .ListComp _ _ _ _ => false
  | .SetComp _ _ _ _ => false
  | .DictComp _ _ _ _ _ => false
  | _ => true
def notTup : Expr → Bool
  | .Tuple _ _ _ => false
  | _ => true
def notName : Expr → Bool
  | .Name _ _ => false
  | _ => true
theorem sw_plain {x : Expr} {t : Option Expr} {l : Nat} {env : Env} (h : notComp x = true) : swapsWith x t l env = pure false := by
  cases x <;> first | rfl | cases h
theorem sw_other {x t : Expr} {l : Nat} {env : Env} (h : notName t = true) : swapsWith x (some t) l env = pure false := by
  cases x <;> cases t <;> first | rfl | cases h
theorem sw_line {x : Expr} {y : Str} {p : Pos} {l : Nat} {env : Env} (h : (p.line == x.pos.line) = false) : swapsWith x (some (.Name y p)) l env = pure false := by
  cases x <;> first | rfl | (unfold swapsWith; simp only [h]; simp)
theorem stores_none {t x : Expr} {env : Env} (h : notTup x = true) : swappedStores [t] x env = pure none := by
  unfold swappedStores
  cases t <;> cases x <;> first | rfl | cases h
theorem stores_sub {a b x : Expr} {p : Pos} {env : Env} : swappedStores [.Subscript a b p] x env = pure none := by
  unfold swappedStores
  cases x <;> rfl
theorem stores2 {y z : Str} {px py pt pt2 : Pos} {kt k2 : Nat} {a b : Expr} {env : Env} (hk : env.scope.kind = .function) (hy : env.kindOf y = some .local) (hz : env.kindOf z = some .local) (hl : (py.line == px.line) = true) (hne : y ≠ z) (ha : nstar a = true) (hb : nstar b = true)
    (hf : (foldedForSure 8 a && foldedForSure 8 b) = false) (hc : (constantsAlone 8 a && constantsAlone 8 b) = false) : swappedStores [.Tuple [.Name y px, .Name z py] kt pt] (.Tuple [a, b] k2 pt2) env = pure (some [y, z]) := by
  have hb0 : env.blockKind = .function := by unfold Env.blockKind; rw [hk]; rfl
  have hd : ([y, z] : List Str).eraseDups.length = 2 := by
    have e : (z == y) = false := by simpa using fun q => hne q.symm
    simp [List.eraseDups_cons, List.filter, e]
  have hf2 : ([a, b].all (foldedForSure 8)) = false := by simpa using hf
  have hc2 : ([a, b].all (constantsAlone 8)) = false := by simpa using hc
  unfold swappedStores
  have hl' : py.line = px.line := by simpa using hl
  simp only [List.length_cons, List.length_nil, hb0, hf2, hc2, List.any_cons, List.any_nil]
  simp [Expr.pos, hy, hz, hl', hd, List.filterMap_cons, List.filterMap_nil]
  intro q
  rcases q with q | q
  · split at q
    · cases ha
    · cases q
  · split at q
    · cases hb
    · cases q
theorem stores3 {y z u : Str} {px py pz pt pt2 : Pos} {kt k2 : Nat} {a b c : Expr} {env : Env} (hk : env.scope.kind = .function) (hy : env.kindOf y = some .local) (hz : env.kindOf z = some .local) (hu : env.kindOf u = some .local) (hl : (py.line == px.line) = true) (hl2 : (pz.line == px.line) = true) (hne : y ≠ z) (hne2 : y ≠ u) (hne3 : z ≠ u) (ha : nstar a = true) (hb : nstar b = true) (hc0 : nstar c = true)
    (hf : (foldedForSure 8 a && (foldedForSure 8 b && foldedForSure 8 c)) = false) (hc : (constantsAlone 8 a && (constantsAlone 8 b && constantsAlone 8 c)) = false) : swappedStores [.Tuple [.Name y px, .Name z py, .Name u pz] kt pt] (.Tuple [a, b, c] k2 pt2) env = pure (some [y, z, u]) := by
  have hb0 : env.blockKind = .function := by unfold Env.blockKind; rw [hk]; rfl
  have hd : ([y, z, u] : List Str).eraseDups.length = 3 := by
    have e : (z == y) = false := by simpa using fun q => hne q.symm
    have e2 : (u == y) = false := by simpa using fun q => hne2 q.symm
    have e3 : (u == z) = false := by simpa using fun q => hne3 q.symm
    simp [List.eraseDups_cons, List.filter, e, e2, e3]
  have hf2 : ([a, b, c].all (foldedForSure 8)) = false := by simpa using hf
  have hc2 : ([a, b, c].all (constantsAlone 8)) = false := by simpa using hc
  unfold swappedStores
  have hl' : py.line = px.line := by simpa using hl
  have hl2' : pz.line = px.line := by simpa using hl2
  simp only [List.length_cons, List.length_nil, hb0, hf2, hc2, List.any_cons, List.any_nil]
  simp [Expr.pos, hy, hz, hu, hl', hl2', hd, List.filterMap_cons, List.filterMap_nil]
  intro q
  rcases q with q | q | q
  · split at q
    · cases ha
    · cases q
  · split at q
    · cases hb
    · cases q
  · split at q
    · cases hc0
    · cases q
theorem stores_cell {ts vs : List Expr} {kt k2 : Nat} {pt p2 : Pos} {env : Env} (h : (ts.any fun t => match t with | .Name y _ => !decide (env.kindOf y = some .local) | _ => false) = true) : swappedStores [.Tuple ts kt pt] (.Tuple vs k2 p2) env = pure none := by
  obtain ⟨t, ht, hn⟩ := List.any_eq_true.mp h
  unfold swappedStores
  simp only
  split
  · rfl
  · split
    · rfl
    · split
      · rfl
      · rename_i hh
        exfalso
        apply hh
        rw [Bool.or_eq_true]
        left
        simp
        refine ⟨t, ht, ?_⟩
        cases t <;> first | (cases hn; done) | skip
        rename_i y p
        have hn : (!decide (env.kindOf y = some .local)) = true := hn
        have hn' : env.kindOf y ≠ some .local := by simpa using hn
        simp [hn']
theorem last_split {α : Type} {x : α} : ∀ {l : List α}, l.getLast? = some x → l.dropLast ++ [x] = l
  | [], h => by cases h
  | [a], h => by simp at h; subst h; rfl
  | a :: b :: l, h => by
    have h2 : (b :: l).getLast? = some x := by rw [← h]; simp [List.getLast?_cons_cons]
    have := last_split h2
    rw [List.dropLast_cons_cons, List.cons_append, this]
def longT : Expr → Bool
  | .Tuple ts _ _ => decide (4 ≤ ts.length)
  | _ => false
theorem stores_long {t : Expr} {vs : List Expr} {k2 : Nat} {p2 : Pos} {env : Env} (h : longT t = true) : swappedStores [t] (.Tuple vs k2 p2) env = pure none := by
  cases t <;> first | (cases h; done) | skip
  rename_i ts kt pt
  have h : 4 ≤ ts.length := of_decide_eq_true h
  unfold swappedStores
  have e : (!(ts.length == 2 || ts.length == 3)) = true := by
    have h2 : (ts.length == 2) = false := by simp; omega
    have h3 : (ts.length == 3) = false := by simp; omega
    rw [h2, h3]; rfl
  simp only [e, Bool.true_or, if_true]
/-- a target that is captured: the stores are not swapped -/
def capt (st : Sta) : Expr → Bool
  | .Tuple ts _ _ => ts.any fun t => match t with | .Name y _ => !decide (st.sc.names.lookup y = some .local) | _ => false
  | _ => false
/-! ### the match of statements -/
section
variable (T : Tb)
def lcS (sc : Scope) : Expr → Bool
  | _ => true
/-- a comprehension whose target is stored within: the name a local, not the comprehension's, on one line -/
def lineC (st : Sta) (y : Str) (p : Pos) : Expr → Bool
  | .ListComp _ _ scope pos => decide (st.sc.names.lookup y = some .local) && (p.line == pos.line) && !(scope.names.any fun (n, k) => n == y && (k == .local || k == .cell))
  | _ => false
def isLc : E → Bool
  | .lc _ _ _ _ _ _ => true
  | _ => false
def hesC (st : Sta) (h : Nat) (o : Option (Nat × Str)) (fl : Nat → Bool) (fnm : Str → Bool) : List HE → List Expr → Bool
  | [], xs => xs.isEmpty
  | .con d :: r, x :: xs => (match x with
    | .Constant k _ _ => litC k d
    | _ => false) && hesC st h o fl fnm r xs
  | .fld :: r, x :: xs => (match o, x with
    | some (i, n), .Attribute (.Name m _) f _ => decide (m = n) && visC st i n && fl h && fnm f
    | _, _ => false) && hesC st h o fl fnm r xs
  | _ :: _, [] => false
/-- the class index and the field's name are told by fn -/
def hdC (fn : Nat → Str) (st : Sta) : List (Nat × Option Nat × List HE) → List ExceptHandler → Bool
  | [], hs => hs.isEmpty
  | (h, o, hes) :: r, hs => (match hs with
    | .ExceptHandler (some (.Name x _)) nm [.Return (some (.Tuple xs _ _)) _] _ :: hs => gloC st x && T.names.contains (x, h) && decide (hes.length ≤ 1000) && (match o, nm with
        | none, none => hesC st h none T.hfld.contains (fun f => decide (f = fn h)) hes xs
        | some i, some n => decide (st.N[i]? = some n) && decide (st.sc.names.lookup n = some .local) && hesC st h (some (i, n)) T.hfld.contains (fun f => decide (f = fn h)) hes xs
        | _, _ => false) && hdC fn st r hs
    | _ => false)
mutual
def mS (fn : Nat → Str) (st : Sta) : G.S → Stmt → Bool
  | .no, _ => true
  | .asg i e, s => (match s with
    | .Assign [.Name y p] x _ => tgN st i y && (((notComp x || !(p.line == x.pos.line)) && mE T st e (.x false) x) || (lineC st y p x && isLc e && mE T st e .new x))
    | _ => false)
  | .own i e, s => (match s with
    | .Assign [.Name y p] x _ => tgN st i y && (((notComp x || !(p.line == x.pos.line)) && mE T st e .new x) || (lineC st y p x && isLc e && mE T st e .new x))
    | _ => false)
  | .asgT is e, s => (match s with
    | .Assign [t] x _ => (notTup x || capt st t) && notName t && tgC st (.tup is) t && mE T st e (.x false) x
    | _ => false)
  | .par2 i j oi oj a b, s => (match s with
    | .Assign [.Tuple [.Name y px, .Name z py] _ _] (.Tuple [x1, x2] _ _) _ => decide (st.N[i]? = some y) && decide (st.N[j]? = some z) && decide (i ≠ j) && decide (y ≠ z) && decide (st.sc.names.lookup y = some .local) && decide (st.sc.names.lookup z = some .local) && (py.line == px.line) && nstar x1 && nstar x2 &&
        !(foldedForSure 8 x1 && foldedForSure 8 x2) && !(constantsAlone 8 x1 && constantsAlone 8 x2) && mE T st a (mOf oi) x1 && mE T st b (mOf oj) x2
    | _ => false) || (match s with
    | .Assign [t] (.Tuple [x1, x2] _ _) _ => capt st t && notName t && tgC st (.tup [i, j]) t && nstar x1 && nstar x2 && mE T st a (mOf oi) x1 && mE T st b (mOf oj) x2
    | _ => false)
  | .par3 i j l a b c, s => (match s with
    | .Assign [.Tuple [.Name y px, .Name z py, .Name u pz] _ _] (.Tuple [x1, x2, x3] _ _) _ => decide (st.N[i]? = some y) && decide (st.N[j]? = some z) && decide (st.N[l]? = some u) && decide (i ≠ j) && decide (i ≠ l) && decide (j ≠ l) && decide (y ≠ z) && decide (y ≠ u) && decide (z ≠ u) &&
        decide (st.sc.names.lookup y = some .local) && decide (st.sc.names.lookup z = some .local) && decide (st.sc.names.lookup u = some .local) && (py.line == px.line) && (pz.line == px.line) && nstar x1 && nstar x2 && nstar x3 &&
        !(foldedForSure 8 x1 && (foldedForSure 8 x2 && foldedForSure 8 x3)) && !(constantsAlone 8 x1 && (constantsAlone 8 x2 && constantsAlone 8 x3)) && mE T st a (.x false) x1 && mE T st b (.x false) x2 && mE T st c (.x false) x3
    | _ => false)
  | .parL is i es e, s => (match s with
    | .Assign [t] (.Tuple xs _ _) _ => longT t && notName t && tgC st (.tup (is ++ [i])) t && decide (is.length < 20) && (match xs.getLast? with
        | some x => nstar x && mEs T st false es false xs.dropLast && mE T st e .new x
        | none => false)
    | _ => false)
  | .pop j i e, s => (match s with
    | .Assign [.Name z _] (.Call (.Attribute (.Name y _) m p1) [x] [] p2) _ => decide (m = ("pop" : Str)) && tgN st j z && decide (i ≠ j) && visC st i y && nstar x && (p1.endLine == p2.line) && mE T st e (.x false) x
    | _ => false)
  | .setI i ix e, s => (match s with
    | .Assign [.Subscript (.Name y _) z _] x _ => visC st i y && nslice z && mE T st e (.x false) x && mE T st ix (.x false) z
    | _ => false)
  | .setC o ix e, s => (match s with
    | .Assign [.Subscript y z _] x _ => nslice z && mE T st e (.x false) x && mE T st o (.x false) y && mE T st ix (.x false) z
    | _ => false)
  | .setF c f o e, s => (match s with
    | .Assign [.Attribute y n _] x _ => decide (n = f) && T.flds.contains (c, f) && mE T st e (.x false) x && mE T st o (.x false) y
    | _ => false)
  | .ex e, s => (match s with
    | .Expr x _ => notComp x && mE T st e (.x false) x
    | _ => false)
  | .app i e, s => (match s with
    | .Expr (.Call (.Attribute (.Name y _) m p1) [x] [] p2) _ => decide (m = ("append" : Str)) && visC st i y && nstar x && (p1.endLine == p2.line) && mE T st e (.x false) x
    | _ => false)
  | .ins0 i e, s => (match s with
    | .Expr (.Call (.Attribute (.Name y _) m p1) [.Constant (.int 0) _ _, x] [] p2) _ => decide (m = ("insert" : Str)) && visC st i y && nstar x && (p1.endLine == p2.line) && mE T st e (.x false) x
    | _ => false)
  | .ife c t f, s => (match s with
    | .If x a b _ => mT T st c x && mSs fn st t a && mSs fn st f b
    | _ => false)
  | .for_ tg k it body, s => (match s with
    | .For tx ix b [] _ => nset ix && iC T st k it.length tx ix && mEs T st false it false (iX k ix) && tgC st tg tx && mSs fn st body b
    | _ => false)
  | .ret e, s => (match s with
    | .Return (some x) _ => mE T st e (.x false) x
    | _ => false)
  | .retN, s => (match s with
    | .Return none _ => true
    | _ => false)
  | .rais c es, s => (match s with
    | .Raise (some (.Call (.Name y _) xs [] _)) none _ => (gloC st y && T.raises.contains (y, c) && decide (es.length = 1) && mEs T st false es false xs) || (gloC st y && T.raises0.contains (y, c) && es.isEmpty && xs.isEmpty)
    | _ => false)
  | .try_ bl hs, s => (match s with
    | .Try body (h0 :: hds) [] [] _ => mSs fn st bl body && hdC T fn st hs (h0 :: hds)
    | _ => false)
  | .frz _, _ => false
  | .pass, s => (match s with
    | .Pass _ => true
    | .Expr (.Constant (.str _) _ _) _ => true
    | _ => false)
def mSs (fn : Nat → Str) (st : Sta) : List G.S → List Stmt → Bool
  | [], sts => sts.isEmpty
  | s :: r, sts => (match s with
    | .frz _ => mSs fn st r sts
    | _ => (match sts with
      | x :: xs => mS fn st s x && mSs fn st r xs
      | [] => false))
end
end
/-- a block of statements that runs -/
structure GoodS (T : Tb) (f : Fr) (k : Nat) (st : Sta) (X : Cx) : Prop where
  g : Good T f.q f.ev f.W k st X
  hst : X.stack = X.env :: X.outer
  hfm : X.env.frame = some X.env.locals
  po : PassesOwn (model X.prog X.w) X.A X.env X.xe
  kd : st.sc.kind = .function
section
variable {T : Tb} {f : Fr} {k : Nat} {st : Sta} {X : Cx}
theorem GoodS.loc (G : GoodS T f k st X) {y : Str} (h : st.sc.names.lookup y = some .local) : X.env.scope.names.lookup y = some .local := by rw [G.g.sc]; exact h
theorem hesC_ok (G : GoodS T f k st X) {h : Nat} {o : Option (Nat × Str)} : ∀ {hes : List HE} {xs : List Expr}, hesC st h o T.hfld.contains (fun z => decide (z = f.q.fn h)) hes xs = true → HEm X f.q h (o.map (·.1)) hes xs
  | [], xs, hc => by
    cases xs with
    | nil => exact .nil
    | cons _ _ => cases hc
  | .con d :: r, xs, hc => by
    cases xs with
    | nil => cases hc
    | cons x xs =>
      simp only [hesC, Bool.and_eq_true] at hc
      obtain ⟨h1, h2⟩ := hc
      split at h1
      · obtain ⟨v, hv⟩ := litC_ok h1
        exact .con hv (hesC_ok G h2)
      · cases h1
  | .fld :: r, xs, hc => by
    cases xs with
    | nil => cases hc
    | cons x xs =>
      simp only [hesC, Bool.and_eq_true] at hc
      obtain ⟨h1, h2⟩ := hc
      split at h1
      · simp only [Bool.and_eq_true, decide_eq_true_eq] at h1
        obtain ⟨⟨⟨rfl, h3⟩, h4⟩, rfl⟩ := h1
        obtain ⟨k1, k2, k3, k4⟩ := G.g.vis h3
        obtain ⟨m1, m2⟩ := G.g.w.hfld _ h4
        exact .fld k1 k2 k3 k4 m1 m2 (hesC_ok G h2)
      · cases h1
theorem hdC_ok (G : GoodS T f k st X) : ∀ {l : List (Nat × Option Nat × List HE)} {hds : List ExceptHandler}, hdC T f.q.fn st l hds = true → Hdls X f.q f.ev.sub l hds
  | [], hs, hc => by
    cases hs with
    | nil => exact .nil
    | cons _ _ => cases hc
  | (h, o, hes) :: r, hs, hc => by
    simp only [hdC] at hc
    split at hc
    · simp only [Bool.and_eq_true, decide_eq_true_eq] at hc
      obtain ⟨⟨⟨⟨h1, h2⟩, h3⟩, h4⟩, h5⟩ := hc
      obtain ⟨g1, g2⟩ := G.g.glo h1
      obtain ⟨m1, m2⟩ := G.g.w.names _ _ h2
      split at h4
      · exact .plain ⟨g1, g2, .inl m1⟩ (hesC_ok G h4) h3 m2 (hdC_ok G h5)
      · simp only [Bool.and_eq_true, decide_eq_true_eq] at h4
        obtain ⟨⟨k1, k2⟩, k3⟩ := h4
        exact .named (by rw [G.g.N]; exact k1) (G.loc k2) ⟨g1, g2, .inl m1⟩ (hesC_ok G k3) h3 m2 (hdC_ok G h5)
      · cases h4
    · cases hc
end
end G
set_option maxHeartbeats 4000000
namespace G
open PySem PySem.Spec PyProof.Rows L2
section
variable {T : Tb} {f : Fr} {k : Nat} {st : Sta} {X : Cx}
theorem lc_val {q : Pc} {ev : Ev} {W : XK} {e : E} {σ : L2.St} {H : Hp} {Q : VK} (hl : isLc e = true) (h : tE q ev W (.x false) e σ H Q) : tE q ev W .new e σ H Q := by
  obtain ⟨F, A, ρ, S, st, en, po⟩ := h
  refine ⟨F, A, ρ, S, st, en, ?_⟩
  cases ho : evalE ev ρ e S with
  | no => rw [ho] at po; exact po
  | ex c d S' => rw [ho] at po; exact po
  | ok d S' =>
    rw [ho] at po
    intro v F' A' H' stp st' r
    obtain ⟨p, rfl, hA, hF, hH, ⟨xs, vs, rfl, hp, rl⟩ | ⟨t, ks, ws, o, vs, rfl, hp, dr, rl⟩⟩ := r
    · obtain ⟨le, st2⟩ := st'.give hp hF hA
      exact po (.ref p) _ A' H' (stp.give hH hF) st2 (.inl ⟨p, vs, rfl, upd_same, rl.mono le List.prefix_rfl⟩)
    · exfalso
      cases e <;> first | (cases hl; done) | skip
      simp only [evalE] at ho
      cases h1 : evalEs ev ρ _ S with
      | no => rw [h1] at ho; cases ho
      | ex c d S => rw [h1] at ho; cases ho
      | ok ds S1 =>
        rw [h1] at ho
        simp only [Out.bind] at ho
        split at ho
        · cases ho
        · split at ho
          · cases ho
          · cases ho
          · cases ho
theorem st_lcLine (G : GoodS T f k st X) {i : Nat} {e : E} {x : Expr} {y : Str} {p pos : Pos} {t : TS} (hi : tgN st i y = true) (hl : isLc e = true) (hc : lineC st y p x = true) (hE : mE T st e .new x = true)
    (ht : ∀ D σ H, t D σ H → tE f.q f.ev f.W .new e σ H fun v H1 => gName i v σ H1 D.nx) : PS X (.Assign [.Name y p] x pos) t := by
  cases e <;> first | (cases hl; done) | skip
  rename_i own tg kd it ifs elt
  simp only [mE] at hE
  split at hE
  · rename_i ox tx ix ifx scope pp
    simp only [Bool.and_eq_true, decide_eq_true_eq] at hE
    obtain ⟨⟨⟨⟨⟨⟨⟨⟨h1, h2⟩, h3⟩, h4⟩, h5⟩, h6⟩, h7⟩, h8⟩, h9⟩ := hE
    simp only [lineC, Bool.and_eq_true, decide_eq_true_eq, Bool.not_eq_true'] at hc
    obtain ⟨⟨c1, c2⟩, c3⟩ := hc
    obtain ⟨n1, n2, n3⟩ := G.g.tgN hi
    have gi := i_ok (c := true) G.g h4 (by rw [Bool.true_and]; exact sEs it f.W st X _ _ G.g h5)
    have ok := blkOk_by h2
    rw [← G.g.N, ← G.g.sc] at ok
    have hown : ∀ i ∈ tg.ixs, i ∈ own := fun i hi => by
      have := (List.all_eq_true.mp h3) i hi
      simpa using this
    have key := ps_setLc (spos := pos) (py := p) (i := i) (y := y) (pos := pp) G.g.calm G.g.nd n1 (G.loc c1) (sw_true (by rw [G.g.sc]; exact G.kd) (G.loc c1) c2 c3) gi ok (fun s H C cl fp => g_tgt (G.g.blk s H scope C cl fp) h6)
      (fun s H C cl fp => sTs ifs _ (st.blk scope) _ _ (G.g.blk s H scope C cl fp) h8 h7) (fun s H C cl fp => sE elt _ (st.blk scope) _ (.x false) _ (G.g.blk s H scope C cl fp) h9) (folded_of h1)
    refine ps_imp key fun D σ H h => ?_
    rw [ownP_ix]
    exact lc_read (q := f.q) (ev := f.ev) (W := f.W) hown (ht D σ H h)
  · cases hE
mutual
theorem sS : ∀ (s : G.S) (f : Fr) (X : Cx) (x : Stmt), GoodS T f k st X → mS T f.q.fn st s x = true → PS X x (tS f s)
  | .no, f, X, x, G, h => st_no
  | .asg i e, f, X, x, G, h => by
    simp only [mS] at h
    split at h
    · rename_i y p v pos
      simp only [Bool.and_eq_true, Bool.or_eq_true, Bool.not_eq_true'] at h
      obtain ⟨h1, h2⟩ := h
      obtain ⟨n1, n2, n3⟩ := G.g.tgN h1
      rcases h2 with ⟨h2, h3⟩ | ⟨⟨h2, h3⟩, h4⟩
      · refine st_asg G.g.nd n1 n2 ?_ n3 (sE e f.W st X (.x false) v G.g h3)
        rcases h2 with h2 | h2
        · exact sw_plain h2
        · exact sw_line h2
      · exact st_lcLine G h1 h3 h2 h4 fun D σ H h => lc_val h3 (asg_new h)
    · cases h
  | .own i e, f, X, x, G, h => by
    simp only [mS] at h
    split at h
    · rename_i y p v pos
      simp only [Bool.and_eq_true, Bool.or_eq_true, Bool.not_eq_true'] at h
      obtain ⟨h1, h2⟩ := h
      obtain ⟨n1, n2, n3⟩ := G.g.tgN h1
      rcases h2 with ⟨h2, h3⟩ | ⟨⟨h2, h3⟩, h4⟩
      · refine st_own G.g.nd n1 n2 ?_ n3 (sE e f.W st X .new v G.g h3)
        rcases h2 with h2 | h2
        · exact sw_plain h2
        · exact sw_line h2
      · exact st_lcLine G h1 h3 h2 h4 fun D σ H h => own_read h
    · cases h
  | .asgT is e, f, X, x, G, h => by
    simp only [mS] at h
    split at h
    · rename_i t v pos
      simp only [Bool.and_eq_true, Bool.or_eq_true] at h
      obtain ⟨⟨⟨h1, h2⟩, h3⟩, h4⟩ := h
      refine st_asgT (g_tgt G.g h3) (sw_other h2) ?_ ?_ (sE e f.W st X (.x false) v G.g h4)
      · by_cases hv : notTup v = true
        · exact stores_none hv
        · rcases h1 with h1 | h1
          · exact absurd h1 hv
          · cases v <;> first | exact absurd rfl hv | skip
            cases t <;> first | (cases h1; done) | skip
            refine stores_cell ?_
            rw [← h1]
            unfold capt Env.kindOf
            rw [G.g.sc]
      cases t <;> first | rfl | cases h3
    · cases h
  | .par2 i j oi oj a b, f, X, x, G, h => by
    simp only [mS] at h
    rw [Bool.or_eq_true] at h
    rcases h with h | h
    · split at h
      · simp only [Bool.and_eq_true, decide_eq_true_eq, Bool.not_eq_true'] at h
        obtain ⟨⟨⟨⟨⟨⟨⟨⟨⟨⟨⟨⟨h1, h2⟩, h3⟩, h4⟩, h5⟩, h6⟩, h7⟩, h8⟩, h9⟩, h10⟩, h11⟩, h12⟩, h13⟩ := h
        exact st_par2 G.g.calm G.g.nd (by rw [G.g.N]; exact h1) (by rw [G.g.N]; exact h2) h3 (G.loc h5) (G.loc h6) h8 h9 (stores2 (by rw [G.g.sc]; exact G.kd) (G.loc h5) (G.loc h6) h7 h4 h8 h9 h10 h11) (sE a f.W st X (mOf oi) _ G.g h12) (sE b f.W st X (mOf oj) _ G.g h13)
      · cases h
    · split at h
      · rename_i t x1 x2 k2 pt2 pos
        simp only [Bool.and_eq_true] at h
        obtain ⟨⟨⟨⟨⟨⟨h1, h2⟩, h3⟩, h4⟩, h5⟩, h6⟩, h7⟩ := h
        refine st_par2c (g_tgt G.g h3) (show swapsWith (.Tuple [x1, x2] k2 pt2) (some t) pos.line X.env = pure false from rfl) ?_ ?_ h4 h5 (sE a f.W st X (mOf oi) _ G.g h6) (sE b f.W st X (mOf oj) _ G.g h7)
        · cases t <;> first | (cases h1; done) | skip
          refine stores_cell ?_
          rw [← h1]
          unfold capt Env.kindOf
          rw [G.g.sc]
        cases t <;> first | rfl | cases h3
      · cases h
  | .par3 i j l a b c, f, X, x, G, h => by
    simp only [mS] at h
    split at h
    · simp only [Bool.and_eq_true, decide_eq_true_eq, Bool.not_eq_true'] at h
      obtain ⟨⟨⟨⟨⟨⟨⟨⟨⟨⟨⟨⟨⟨⟨⟨⟨⟨⟨⟨⟨⟨h1, h2⟩, h3⟩, h4⟩, h5⟩, h6⟩, h7⟩, h8⟩, h9⟩, h10⟩, h11⟩, h12⟩, h13⟩, h14⟩, h15⟩, h16⟩, h17⟩, h18⟩, h19⟩, h20⟩, h21⟩, h22⟩ := h
      exact st_par3 G.g.calm G.g.nd (by rw [G.g.N]; exact h1) (by rw [G.g.N]; exact h2) (by rw [G.g.N]; exact h3) h4 h5 h6 (G.loc h10) (G.loc h11) (G.loc h12) h15 h16 h17 (stores3 (by rw [G.g.sc]; exact G.kd) (G.loc h10) (G.loc h11) (G.loc h12) h13 h14 h7 h8 h9 h15 h16 h17 h18 h19)
        (sE a f.W st X (.x false) _ G.g h20) (sE b f.W st X (.x false) _ G.g h21) (sE c f.W st X (.x false) _ G.g h22)
    · cases h
  | .parL is i es e, f, X, x, G, h => by
    simp only [mS] at h
    split at h
    · rename_i t xs k2 pt2 pos
      simp only [Bool.and_eq_true, decide_eq_true_eq] at h
      obtain ⟨⟨⟨⟨h1, h2⟩, h3⟩, h4⟩, h5⟩ := h
      split at h5
      · rename_i x0 hx0
        simp only [Bool.and_eq_true] at h5
        obtain ⟨⟨h6, h7⟩, h8⟩ := h5
        have ex : xs = xs.dropLast ++ [x0] := by
          exact (last_split hx0).symm
        have L := sEs es f.W st X false _ G.g h7
        rw [ex]
        refine st_parL (g_tgt G.g h3) (show swapsWith (.Tuple (xs.dropLast ++ [x0]) k2 pt2) (some t) pos.line X.env = pure false from rfl) (stores_long h1) ?_ h4 h6 L (sE e f.W st X .new _ G.g h8)
        cases t <;> first | rfl | cases h3
      · cases h5
    · cases h
  | .pop j i e, f, X, x, G, h => by
    simp only [mS] at h
    split at h
    · simp only [Bool.and_eq_true, decide_eq_true_eq] at h
      obtain ⟨⟨⟨⟨⟨⟨rfl, h1⟩, h2⟩, h3⟩, h4⟩, h5⟩, h6⟩ := h
      obtain ⟨n1, n2, n3⟩ := G.g.tgN h1
      obtain ⟨v1, v2, v3, v4⟩ := G.g.vis h3
      exact st_pop G.g.nd n1 n2 n3 h2 v1 v2 v3 v4 h4 h5 (sE e f.W st X (.x false) _ G.g h6)
    · cases h
  | .setI i ix e, f, X, x, G, h => by
    simp only [mS] at h
    split at h
    · rename_i y p1 z p2 v pos
      simp only [Bool.and_eq_true] at h
      obtain ⟨⟨⟨h1, h2⟩, h3⟩, h4⟩ := h
      obtain ⟨n1, n2, n3, n4⟩ := G.g.vis h1
      refine st_setI (p2 := p2) G.g.units n1 n2 n3 n4 (sw_other (x := v) (t := .Subscript (.Name y p1) z p2) (l := pos.line) (env := X.env) rfl) (fun v => ?_) (sE e f.W st X (.x false) v G.g h3) (sE ix f.W st X (.x false) z G.g h4)
      cases z <;> first | rfl | cases h2
    · cases h
  | .setC o ix e, f, X, x, G, h => by
    simp only [mS] at h
    split at h
    · rename_i y z p2 v pos
      simp only [Bool.and_eq_true] at h
      obtain ⟨⟨⟨h1, h2⟩, h3⟩, h4⟩ := h
      refine st_setC G.g.units (sw_other (x := v) (t := .Subscript y z p2) (l := pos.line) (env := X.env) rfl) (fun v => ?_) (sE e f.W st X (.x false) v G.g h2) (sE o f.W st X (.x false) y G.g h3) (sE ix f.W st X (.x false) z G.g h4)
      cases z <;> first | rfl | cases h1
    · cases h
  | .setF c fl o e, f, X, x, G, h => by
    simp only [mS] at h
    split at h
    · simp only [Bool.and_eq_true, decide_eq_true_eq] at h
      obtain ⟨⟨⟨rfl, h1⟩, h2⟩, h3⟩ := h
      obtain ⟨k1, k2⟩ := G.g.w.flds _ _ h1
      exact st_setF G.g.w.K k1 k2 (sw_other rfl) (sE e f.W st X (.x false) _ G.g h2) (sE o f.W st X (.x false) _ G.g h3)
    · cases h
  | .ex e, f, X, x, G, h => by
    simp only [mS] at h
    split at h
    · simp only [Bool.and_eq_true] at h
      exact st_ex (sw_plain h.1) (sE e f.W st X (.x false) _ G.g h.2)
    · cases h
  | .app i e, f, X, x, G, h => by
    simp only [mS] at h
    split at h
    · simp only [Bool.and_eq_true, decide_eq_true_eq] at h
      obtain ⟨⟨⟨⟨rfl, h1⟩, h2⟩, h3⟩, h4⟩ := h
      obtain ⟨n1, n2, n3, n4⟩ := G.g.vis h1
      exact st_app n1 n2 n3 n4 h2 h3 (sE e f.W st X (.x false) _ G.g h4)
    · cases h
  | .ins0 i e, f, X, x, G, h => by
    simp only [mS] at h
    split at h
    · simp only [Bool.and_eq_true, decide_eq_true_eq] at h
      obtain ⟨⟨⟨⟨rfl, h1⟩, h2⟩, h3⟩, h4⟩ := h
      obtain ⟨n1, n2, n3, n4⟩ := G.g.vis h1
      exact st_ins0 n1 n2 n3 n4 h2 h3 (sE e f.W st X (.x false) _ G.g h4)
    · cases h
  | .ife c t u, f, X, x, G, h => by
    simp only [mS] at h
    split at h
    · simp only [Bool.and_eq_true] at h
      obtain ⟨⟨h1, h2⟩, h3⟩ := h
      exact st_ife (sT c f.W st X _ G.g h1) (sSs t f X _ G h2) (sSs u f X _ G h3)
    · cases h
  | .for_ tg kd it body, f, X, x, G, h => by
    simp only [mS] at h
    split at h
    · simp only [Bool.and_eq_true] at h
      obtain ⟨⟨⟨⟨h1, h2⟩, h3⟩, h4⟩, h5⟩ := h
      exact st_for G.po G.g.calm (i_ok (c := false) G.g h2 (by rw [Bool.false_and]; exact sEs it f.W st X false _ G.g h3)) (g_tgt G.g h4) (sSs body f X _ G h5) h1
    · cases h
  | .ret e, f, X, x, G, h => by
    simp only [mS] at h
    split at h
    · exact st_ret (sE e f.W st X (.x false) _ G.g h)
    · cases h
  | .retN, f, X, x, G, h => by
    simp only [mS] at h
    split at h
    · exact st_retN
    · cases h
  | .rais c es, f, X, x, G, h => by
    simp only [mS] at h
    split at h
    · rw [Bool.or_eq_true] at h
      rcases h with h | h
      · simp only [Bool.and_eq_true, decide_eq_true_eq] at h
        obtain ⟨⟨⟨h1, h2⟩, h3⟩, h4⟩ := h
        obtain ⟨g1, g2⟩ := G.g.glo h1
        obtain ⟨fI, k1, k2⟩ := G.g.w.raises _ _ h2
        have L := sEs es f.W st X false _ G.g h4
        obtain ⟨e, y, rfl, rfl, m1, m2, m3⟩ := L.one h3
        exact st_rais1 G.g.calm G.g.tk G.g.room m2 k2 g1 k1 g2 m3 m1
      · simp only [Bool.and_eq_true, List.isEmpty_iff] at h
        obtain ⟨⟨⟨h1, h2⟩, rfl⟩, rfl⟩ := h
        obtain ⟨g1, g2⟩ := G.g.glo h1
        obtain ⟨k1, k2, k3, k4, k5⟩ := G.g.w.raises0 _ _ h2
        exact st_rais0 G.g.calm G.g.tk k2 k3 k4 k5 g1 k1 g2
    · cases h
  | .try_ bl hs, f, X, x, G, h => by
    simp only [mS] at h
    split at h
    · simp only [Bool.and_eq_true] at h
      refine st_try G.hst G.hfm G.g.nd G.g.tk (hdC_ok G h.2) fun W pn xe tk po => ?_
      exact sSs bl { f with W := W } (X.tr pn xe) _ ⟨⟨G.g.w.to rfl rfl rfl rfl rfl, G.g.N, G.g.nd, G.g.sc, G.g.fn, G.g.calm, G.g.room, tk⟩, G.hst, G.hfm, po, G.kd⟩ h.1
    · cases h
  | .frz i, f, X, x, G, h => by simp [mS] at h
  | .pass, f, X, x, G, h => by
    simp only [mS] at h
    split at h
    · exact st_pass
    · exact st_doc
    · cases h
theorem sSs : ∀ (l : List G.S) (f : Fr) (X : Cx) (xs : List Stmt), GoodS T f k st X → mSs T f.q.fn st l xs = true → PSs X xs (tSs f l)
  | [], f, X, xs, G, h => by
    cases xs with
    | nil => exact ss_nil
    | cons _ _ => simp [mSs] at h
  | s :: r, f, X, xs, G, h => by
    by_cases hs : ∃ i, s = .frz i
    · obtain ⟨i, rfl⟩ := hs
      simp only [mSs] at h
      exact ss_frz (sSs r f X xs G h)
    · cases xs with
      | nil =>
        exfalso
        cases s <;> first | (simp [mSs] at h; done) | exact hs ⟨_, rfl⟩
      | cons x xs =>
        have h2 : mS T f.q.fn st s x = true ∧ mSs T f.q.fn st r xs = true := by
          cases s <;> first | (simpa only [mSs, Bool.and_eq_true] using h) | exact absurd ⟨_, rfl⟩ hs
        exact ss_cons (sS s f X x G h2.1) (sSs r f X xs G h2.2)
end
end
end G
set_option maxHeartbeats 4000000
namespace G
open PySem PySem.Spec PyProof.Rows L2
structure FnD where
  addr : Addr
  N : List Str
  np : Nat
  body : List G.S
structure CsD where
  name : Str
  addr : Addr
  fld : Str
  ini : Addr
/-- a program as it is told -/
structure Prg where
  ds : List FnD
  cs : List CsD
  glos : List (Str × D)
  tabs : List (Str × List (Str × D))
  subs : List ((Nat × Nat) × Bool)
  T : Tb
def Prg.fa (P : Prg) (f : Nat) : Addr := match P.ds[f]? with
  | some d => d.addr
  | none => 0
def Prg.ca (P : Prg) (c : Nat) : Addr := match P.cs[c]? with
  | some d => d.addr
  | none => 0
def Prg.fl (P : Prg) (c : Nat) : Str := match P.cs[c]? with
  | some d => d.fld
  | none => Str.empty
def Prg.sub (P : Prg) (c h : Nat) : Option Bool := P.subs.lookup (c, h)
def Prg.pg (P : Prg) : Pg where
  fn f := match P.ds[f]? with
    | some d => some ⟨d.np, d.N.length, d.body⟩
    | none => none
  glo i := match P.glos[i]? with
    | some d => some d.2
    | none => none
  tab i := match P.tabs[i]? with
    | some d => d.2
    | none => []
  sub := P.sub
def Prg.pn (P : Prg) (f : Nat) : List Str := match P.ds[f]? with
  | some d => d.N.take d.np
  | none => []
def Prg.q (P : Prg) (K : PySem.W.Frag) : Pc := ⟨⟨K, P.fa, P.ca⟩, P.fl, P.pn⟩
def Prg.ev (P : Prg) (n : Nat) : Ev := ⟨run P.pg n, P.pg.glo, P.pg.tab, P.pg.sub⟩
def scopeC (N : List Str) (np : Nat) (sc : Scope) : Bool :=
  (match sc.kind with | .function => true | _ => false) && !sc.isCoroutine && !sc.isGenerator && decide N.Nodup && decide (np ≤ N.length) && ((N.take np).all fun x => match sc.names.lookup x with
    | some .local => true
    | some .cell => true
    | _ => false) && sc.names.all fun y => match y.2 with
    | .free => false
    | _ => true
theorem scopeC_ok {N : List Str} {np : Nat} {sc : Scope} (h : scopeC N np sc = true) : FnScope N (N.take np) sc ∧ (N.take np).length = np := by
  unfold scopeC at h
  simp only [Bool.and_eq_true, decide_eq_true_eq, Bool.not_eq_true', List.all_eq_true] at h
  obtain ⟨⟨⟨⟨⟨⟨h1, h2⟩, h3⟩, h4⟩, h5⟩, h6⟩, h7⟩ := h
  refine ⟨⟨?_, h2, h3, h4, ?_, fun x hx => ?_, fun y hy e => ?_⟩, by rw [List.length_take]; omega⟩
  · split at h1
    · assumption
    · cases h1
  · rw [List.length_take, Nat.min_eq_left h5]
  · have := h6 x hx
    split at this
    · exact .inl (by assumption)
    · exact .inr (by assumption)
    · cases this
  · have := h7 y hy
    rw [e] at this
    cases this
def plainP (fd : FuncData) (ps : List Str) : Bool := fd.params.posonlyargs.isEmpty && fd.params.kwonlyargs.isEmpty && fd.params.vararg.isNone && fd.params.kwarg.isNone && (match fd.defaults with | .none => true | _ => false) && decide (fd.params.args.map (·.arg) = ps)
theorem plainP_ok {fd : FuncData} {ps : List Str} {K : PySem.W.Frag} (h : plainP fd ps = true) (nd : ps.Nodup) : Binds K fd ps [] := by
  unfold plainP at h
  simp only [Bool.and_eq_true, decide_eq_true_eq, List.isEmpty_iff, Option.isNone_iff_eq_none] at h
  obtain ⟨⟨⟨⟨⟨h1, h2⟩, h3⟩, h4⟩, h5⟩, h6⟩ := h
  refine Binds.all fun us hl => bind_all h1 h2 h3 h4 ?_ h6 nd us hl
  split at h5
  · assumption
  · cases h5
theorem plainP_kw {fd : FuncData} {ps : List Str} {K : PySem.W.Frag} (h : plainP fd ps = true) (nd : ps.Nodup) : ∀ n ks p, kwOk ps n ks p = true → KBn K fd ps n ks (gP p) (gP p) := by
  unfold plainP at h
  simp only [Bool.and_eq_true, decide_eq_true_eq, List.isEmpty_iff, Option.isNone_iff_eq_none] at h
  obtain ⟨⟨⟨⟨⟨h1, h2⟩, h3⟩, h4⟩, h5⟩, h6⟩ := h
  have h5' : fd.defaults = .none := by
    split at h5
    · assumption
    · cases h5
  exact fun n ks p hk => kbn_of h1 h2 h3 h4 h5' h6 nd hk
def fdOf (K : PySem.W.Frag) (a : Addr) : Option FuncData := match K.lookup a with
  | some ⟨_, _, .func fd, _⟩ => some fd
  | _ => none
def homeC (K : PySem.W.Frag) (fd : FuncData) : Bool := fd.globals == mainGlobals && fd.closure.isEmpty && fd.builtins == builtinsNs && PySem.W.codeIn K fd.code fd.qualname
def chkFn (K : PySem.W.Frag) (P : Prg) (d : FnD) : Bool := match fdOf K d.addr with
  | some fd => (match fd.body with
    | .stmts body => homeC K fd && plainP fd (d.N.take d.np) && scopeC d.N d.np fd.scope && mSs P.T P.fl ⟨d.N, fd.scope, fun _ => true⟩ d.body body
    | _ => false)
  | none => false
theorem home_ok {K : PySem.W.Frag} {a : Addr} {fd : FuncData} {body : List Stmt} (h : fdOf K a = some fd) (hb : fd.body = .stmts body) (hh : homeC K fd = true) :
    ∃ oc od osl, K.lookup a = some ⟨oc, od, .func (PySem.W.fnOf fd.name fd.qualname fd.params body fd.scope fd.defaults fd.kwdefaults fd.doc fd.pyModule fd.annotations fd.code fd.closureTuple), osl⟩ ∧ fd = PySem.W.fnOf fd.name fd.qualname fd.params body fd.scope fd.defaults fd.kwdefaults fd.doc fd.pyModule fd.annotations fd.code fd.closureTuple ∧ PySem.W.codeIn K fd.code fd.qualname = true := by
  unfold homeC at hh
  simp only [Bool.and_eq_true, beq_iff_eq, List.isEmpty_iff] at hh
  obtain ⟨⟨⟨h1, h2⟩, h3⟩, h4⟩ := hh
  have e : fd = PySem.W.fnOf fd.name fd.qualname fd.params body fd.scope fd.defaults fd.kwdefaults fd.doc fd.pyModule fd.annotations fd.code fd.closureTuple := by
    obtain ⟨a1, a2, a3, a4, a5, a6, a7, a8, a9, a10, a11, a12, a13, a14, a15⟩ := fd
    simp only at h1 h2 h3 hb
    subst h1 h2 h3 hb
    rfl
  unfold fdOf at h
  split at h
  · rename_i oc od fd' osl ho
    cases h
    exact ⟨oc, od, osl, by rw [ho, ← e], e, h4⟩
  · cases h
theorem env_start {g : Gc} {F : Hp} {A : List Addr} {H : Hp} {N : List Str} {vs : List V} {ds : List D} (rl : RepL g F A vs ds) (hn : vs.length ≤ N.length) : EnvR g F A H (rho0 N.length ds) (L2.start N vs) := by
  have el := rl.len
  have own : ∀ {i : Nat} {sl : Sl}, (rho0 N.length ds)[i]? = some sl → sl.own = true → False := fun {i sl} h w => by
    unfold rho0 at h
    by_cases c : i < ds.length
    · rw [List.getElem?_append_left (by simpa using c), List.getElem?_map] at h
      cases e : ds[i]? with
      | none => rw [e] at h; cases h
      | some d => rw [e] at h; cases h; cases w
    · rw [List.getElem?_append_right (by simpa using c), List.getElem?_replicate] at h
      split at h
      · cases h; cases w
      · cases h
  refine ⟨by unfold rho0 L2.start; simp [el], fun i sl h => ?_, fun i j si sj p hij hi wi => (own hi wi).elim⟩
  unfold rho0 at h
  unfold L2.start
  by_cases c : i < ds.length
  · rw [List.getElem?_append_left (by simpa using c), List.getElem?_map, Option.map_eq_some_iff] at h
    obtain ⟨d, hd, rfl⟩ := h
    obtain ⟨v, hv, r⟩ := rl.get hd
    exact ⟨some v, by rw [List.getElem?_append_left (by simpa [el] using c), List.getElem?_map, hv]; rfl, v, rfl, r⟩
  · rw [List.getElem?_append_right (by simpa using c), List.getElem?_replicate] at h
    split at h
    · rename_i hlt
      cases h
      exact ⟨none, by rw [List.getElem?_append_right (by simpa [el] using c), List.getElem?_replicate, List.length_map, el]; simp only [List.length_map] at hlt; rw [if_pos hlt], trivial⟩
    · cases h
theorem own_start {H0 : Hp} {N : List Str} {vs : List V} {ds : List D} : OwnNew H0 (rho0 N.length ds) (L2.start N vs) := fun i sl p h w => by
  exfalso
  unfold rho0 at h
  by_cases c : i < ds.length
  · rw [List.getElem?_append_left (by simpa using c), List.getElem?_map] at h
    cases e : ds[i]? with
    | none => rw [e] at h; cases h
    | some d => rw [e] at h; cases h; cases w
  · rw [List.getElem?_append_right (by simpa using c), List.getElem?_replicate] at h
    split at h
    · cases h; cases w
    · cases h
theorem run_len {P : Pg} {n f : Nat} {ds : List D} {S : Store} {fn : Fn} (hf : P.fn f = some fn) (h : run P n f ds S ≠ .no) : ds.length = fn.np := by
  cases n with
  | zero => exact absurd rfl h
  | succ k =>
    simp only [run, hf] at h
    by_cases c : ds.length = fn.np
    · exact c
    · rw [if_neg c] at h; exact absurd rfl h
def lv (n : Nat) : Nat := 2 * n + 1
section
variable {prog : Program} {w : World} {K : PySem.W.Frag} {mg : Str → Option Value} {base : Heap} {P : Prg}
/-- the defs at a level of calls -/
def FnsOk (prog : Program) (w : World) (K : PySem.W.Frag) (mg : Str → Option Value) (base : Heap) (P : Prg) (n : Nat) : Prop :=
  ∀ f d, P.ds[f]? = some d → ∃ fd : FuncData, fdOf K d.addr = some fd ∧ (d.N.take d.np).length = d.np ∧ FnOk prog w K mg base (L2.CX prog w) (lv n) d.addr fd (d.N.take d.np) (spC (P.q K) d.np (run P.pg n) f) ∧ Binds K fd (d.N.take d.np) [] ∧ ∀ n ks p, kwOk (d.N.take d.np) n ks p = true → KBn K fd (d.N.take d.np) n ks (gP p) (gP p)
theorem fn_step {n f : Nat} {d : FnD} (hd : P.ds[f]? = some d) (hc : chkFn K P d = true)
    (hw : ∀ X : Cx, X.prog = prog → X.w = w → X.K = K → X.mg = mg → X.base = base → Wrl P.T (P.q K) (P.ev n) (lv n) X) :
    ∃ fd : FuncData, fdOf K d.addr = some fd ∧ (d.N.take d.np).length = d.np ∧ FnOk prog w K mg base (L2.CX prog w) (lv (n + 1)) d.addr fd (d.N.take d.np) (spC (P.q K) d.np (run P.pg (n + 1)) f) ∧ Binds K fd (d.N.take d.np) [] ∧ ∀ n ks p, kwOk (d.N.take d.np) n ks p = true → KBn K fd (d.N.take d.np) n ks (gP p) (gP p) := by
  unfold chkFn at hc
  split at hc
  · rename_i fd hfd
    split at hc
    · rename_i body hb
      simp only [Bool.and_eq_true] at hc
      obtain ⟨⟨⟨h1, h2⟩, h3⟩, h4⟩ := hc
      obtain ⟨oc, od, osl, lk, efd, hcd⟩ := home_ok hfd hb h1
      obtain ⟨S, hl⟩ := scopeC_ok h3
      have nd : (d.N.take d.np).Nodup := S.nd.sublist (List.take_sublist _ _)
      refine ⟨fd, hfd, hl, ?_, plainP_ok h2 nd, plainP_kw h2 nd⟩
      rw [efd]
      have hlv : lv (n + 1) = (lv n + 1) + 1 := by unfold lv; omega
      rw [hlv]
      refine fn_of lk hcd S (fun vs H Q E h => by rw [hl]; exact h.1) fun A outer s H vs Q E hr ⟨hvl, F, A', Sv, ds, st, rl, po⟩ => ?_
      let fr : Fr := ⟨P.q K, P.ev n, E, F, A', H⟩
      let X := cxOf (L2.CX prog w) prog w K mg base d.N fd.qualname fd.scope d.addr fd.code A outer s H E
      have G : GoodS P.T fr (lv n) ⟨d.N, fd.scope, fun _ => true⟩ X :=
        ⟨⟨hw X rfl rfl rfl rfl rfl, rfl, S.nd, rfl, rfl, rfl, hr, takes_of rfl rfl rfl rfl⟩, rfl, rfl, passes_of rfl, S.kind⟩
      refine ⟨tSs fr d.body, sSs d.body fr X body G h4, F, A', rho0 d.N.length ds, Sv, ⟨Step.refl, st, env_start rl ?_, own_start⟩, ?_⟩
      · have := congrArg List.length S.pre
        rw [List.length_take] at this
        omega
      · have hfn : P.pg.fn f = some ⟨d.np, d.N.length, d.body⟩ := by
          simp only [Prg.pg, hd]
        have hdl : ds.length = d.np := by rw [← rl.len]; exact hvl
        simp only [run, hfn] at po
        rw [if_pos hdl] at po
        show PostS fr F A' (execs (P.ev n) (rho0 d.N.length ds) d.body Sv) _
        have po : PostOf (P.q K) (RepX (P.q K).g false) E F A' H ((execs (P.ev n) (rho0 d.N.length ds) d.body Sv).bind fun r S1 => match r with | .rt d => .ok d S1 | .nx _ => .ok .non S1) Q := po
        cases ho : execs (P.ev n) (rho0 d.N.length ds) d.body Sv with
        | no => rw [ho] at po; exact po
        | ex c p S' => rw [ho] at po; exact fun cls dd F1 A1 H1 l1 l2 t st ex => po cls dd F1 A1 H1 t st ex
        | ok res S' =>
          rw [ho] at po
          cases res with
          | rt d => exact fun v F1 A1 H1 l1 l2 t st r => po v F1 A1 H1 t st r
          | nx ρ' => exact fun σ' F1 A1 H1 l1 l2 s => po .non F1 A1 H1 s.step s.st (.inl rfl)
    · cases hc
  · cases hc
theorem fns_zero (hb : ∀ d ∈ P.ds, chkFn K P d = true) : FnsOk prog w K mg base P 0 := by
  intro f d hd
  have hc := hb d (List.mem_of_getElem? hd)
  unfold chkFn at hc
  split at hc
  · rename_i fd hfd
    split at hc
    · rename_i body hb
      simp only [Bool.and_eq_true] at hc
      obtain ⟨⟨⟨h1, h2⟩, h3⟩, h4⟩ := hc
      obtain ⟨S, hl⟩ := scopeC_ok h3
      have nd : (d.N.take d.np).Nodup := S.nd.sublist (List.take_sublist _ _)
      exact ⟨fd, hfd, hl, ⟨fun vs H Q E h => by rw [hl]; exact h.1, fun A outer s H args us vs Q E hr e0 hb hv ⟨_, F, A', Sv, ds, st, rl, po⟩ => po.elim⟩, plainP_ok h2 nd, plainP_kw h2 nd⟩
    · cases hc
  · cases hc
end
end G
set_option maxHeartbeats 4000000
namespace G
open PySem PySem.Spec PyProof.Rows L2
def clsC (K : PySem.W.Frag) (C : Addr) : Bool := PySem.W.plainGet K C Str.empty && PySem.W.hasDictIn K C && PySem.W.plainOver K C && decide (PySem.W.findIn K (.ref C) "__setattr__" = some (some (.builtin "object.__setattr__")))
theorem clsC_ok {K : PySem.W.Frag} {C : Addr} (h : clsC K C = true) : Cls K C := by
  unfold clsC at h
  simp only [Bool.and_eq_true, decide_eq_true_eq] at h
  exact ⟨h.1.1.1, h.1.1.2, h.1.2, h.2⟩
def methC (K : PySem.W.Frag) (C : Addr) (n : Str) (f : Addr) : Bool := decide (PySem.W.findIn K (.ref C) n = some (some (.ref f))) && PySem.W.isFn K (.ref f) && PySem.W.keepIn K (.ref f)
theorem methC_ok {K : PySem.W.Frag} {C : Addr} {n : Str} {f : Addr} (h : methC K C n f = true) : Meth K C n f := by
  unfold methC at h
  simp only [Bool.and_eq_true, decide_eq_true_eq] at h
  exact ⟨h.1.1, h.1.2, h.2⟩
def propC (K : PySem.W.Frag) (C : Addr) (n : Str) (f : Addr) : Bool := match PySem.W.findIn K (.ref C) n with
  | some (some (.ref p)) => decide (PySem.W.specialIn K (.ref p) "__get__" = some (some (.builtin "property.__get__"))) && decide (PySem.W.takesIn K (.ref p) = some true) && (match PySem.W.recIn K p "property" with
    | some (.ref g :: _) => g == f
    | _ => false)
  | _ => false
theorem propC_ok {K : PySem.W.Frag} {C : Addr} {n : Str} {f : Addr} (h : propC K C n f = true) : ∃ p, PropOf K C n p f := by
  unfold propC at h
  split at h
  · rename_i p e
    simp only [Bool.and_eq_true, decide_eq_true_eq] at h
    obtain ⟨⟨h1, h2⟩, h3⟩ := h
    split at h3
    · rename_i g rest e2
      have := eq_of_beq h3
      subst this
      exact ⟨p, e, h1, h2, rest, e2⟩
    · cases h3
  · cases h
def mkC (K : PySem.W.Frag) (C f : Addr) : Bool := PySem.W.makesIn K C && decide (PySem.W.findIn K (.ref C) "__init__" = some (some (.ref f))) && PySem.W.isFn K (.ref f) && PySem.W.keepIn K (.ref C)
theorem mkC_ok {K : PySem.W.Frag} {C f : Addr} (h : mkC K C f = true) : Mk K C f := by
  unfold mkC at h
  simp only [Bool.and_eq_true, decide_eq_true_eq] at h
  exact ⟨h.1.1.1, h.1.1.2, h.1.2, h.2⟩
def oexC (K : PySem.W.Frag) (C : Addr) : Bool := (match K.lookup C with
  | some ⟨.type t, _, .cls cd, sl⟩ => decide (t = "type") && cd.hasDict && !cd.hasDel && (match cd.mro, sl.toList with
    | .ref C' :: bm, [_, _, _, _, some (.builtin n), _] => C' == C && n == "ValueError.__new__" && PySem.HandSPX.refsVE bm
    | _, _ => false)
  | _ => false) && decide (PySem.W.findIn K (.ref C) "__setattr__" = some (some (.builtin "object.__setattr__"))) && decide (PySem.W.subIn K (.ref C) (.type "BaseException") = some true) && decide (PySem.W.typeIn K (.ref C) = some (.type "type")) && PySem.W.keepIn K (.ref C)
theorem oexC_ok {K : PySem.W.Frag} {C : Addr} (h : oexC K C = true) : OexC K C := by
  unfold oexC at h
  simp only [Bool.and_eq_true, decide_eq_true_eq] at h
  obtain ⟨⟨⟨⟨h1, h2⟩, h3⟩, h4⟩, h5⟩ := h
  refine ⟨?_, h2, h3, h4, h5⟩
  split at h1
  · rename_i t dd cd sl ho
    simp only [Bool.and_eq_true, decide_eq_true_eq, Bool.not_eq_true'] at h1
    obtain ⟨⟨⟨rfl, k1⟩, k2⟩, k3⟩ := h1
    split at k3
    · rename_i C' bm k0 k1' k2' k3' n k5 hm hs
      simp only [Bool.and_eq_true, beq_iff_eq] at k3
      obtain ⟨⟨rfl, rfl⟩, k4⟩ := k3
      obtain ⟨nm, bs, mro, ns, qn, hd, sn, sub, ab, col, del⟩ := cd
      simp only at k1 k2 hm
      subst k1 k2 hm
      have hsl : sl = #[k0, k1', k2', k3', some (.builtin "ValueError.__new__"), k5] := by
        rw [← Array.toArray_toList (xs := sl), hs]
      subst hsl
      exact ⟨nm, qn, ns, bs, bm, sn, sub, ab, col, dd, k0, k1', k2', k3', k5, ho, k4⟩
    · cases k3
  · cases h1
def iniC (K : PySem.W.Frag) (C fI : Addr) (fl : Str) : Bool := oexC K C && decide (PySem.W.findIn K (.ref C) "__init__" = some (some (.ref fI))) && decide (PySem.W.typeIn K (.ref fI) = some (.type "function")) && decide (PySem.W.findIn K (.ref C) fl = some none) && (match fdOf K fI with
  | some fd => (match fd.body with
    | .stmts [.Assign [.Attribute (.Name s _) f2 _] (.Name g _) _] => homeC K fd && plainP fd [s, g] && scopeC [s, g] 2 fd.scope && visB fd.scope s && visB fd.scope g && dbg s && dbg g && decide (f2 = fl)
    | _ => false)
  | none => false)
theorem lookup_mem {α β : Type} [BEq α] [LawfulBEq α] {k : α} {b : β} : ∀ {l : List (α × β)}, l.lookup k = some b → (k, b) ∈ l
  | [], h => by cases h
  | (a, c) :: l, h => by
    rw [List.lookup_cons] at h
    by_cases z : (k == a) = true
    · rw [z] at h; cases h; rw [eq_of_beq z]; simp
    · have z' : (k == a) = false := by simpa using z
      rw [z'] at h
      exact List.mem_cons_of_mem _ (lookup_mem h)
section
variable {prog : Program} {w : World} {K : PySem.W.Frag} {mg : Str → Option Value} {base : Heap} {P : Prg}
theorem visB_ok {sc : Scope} {x : Str} (h : visB sc x = true) : Vis sc x := by
  unfold visB at h
  unfold Vis
  split at h <;> first | (rename_i e; simp [e]; done) | cases h
theorem iniC_ok {C fI : Addr} {fl : Str} {n : Nat} (h : iniC K C fI fl = true) {X : Cx} (e3 : X.K = K) : IniAt X C fI fl (lv n) := by
  unfold iniC at h
  simp only [Bool.and_eq_true, decide_eq_true_eq] at h
  obtain ⟨⟨⟨⟨h1, h2⟩, h3⟩, h3'⟩, h4⟩ := h
  subst e3
  refine ⟨oexC_ok h1, h2, h3, ?_⟩
  split at h4
  · rename_i fd hfd
    split at h4
    · rename_i s p1 f2 p2 g p3 p4 hb
      simp only [Bool.and_eq_true, decide_eq_true_eq] at h4
      obtain ⟨⟨⟨⟨⟨⟨⟨k1, k2⟩, k3⟩, k4⟩, k5⟩, k6⟩, k7⟩, rfl⟩ := h4
      obtain ⟨oc, od, osl, lk, efd, hcd⟩ := home_ok hfd hb k1
      obtain ⟨S, hl⟩ := scopeC_ok k3
      have S : FnScope [s, g] [s, g] fd.scope := S
      refine ⟨_, [s, g], ?_, efd ▸ plainP_ok k2 S.nd⟩
      refine FnOk.mono (j := 1) ?_ (by unfold lv; omega)
      refine fn_of (k := 0) lk hcd S (fun vs H Q E ⟨a, y, e, _⟩ => by rw [e]; rfl) fun A outer s' H vs Q E hr ⟨a, y, e, hx, k⟩ => ?_
      subst e
      refine ⟨_, pss_one (ps_ost (X := cxOf _ _ _ _ _ _ [s, g] _ _ _ _ _ _ _ _ _) (pe_var (i := 0) rfl (visB_ok k4) (dbg_ok k6).1 (dbg_ok k6).2) (pe_var (i := 1) rfl (visB_ok k5) (dbg_ok k7).1 (dbg_ok k7).2) rfl), ?_⟩
      exact ⟨y, rfl, .ref a, rfl, a, C, rfl, oexC_ok h1, h3', .inl ⟨hx, fun dx h1 h2 => k dx h1 h2⟩⟩
    · cases h4
  · cases h4
def repC (u : Value) (d : D) : Bool := match u, d with
  | .int i _, .int j => decide (i = j)
  | .str x _, .str y => decide (x = y)
  | _, _ => false
theorem repC_ok {u : Value} {d : D} (h : repC u d = true) : ∃ v, RelV v u ∧ ∀ g F A, Rep g F A v d := by
  unfold repC at h
  split at h
  · have := of_decide_eq_true h; subst this; exact ⟨.int _, ⟨_, rfl⟩, fun _ _ _ => rfl⟩
  · have := of_decide_eq_true h; subst this; exact ⟨.str _, ⟨_, rfl⟩, fun _ _ _ => rfl⟩
  · cases h
def fnC (P : Prg) (f : Nat) : Bool := match P.ds[f]? with
  | some d => decide (P.T.np f = d.np)
  | none => false
/-- all that is seen of the written part -/
def chkT (K : PySem.W.Frag) (P : Prg) : Bool :=
  (P.T.fns.all fun p => decide (PySem.W.nsIn K mainGlobals p.1 = some (some (.ref (P.fa p.2)))) && PySem.W.keepIn K (.ref (P.fa p.2)) && fnC P p.2) &&
  (P.T.bns.all fun x => decide (PySem.W.nsIn K mainGlobals x = some none)) &&
  (!P.T.gcd || decide (PySem.W.nsIn K mainGlobals "gcd" = some (some (.builtin "math.gcd")))) &&
  (P.T.glos.all fun p => match PySem.W.nsIn K mainGlobals p.1, P.pg.glo p.2 with
    | some (some u), some d => repC u d
    | _, _ => false) &&
  (P.T.flds.all fun p => clsC K (P.ca p.1) && decide (PySem.W.findIn K (.ref (P.ca p.1)) p.2 = some none)) &&
  (P.T.props.all fun p => clsC K (P.ca p.1) && propC K (P.ca p.1) p.2.1 (P.fa p.2.2) && fnC P p.2.2) &&
  (P.T.meths.all fun p => clsC K (P.ca p.1) && methC K (P.ca p.1) p.2.1 (P.fa p.2.2) && fnC P p.2.2) &&
  (P.T.makes.all fun p => decide (PySem.W.nsIn K mainGlobals p.1 = some (some (.ref (P.ca p.2.1)))) && mkC K (P.ca p.2.1) (P.fa p.2.2) && fnC P p.2.2) &&
  (P.T.raises.all fun p => decide (PySem.W.nsIn K mainGlobals p.1 = some (some (.ref (P.ca p.2)))) && (match P.cs[p.2]? with
    | some d => iniC K (P.ca p.2) d.ini (P.fl p.2)
    | none => false)) &&
  (P.T.names.all fun p => decide (PySem.W.nsIn K mainGlobals p.1 = some (some (.ref (P.ca p.2))))) &&
  (P.subs.all fun p => decide (PySem.W.exmOne K (.ref (P.ca p.1.1)) (.ref (P.ca p.1.2)) = some p.2)) &&
  (P.T.raises0.all fun p => decide (PySem.W.nsIn K mainGlobals p.1 = some (some (.ref (P.ca p.2)))) && PySem.W.excIn K (P.ca p.2) [.type "ValueError", .type "Exception", .type "BaseException", .type "object"] "ValueError.__new__" && PySem.W.keepIn K (.ref (P.ca p.2)) && decide (PySem.W.subIn K (.ref (P.ca p.2)) (.type "BaseException") = some true) && decide (PySem.W.typeIn K (.ref (P.ca p.2)) = some (.type "type"))) &&
  (P.T.kws.all fun f => decide (P.T.pn f = P.pn f)) &&
  (P.T.hfld.all fun c => xfB K (P.ca c) && decide (PySem.W.findIn K (.ref (P.ca c)) (P.fl c) = some none))
theorem fnAt {n f : Nat} (hF : FnsOk prog w K mg base P n) (hc : fnC P f = true) {X : Cx} (e1 : X.prog = prog) (e2 : X.w = w) (e3 : X.K = K) (e4 : X.mg = mg) (e5 : X.base = base) : FnAt X (P.q K) (P.ev n).call (lv n) f (P.T.np f) := by
  unfold fnC at hc
  split at hc
  · rename_i d hd
    have hnp := of_decide_eq_true hc
    obtain ⟨fd, _, h1, h2, h3, h4⟩ := hF f d hd
    subst e1 e2 e3 e4 e5
    have ea : (P.q X.K).g.fa f = d.addr := by
      show P.fa f = _
      unfold Prg.fa
      rw [hd]
    have ep : (P.q X.K).pn f = d.N.take d.np := by
      show P.pn f = _
      unfold Prg.pn
      rw [hd]
    refine ⟨⟨fd, _, by rw [hnp]; exact h1, by rw [ea, hnp]; exact h2, h3⟩, fun ds S h => ?_, ⟨fd, by rw [ea, hnp, ep]; exact h2, by rw [ep]; exact h4⟩⟩
    rw [hnp]
    exact run_len (P := P.pg) (fn := ⟨d.np, d.N.length, d.body⟩) (by simp only [Prg.pg, hd]) h
  · cases hc
theorem wrl_of {n : Nat} (hmg : ∀ x o, PySem.W.nsIn K mainGlobals x = some o → mg x = o) (hc : chkT K P = true) (ht : ∀ y i, P.T.tabs.contains (y, i) = true → ∃ yd, PySem.W.nsIn K mainGlobals y = some (some (.ref yd)) ∧ TabR (P.q K).g w (P.pg.tab i) yd) (hF : FnsOk prog w K mg base P n)
    (X : Cx) (e1 : X.prog = prog) (e2 : X.w = w) (e3 : X.K = K) (e4 : X.mg = mg) (e5 : X.base = base) : Wrl P.T (P.q K) (P.ev n) (lv n) X := by
  unfold chkT at hc
  simp only [Bool.and_eq_true, List.all_eq_true, decide_eq_true_eq, Bool.or_eq_true, Bool.not_eq_true'] at hc
  obtain ⟨⟨⟨⟨⟨⟨⟨⟨⟨⟨⟨⟨⟨c1, c2⟩, c3⟩, c4⟩, c5⟩, c6⟩, c7⟩, c8⟩, c9⟩, c10⟩, c11⟩, c13⟩, c14⟩, c12⟩ := hc
  have mem : ∀ {α : Type} [BEq α] [LawfulBEq α] {l : List α} {x : α}, l.contains x = true → x ∈ l := fun h => by simpa using h
  refine ⟨e3, fun y f h => ?_, fun y h => ?_, fun h => ?_, fun y i h => ?_, fun y i h => ?_, fun c f h => ?_, fun c m f h => ?_, fun c m f h => ?_, fun y c f h => ?_, fun y c h => ?_, fun y c h => ?_, fun f h => ?_, fun y c h => ?_, fun c h => ?_⟩
  · obtain ⟨⟨h1, h2⟩, h3⟩ := c1 _ (mem h)
    exact ⟨by rw [e4]; exact hmg _ _ h1, by rw [e3]; exact h2, fnAt hF h3 e1 e2 e3 e4 e5⟩
  · rw [e4]; exact hmg _ _ (c2 _ (mem h))
  · rcases c3 with c3 | c3
    · rw [h] at c3; cases c3
    · rw [e4]; exact hmg _ _ c3
  · have hh := c4 _ (mem h)
    split at hh
    · rename_i u d h1 h2
      obtain ⟨v, rv, rep⟩ := repC_ok hh
      exact ⟨u, v, d, by rw [e4]; exact hmg _ _ h1, rv, h2, fun F A => rep _ F A⟩
    · cases hh
  · obtain ⟨yd, h1, h2⟩ := ht y i h
    exact ⟨yd, by rw [e4]; exact hmg _ _ h1, by rw [e2]; exact h2⟩
  · obtain ⟨h1, h2⟩ := c5 _ (mem h)
    exact ⟨clsC_ok h1, h2⟩
  · obtain ⟨⟨h1, h2⟩, h3⟩ := c6 _ (mem h)
    obtain ⟨p, hp⟩ := propC_ok h2
    exact ⟨p, clsC_ok h1, hp, fnAt hF h3 e1 e2 e3 e4 e5⟩
  · obtain ⟨⟨h1, h2⟩, h3⟩ := c7 _ (mem h)
    exact ⟨clsC_ok h1, methC_ok h2, fnAt hF h3 e1 e2 e3 e4 e5⟩
  · obtain ⟨⟨h1, h2⟩, h3⟩ := c8 _ (mem h)
    exact ⟨by rw [e4]; exact hmg _ _ h1, mkC_ok h2, fnAt hF h3 e1 e2 e3 e4 e5⟩
  · obtain ⟨h1, h2⟩ := c9 _ (mem h)
    split at h2
    · rename_i d hd
      exact ⟨d.ini, by rw [e4]; exact hmg _ _ h1, iniC_ok h2 e3⟩
    · cases h2
  · obtain ⟨⟨⟨⟨h1, h2⟩, h3⟩, h4⟩, h5⟩ := c13 _ (mem h)
    exact ⟨by rw [e4]; exact hmg _ _ h1, by rw [e3]; exact h2, by rw [e3]; exact h3, by rw [e3]; exact h4, by rw [e3]; exact h5⟩
  · exact c14 _ (mem h)
  · have h1 := c10 _ (mem h)
    refine ⟨by rw [e4]; exact hmg _ _ h1, fun c' b hb => ?_⟩
    have hb : P.subs.lookup (c', c) = some b := hb
    rw [e3]
    exact c11 _ (lookup_mem hb)
  · obtain ⟨h1, h2⟩ := c12 _ (mem h)
    rw [e3]
    exact ⟨xfB_ok h1, h2⟩
theorem fns_all (hmg : ∀ x o, PySem.W.nsIn K mainGlobals x = some o → mg x = o) (hc : chkT K P = true) (hd : ∀ d ∈ P.ds, chkFn K P d = true) (ht : ∀ y i, P.T.tabs.contains (y, i) = true → ∃ yd, PySem.W.nsIn K mainGlobals y = some (some (.ref yd)) ∧ TabR (P.q K).g w (P.pg.tab i) yd) :
    ∀ n, FnsOk prog w K mg base P n
  | 0 => fns_zero hd
  | n + 1 => fun f d hf => fn_step hf (hd d (List.mem_of_getElem? hf)) fun X e1 e2 e3 e4 e5 => wrl_of hmg hc ht (fns_all hmg hc hd ht n) X e1 e2 e3 e4 e5

/-- the law's own def, called by the checker's script -/
theorem law_sp {n f : Nat} {H : Hp} {a : Addr} {ns : List Int} {S' : Store} (hq : SqL K H a (ns.map V.int)) (hrun : run P.pg n f [.kl (ns.map D.int)] [] = .ok (.bl true) S') : spC (P.q K) 1 (run P.pg n) f [.ref a] H (fun v _ => v = .bl true) fun _ _ _ => False := by
  refine ⟨rfl, H, [], [], [.kl (ns.map D.int)], ⟨rfl, List.nodup_nil, fun a u h => .inl h, fun n c h => by simp at h⟩, ⟨⟨a, ns.map V.int, rfl, hq, RepL.ints ns⟩, trivial⟩, ?_⟩
  rw [hrun]
  exact fun v F' A' H' s st r => rx_bl r
end
/-- the end of a law: what is left is plain -/
theorem law_end {l : PySem.W.OpenLaw} {n m f0 : Nat} {q : Program} {loose : List Str} {XP : (Str → Option Value) → Heap → Prop} {YP : World → Heap → Prop} {d : DefRec} {K : Params → PySem.W.Frag} {P : Prg} {d0 : FnD} {x : Str}
    (hn : l.most = some n) (hn2 : n ≤ sizeLine) (hdf : d.params.defaults = []) (hr : Room (lv m) callerA) (hY : ∀ (w : World) (h : Heap), YP w h → (K w.params).In h)
    (hd0 : P.ds[f0]? = some d0) (hx : d0.N.take d0.np = [x]) (hnm : ∀ p : Params, PySem.W.nsIn (K p) mainGlobals d.name = some (some (.ref d0.addr)))
    (hT : ∀ p : Params, chkT (K p) P = true) (hD : ∀ p : Params, ∀ d ∈ P.ds, chkFn (K p) P d = true)
    (ht : ∀ (w : World) y i, P.T.tabs.contains (y, i) = true → ∃ yd, PySem.W.nsIn (K w.params) mainGlobals y = some (some (.ref yd)) ∧ TabR (P.q (K w.params)).g w (P.pg.tab i) yd)
    (hlaw : ∀ ns : List Int, ns.length ≤ n → ∃ S', run P.pg m f0 [.kl (ns.map D.int)] [] = .ok (.bl true) S') :
    PySem.W.WalkO q loose XP YP l.row.toRowW d [] (fun f vs => PySem.call f vs) := by
  refine L2.walk_of (l := l) (n := n) (k := lv m) (K := K) (CX := fun w => L2.CX l.prog w) (sp := fun w => spC (P.q (K w.params)) 1 (run P.pg m) f0) (x := x) hn hn2 hdf hr hY (fun w mg fa h KX G hmg => ?_) (fun w H a ns hl _ hS => ?_) (fun w H s e s' hc => ?_)
  · have hfa : fa = d0.addr := by
      have := PySem.W.mg_of KX G (hnm w.params)
      rw [hmg] at this
      cases this; rfl
    subst hfa
    have key : ∀ base : Heap, (K w.params).In base → base.Ns mainGlobals mg → FnsOk l.prog w (K w.params) mg base P m := fun base KB GB =>
      fns_all (fun x o e => by
        cases o with
        | none => exact PySem.W.mg_none_of KB GB e
        | some v => exact PySem.W.mg_of KB GB e) (hT w.params) (hD w.params) (ht w) m
    have hc := hD w.params d0 (List.mem_of_getElem? hd0)
    unfold chkFn at hc
    split at hc
    · rename_i fd hfd
      split at hc
      · rename_i body hb
        simp only [Bool.and_eq_true] at hc
        obtain ⟨⟨⟨h1, h2⟩, h3⟩, h4⟩ := hc
        obtain ⟨S, hl⟩ := scopeC_ok h3
        have hnp : d0.np = 1 := by rw [← hl, hx]; rfl
        refine ⟨fd, fun s u => ?_, fun base KB GB => ?_⟩
        · have nd : (d0.N.take d0.np).Nodup := S.nd.sublist (List.take_sublist _ _)
          unfold plainP at h2
          simp only [Bool.and_eq_true, decide_eq_true_eq, List.isEmpty_iff, Option.isNone_iff_eq_none] at h2
          obtain ⟨⟨⟨⟨⟨k1, k2⟩, k3⟩, k4⟩, k5⟩, k6⟩ := h2
          have k5' : fd.defaults = .none := by
            split at k5
            · assumption
            · cases k5
          rw [hx] at k6 nd
          exact BindsTo.of_eq (bind_all k1 k2 k3 k4 k5' k6 nd [u] rfl)
        · obtain ⟨fd', hfd', _, F, _⟩ := key base KB GB f0 d0 hd0
          rw [hfd] at hfd'
          cases hfd'
          rw [hx, hnp] at F
          exact F
      · cases hc
    · cases hc
  · obtain ⟨S', hrun⟩ := hlaw ns hl
    exact law_sp hS hrun
  · obtain ⟨_, _, _, _, _, _, _, _, _, _, _, _, z⟩ := hc
    exact z
end G
namespace G
open PySem
def k95b0 : List G.S := [.ret (.and (.isi [.int] (.var 0)) (.not (.isi [.bool] (.var 0))))]
/-- is_whole -/
def k95d0 : FnD := ⟨28, ["value"], 1, k95b0⟩
def k95b1 : List G.S := [.ret (.and (.call 0 [.var 0]) (.chn .le .le (.var 1) (.var 0) (.var 2)))]
/-- is_between -/
def k95d1 : FnD := ⟨35, ["value", "low", "high"], 3, k95b1⟩
def k95b2 : List G.S := [.ret (.and (.isi [.tup] (.var 0)) (.cmp .eq (.bi .len [.var 0]) (.var 1)))]
/-- is_tuple_of -/
def k95d2 : FnD := ⟨42, ["value", "many"], 2, k95b2⟩
def k95b3 : List G.S := [.ret (.call 1 [.var 0, .con (.int 0), .glo 3])]
/-- is_worth -/
def k95d3 : FnD := ⟨49, ["value"], 1, k95b3⟩
def k95b4 : List G.S := [.ret (.and (.call 2 [.var 1, .var 0]) (.bi .all [.lc [2] (.name 2) .over [.var 1] [] (.call 3 [.var 2])]))]
/-- is_row_by -/
def k95d4 : FnD := ⟨54, ["many", "value", "each"], 2, k95b4⟩
def k95b5 : List G.S := [.ife (.or (.not (.isi [.tup] (.var 0))) (.or (.not (.chn .le .le (.con (.int 1)) (.bi .len [.var 0]) (.glo 1))) (.not (.isi [.tup] (.idx (.var 0) (.con (.int 0))))))) [.ret (.con (.bl false))] [], .asg 1 (.bi .len [.idx (.var 0) (.con (.int 0))]), .ret (.and (.chn .le .le (.con (.int 1)) (.var 1) (.glo 2)) (.bi .all [.lc [2] (.name 2) .over [.var 0] [] (.call 4 [.var 1, .var 2])]))]
/-- is_market_by -/
def k95d5 : FnD := ⟨59, ["value", "many", "row"], 1, k95b5⟩
def k95b6 : List G.S := [.ret (.lrg [.bi .len [.idx (.var 0) (.con (.int 0))]])]
/-- things_of -/
def k95d6 : FnD := ⟨66, ["market"], 1, k95b6⟩
def k95b7 : List G.S := [.ret (.lrg [.bi .len [.var 0]])]
/-- buyers_of -/
def k95d7 : FnD := ⟨73, ["market"], 1, k95b7⟩
def k95b8 : List G.S := [.asg 4 (.idx (.var 0) (.var 1)), .ret (.bin .add (.bin .add (.slc (.var 0) [] [.var 1]) (.tup [.bin .add (.bin .add (.slc (.var 4) [] [.var 2]) (.tup [.var 3])) (.slc (.var 4) [.bin .add (.var 2) (.con (.int 1))] [])])) (.slc (.var 0) [.bin .add (.var 1) (.con (.int 1))] []))]
/-- with_worth_by -/
def k95d8 : FnD := ⟨80, ["market", "buyer", "thing", "worth", "row"], 4, k95b8⟩
def k95b9 : List G.S := [.ret (.bin .add (.slc (.var 0) [] [.var 1]) (.slc (.var 0) [.bin .add (.var 1) (.con (.int 1))] []))]
/-- without_buyer_by -/
def k95d9 : FnD := ⟨87, ["market", "buyer"], 2, k95b9⟩
def k95b10 : List G.S := [.ret (.bi .tuple [.lc [2] (.name 2) .over [.var 0] [] (.tup [.star (.var 2), .idx (.var 2) (.var 1)])])]
/-- twice_by -/
def k95d10 : FnD := ⟨92, ["market", "thing", "row"], 2, k95b10⟩
def k95b11 : List G.S := [.ret (.call 1 [.var 1, .con (.int 0), .bin .sub (.bi .len [.idx (.var 0) (.con (.int 0))]) (.con (.int 1))])]
/-- is_thing -/
def k95d11 : FnD := ⟨99, ["market", "value"], 2, k95b11⟩
def k95b12 : List G.S := [.ret (.call 1 [.var 1, .con (.int 0), .bin .sub (.bi .len [.var 0]) (.con (.int 1))])]
/-- is_buyer -/
def k95d12 : FnD := ⟨106, ["market", "value"], 2, k95b12⟩
def k95b13 : List G.S := [.ret (.bin .add (.lst [.con .non]) (.lc [2] (.name 2) .range1 [.var 1] [.cmp .eq (.bin .band (.bin .shr (.var 0) (.var 2)) (.con (.int 1))) (.con (.int 0))] (.var 2)))]
/-- choices -/
def k95d13 : FnD := ⟨111, ["mark", "many", "thing"], 2, k95b13⟩
def k95b14 : List G.S := [.ret (.ite (.cmp .is_ (.var 1) (.con .non)) (.var 0) (.bin .bor (.var 0) (.bin .shl (.con (.int 1)) (.var 1))))]
/-- mark_with -/
def k95d14 : FnD := ⟨118, ["mark", "thing"], 2, k95b14⟩
def k95b15 : List G.S := [.ret (.ite (.cmp .is_ (.var 1) (.con .non)) (.con (.int 0)) (.idx (.var 0) (.var 1)))]
/-- worth_to -/
def k95d15 : FnD := ⟨125, ["row", "thing"], 2, k95b15⟩
def k95b16 : List G.S := [.asg 1 (.call 6 [.var 0]), .asg 2 (.lrg [.bin .shl (.con (.int 1)) (.bi .len [.var 1])]), .own 3 (.lst [.dc [5] (.name 5) .over [.var 2] (.var 5) (.con (.int 0))]), .for_ (.name 4) .over [.rev (.var 0)] [.par2 6 7 false true (.idx (.bor 3) (.con (.int 0))) (.dct0 false), .for_ (.name 5) .over [.var 2] [.asg 8 (.call 13 [.var 5, .bi .len [.var 1]]), .setI 7 (.var 5) (.bi .max1 [.lc [9] (.name 9) .over [.var 8] [] (.bin .add (.call 15 [.var 4, .var 9]) (.idx (.var 6) (.call 14 [.var 5, .var 9])))])], .frz 7, .ins0 3 (.var 7)], .frz 3, .ret (.var 3)]
/-- rest_worths -/
def k95d16 : FnD := ⟨130, ["market", "many", "marks", "found", "row", "mark", "later", "here", "some", "thing"], 1, k95b16⟩
def k95b17 : List G.S := [.ife (.or (.cmp .eq (.bi .len [.var 0]) (.con (.int 0))) (.cmp .eq (.bi .len [.idx (.var 0) (.con (.int 0))]) (.con (.int 0)))) [.ret (.con (.int 0))] [], .ret (.idx (.idx (.call 16 [.var 0]) (.con (.int 0))) (.con (.int 0)))]
/-- best_worth_by -/
def k95d17 : FnD := ⟨137, ["market"], 1, k95b17⟩
def k95b18 : List G.S := [.par2 2 3 false false (.call 16 [.var 0]) (.lst [.tup [.tup [], .con (.int 0)]]), .for_ (.name 1) .over [.call 7 [.var 0]] [.own 4 (.lst []), .for_ (.tup [5, 6]) .over [.var 3] [.for_ (.name 7) .over [.call 13 [.var 6, .bi .len [.idx (.var 0) (.con (.int 0))]]] [.asg 8 (.call 14 [.var 6, .var 7]), .ife (.cmp .eq (.bin .add (.call 15 [.idx (.var 0) (.var 1), .var 7]) (.idx (.idx (.var 2) (.bin .add (.var 1) (.con (.int 1)))) (.var 8))) (.idx (.idx (.var 2) (.var 1)) (.var 6))) [.app 4 (.tup [.tup [.star (.var 5), .var 7], .var 8])] []]], .frz 4, .asg 3 (.var 4)], .ret (.bi .tuple [.lc [5, 9] (.tup [5, 9]) .over [.var 3] [] (.var 5)])]
/-- best_deals_by -/
def k95d18 : FnD := ⟨142, ["market", "buyer", "worths", "found", "longer", "deal", "mark", "thing", "behind", "_"], 1, k95b18⟩
def k95b19 : List G.S := [.ret (.bi .all [.lc [2] (.name 2) .over [.call 18 [.var 0]] [] (.cmp .isn (.idx (.var 2) (.var 1)) (.con .non))])]
/-- is_served_by -/
def k95d19 : FnD := ⟨147, ["market", "buyer", "deal"], 2, k95b19⟩
def k95b20 : List G.S := [.ret (.bin .sub (.call 17 [.call 10 [.var 0, .var 1]]) (.call 17 [.var 0]))]
/-- least_price_by -/
def k95d20 : FnD := ⟨324, ["market", "thing"], 2, k95b20⟩
def k95b21 : List G.S := [.ret (.bi .tuple [.lc [1] (.name 1) .over [.call 6 [.var 0]] [] (.call 20 [.var 0, .var 1])])]
/-- least_prices_by -/
def k95d21 : FnD := ⟨329, ["market", "thing"], 1, k95b21⟩
def k95b22 : List G.S := [.ife (.not (.call 5 [.var 0])) [.rais 2 [.var 0]] []]
/-- check_market -/
def k95d22 : FnD := ⟨336, ["value"], 1, k95b22⟩
def k95b23 : List G.S := [.ife (.not (.call 12 [.var 0, .var 1])) [.rais 4 [.var 1]] []]
/-- check_buyer -/
def k95d23 : FnD := ⟨343, ["market", "value"], 2, k95b23⟩
def k95b24 : List G.S := [.ife (.not (.call 11 [.var 0, .var 1])) [.rais 4 [.var 1]] []]
/-- check_thing -/
def k95d24 : FnD := ⟨350, ["market", "value"], 2, k95b24⟩
def k95b25 : List G.S := [.ife (.not (.call 4 [.bi .len [.idx (.var 0) (.con (.int 0))], .var 1])) [.rais 5 [.var 1]] []]
/-- check_row -/
def k95d25 : FnD := ⟨357, ["market", "value"], 2, k95b25⟩
def k95b26 : List G.S := [.ife (.not (.call 1 [.var 0, .var 1, .var 2])) [.rais 6 [.var 0]] []]
/-- check_number -/
def k95d26 : FnD := ⟨364, ["value", "low", "high"], 3, k95b26⟩
def k95b27 : List G.S := [.ex (.call 22 [.var 0]), .ex (.call 23 [.var 0, .var 1]), .ex (.call 24 [.var 0, .var 2]), .ex (.call 26 [.var 3, .con (.int 0), .glo 3]), .ret (.call 8 [.var 0, .var 1, .var 2, .var 3])]
/-- with_worth -/
def k95d27 : FnD := ⟨371, ["market", "buyer", "thing", "number"], 4, k95b27⟩
def k95b28 : List G.S := [.ex (.call 22 [.var 0]), .ex (.call 25 [.var 0, .var 1]), .ife (.cmp .eq (.bi .len [.var 0]) (.glo 1)) [.rais 9 []] [], .ret (.tup [.star (.var 0), .var 1])]
/-- with_buyer -/
def k95d28 : FnD := ⟨378, ["market", "row"], 2, k95b28⟩
def k95b29 : List G.S := [.ex (.call 22 [.var 0]), .ex (.call 23 [.var 0, .var 1]), .ife (.cmp .eq (.bi .len [.var 0]) (.con (.int 1))) [.rais 3 [.var 1]] [], .ret (.call 9 [.var 0, .var 1])]
/-- without_buyer -/
def k95d29 : FnD := ⟨385, ["market", "buyer"], 2, k95b29⟩
def k95b30 : List G.S := [.ife (.or (.not (.isi [.tup] (.var 1))) (.or (.cmp .eq (.var 1) (.tup [])) (.or (.not (.isi [.str] (.idx (.var 1) (.con (.int 0))))) (.kin true 0 (.idx (.var 1) (.con (.int 0))))))) [.ret (.con (.bl false))] [], .ife (.cmp .ne (.bi .len [.var 1]) (.kidx 0 (.idx (.var 1) (.con (.int 0))))) [.ret (.con (.bl false))] [], .ife (.cmp .eq (.idx (.var 1) (.con (.int 0))) (.glo 6)) [.ret (.call 12 [.var 0, .idx (.var 1) (.con (.int 1))])] [], .ret (.and (.call 1 [.idx (.var 1) (.neg (.con (.int 1))), .con (.int 0), .glo 7]) (.or (.cmp .eq (.idx (.var 1) (.con (.int 0))) (.glo 4)) (.call 11 [.var 0, .idx (.var 1) (.con (.int 1))])))]
/-- is_wish -/
def k95d30 : FnD := ⟨393, ["market", "value"], 2, k95b30⟩
def k95b31 : List G.S := [.ife (.cmp .eq (.idx (.var 1) (.con (.int 0))) (.glo 4)) [.ret (.cmp .ge (.call 17 [.var 0]) (.idx (.var 1) (.con (.int 1))))] [], .ife (.cmp .eq (.idx (.var 1) (.con (.int 0))) (.glo 5)) [.ret (.cmp .le (.call 20 [.var 0, .idx (.var 1) (.con (.int 1))]) (.idx (.var 1) (.con (.int 2))))] [], .ret (.and (.call 12 [.var 0, .idx (.var 1) (.con (.int 1))]) (.call 19 [.var 0, .idx (.var 1) (.con (.int 1))]))]
/-- holds_wish -/
def k95d31 : FnD := ⟨400, ["market", "wish"], 2, k95b31⟩
def k95b32 : List G.S := [.ret (.slc (.lc [2, 3] (.tup [2, 3]) .enum [.var 1] [.not (.call 31 [.var 0, .var 3])] (.var 2)) [] [.con (.int 1)])]
/-- first_broken -/
def k95d32 : FnD := ⟨405, ["market", "wishes", "index", "wish"], 2, k95b32⟩
def k95b33 : List G.S := [.ex (.call 22 [.var 1]), .setF 0 "past" (.var 0) (.tup [.tup [.var 1, .tup []]])]
/-- Site.__init__ -/
def k95d33 : FnD := ⟨419, ["self", "market"], 2, k95b33⟩
def k95b34 : List G.S := [.ret (.idx (.idx (.fld 0 "past" (.var 0)) (.neg (.con (.int 1)))) (.con (.int 0)))]
/-- Site.market -/
def k95d34 : FnD := ⟨426, ["self"], 1, k95b34⟩
def k95b35 : List G.S := [.ret (.idx (.idx (.fld 0 "past" (.var 0)) (.neg (.con (.int 1)))) (.con (.int 1)))]
/-- Site.wishes -/
def k95d35 : FnD := ⟨434, ["self"], 1, k95b35⟩
def k95b36 : List G.S := [.for_ (.name 3) .over [.call 32 [.var 1, .var 2]] [.rais 8 [.var 3]], .setF 0 "past" (.var 0) (.tup [.star (.fld 0 "past" (.var 0)), .tup [.var 1, .var 2]])]
/-- Site.keep -/
def k95d36 : FnD := ⟨442, ["self", "market", "wishes", "index"], 3, k95b36⟩
def k95b37 : List G.S := [.ex (.meth 0 "keep" 36 (.var 0) [.call 27 [.prop 0 34 (.var 0), .var 1, .var 2, .var 3], .prop 0 35 (.var 0)])]
/-- Site.put -/
def k95d37 : FnD := ⟨449, ["self", "buyer", "thing", "number"], 4, k95b37⟩
def k95b38 : List G.S := [.ex (.meth 0 "keep" 36 (.var 0) [.call 28 [.prop 0 34 (.var 0), .var 1], .prop 0 35 (.var 0)])]
/-- Site.come -/
def k95d38 : FnD := ⟨456, ["self", "row"], 2, k95b38⟩
def k95b39 : List G.S := [.ex (.meth 0 "keep" 36 (.var 0) [.call 29 [.prop 0 34 (.var 0), .var 1], .prop 0 35 (.var 0)])]
/-- Site.go -/
def k95d39 : FnD := ⟨463, ["self", "buyer"], 2, k95b39⟩
def k95b40 : List G.S := [.ife (.not (.call 30 [.prop 0 34 (.var 0), .var 1])) [.rais 7 [.var 1]] [], .ex (.meth 0 "keep" 36 (.var 0) [.prop 0 34 (.var 0), .tup [.star (.prop 0 35 (.var 0)), .var 1]])]
/-- Site.wish -/
def k95d40 : FnD := ⟨470, ["self", "wish"], 2, k95b40⟩
def k95b41 : List G.S := [.ex (.call 26 [.var 1, .con (.int 0), .bin .sub (.bi .len [.prop 0 35 (.var 0)]) (.con (.int 1))]), .ex (.meth 0 "keep" 36 (.var 0) [.prop 0 34 (.var 0), .bin .add (.slc (.prop 0 35 (.var 0)) [] [.var 1]) (.slc (.prop 0 35 (.var 0)) [.bin .add (.var 1) (.con (.int 1))] [])])]
/-- Site.lift -/
def k95d41 : FnD := ⟨477, ["self", "number"], 2, k95b41⟩
def k95b42 : List G.S := [.ife (.cmp .eq (.bi .len [.fld 0 "past" (.var 0)]) (.con (.int 1))) [.rais 10 []] [], .setF 0 "past" (.var 0) (.slc (.fld 0 "past" (.var 0)) [] [.neg (.con (.int 1))])]
/-- Site.undo -/
def k95d42 : FnD := ⟨484, ["self"], 1, k95b42⟩
def k95b43 : List G.S := [.ex (.call 22 [.var 0]), .ret (.call 17 [.var 0])]
/-- best_worth -/
def k95d43 : FnD := ⟨512, ["market"], 1, k95b43⟩
def k95b44 : List G.S := [.ex (.call 22 [.var 0]), .ex (.call 23 [.var 0, .var 1]), .ret (.call 19 [.var 0, .var 1])]
/-- is_served -/
def k95d44 : FnD := ⟨519, ["market", "buyer"], 2, k95b44⟩
def k95b45 : List G.S := [.ex (.call 22 [.var 0]), .ret (.call 21 [.var 0])]
/-- least_prices -/
def k95d45 : FnD := ⟨526, ["market"], 1, k95b45⟩
def k95b46 : List G.S := [.asg 2 (.ite (.cmp .lt (.var 1) (.bi .len [.var 0])) (.bi .int [.idx (.var 0) (.var 1)]) (.bin .add (.bin .mul (.con (.int 15277)) (.var 1)) (.con (.int 59523)))), .asg 3 (.bin .add (.con (.int 3451434)) (.bin .mul (.con (.int 7919)) (.var 1))), .for_ (.name 4) .over [.slc (.var 0) [] [.con (.int 63)]] [.asg 3 (.bin .mod (.bi .int [.bin .add (.bin .add (.bin .mul (.var 3) (.con (.int 48271))) (.bin .mod (.bi .int [.var 4]) (.con (.int 2147483629)))) (.con (.int 11))]) (.con (.int 2147483647)))], .asg 3 (.bin .mod (.bi .int [.bin .add (.bin .add (.bin .mul (.var 3) (.con (.int 69621))) (.bin .mul (.bin .mod (.bi .int [.var 2]) (.con (.int 2147483629))) (.con (.int 16807)))) (.con (.int 7))]) (.con (.int 2147483647))), .ret (.cell (.lst [.ite (.or (.cmp .lt (.var 2) (.con (.int 0))) (.cmp .ge (.var 2) (.bin .pow (.con (.int 10)) (.con (.int 18))))) (.bi .abs [.var 2]) (.con (.int 0)), .var 3, .con (.int 0)]))]
/-- _law_pool -/
def k95d46 : FnD := ⟨533, ["script", "lap", "cell", "stirred", "each"], 2, k95b46⟩
def k95b47 : List G.S := [.asg 4 (.idx (.tup [.con (.int 4), .con (.int 8), .con (.int 100), .con (.int 3), .con (.int 12)]) (.var 3)), .own 5 (.lc [6] (.name 6) .range1 [.var 1] [] (.bi .tuple [.lc [7] (.name 7) .range1 [.var 2] [] (.bin .mul (.call 53 [.var 0, .var 4]) (.bi .int [.or (.cmp .ne (.var 3) (.con (.int 3))) (.cmp .eq (.call 53 [.var 0, .con (.int 2)]) (.con (.int 0)))]))])), .ife (.and (.cmp .eq (.var 3) (.con (.int 4))) (.cmp .gt (.var 1) (.con (.int 1)))) [.setI 5 (.neg (.con (.int 1))) (.idx (.bor 5) (.con (.int 0)))] [], .ret (.bi .tuple [.bor 5])]
/-- _law_market -/
def k95d47 : FnD := ⟨538, ["pool", "buyers", "things", "way", "top", "rows", "buyer", "thing"], 4, k95b47⟩
def k95b48 : List G.S := [.asgT [4, 5] (.var 1), .par3 6 7 8 (.bi .len [.var 4]) (.bi .len [.idx (.var 4) (.con (.int 0))]) (.call 53 [.var 0, .con (.int 10)]), .par2 9 10 false false (.call 53 [.var 0, .var 6]) (.call 53 [.var 0, .var 7]), .ife (.cmp .lt (.var 8) (.con (.int 4))) [.ret (.tup [.con (.str "put"), .var 9, .var 10, .call 54 [.var 0, .tup [.con (.int 0), .bi .min2 [.con (.int 99), .bin .add (.idx (.idx (.var 4) (.var 9)) (.var 10)) (.con (.int 1))], .call 53 [.var 0, .con (.int 9)], .con (.int 99)]]])] [], .ife (.cmp .eq (.var 8) (.con (.int 4))) [.ret (.tup [.con (.str "come"), .bi .tuple [.lc [11] (.name 11) .range1 [.var 7] [] (.call 53 [.var 0, .con (.int 9)])]])] [], .ife (.cmp .eq (.var 8) (.con (.int 5))) [.ret (.tup [.con (.str "go"), .var 9])] [], .ife (.and (.cmp .eq (.var 8) (.con (.int 6))) (.cmp .ne (.var 5) (.tup []))) [.ret (.tup [.con (.str "lift"), .call 53 [.var 0, .bi .len [.var 5]]])] [], .asg 2 (.call 51 [.var 4]), .asg 3 (.lst [.tup [.con (.str "worth"), .var 2], .tup [.con (.str "worth"), .bi .max2 [.con (.int 0), .bin .sub (.var 2) (.con (.int 2))]], .tup [.con (.str "worth"), .bin .add (.var 2) (.con (.int 1))], .tup [.con (.str "price"), .var 10, .bin .add (.idx (.call 52 [.var 4]) (.var 10)) (.call 53 [.var 0, .con (.int 3)])]]), .ret (.tup [.con (.str "wish"), .call 54 [.var 0, .bin .add (.var 3) (.lst [.tup [.con (.str "price"), .var 10, .call 53 [.var 0, .con (.int 4)]], .tup [.con (.str "served"), .var 9]])]])]
/-- _law_deed -/
def k95d48 : FnD := ⟨543, ["pool", "state", "whole", "found", "market", "wishes", "buyers", "things", "way", "buyer", "thing", "each"], 2, k95b48⟩
def k95b49 : List G.S := [.try_ [.ife (.cmp .eq (.idx (.var 1) (.con (.int 0))) (.con (.str "put"))) [.asg 4 (.ite (.var 2) (.methK 0 "put" 37 (.var 0) [.idx (.var 1) (.con (.int 3)), .idx (.var 1) (.con (.int 2)), .idx (.var 1) (.con (.int 1))] ["number", "thing", "buyer"] [2, 1, 0]) (.meth 0 "put" 37 (.var 0) [.idx (.var 1) (.con (.int 1)), .idx (.var 1) (.con (.int 2)), .idx (.var 1) (.con (.int 3))]))] [.ife (.cmp .eq (.idx (.var 1) (.con (.int 0))) (.con (.str "come"))) [.asg 4 (.ite (.var 2) (.methK 0 "come" 38 (.var 0) [.idx (.var 1) (.con (.int 1))] ["row"] [0]) (.meth 0 "come" 38 (.var 0) [.idx (.var 1) (.con (.int 1))]))] [.ife (.cmp .eq (.idx (.var 1) (.con (.int 0))) (.con (.str "go"))) [.asg 4 (.ite (.var 2) (.methK 0 "go" 39 (.var 0) [.idx (.var 1) (.con (.int 1))] ["buyer"] [0]) (.meth 0 "go" 39 (.var 0) [.idx (.var 1) (.con (.int 1))]))] [.ife (.cmp .eq (.idx (.var 1) (.con (.int 0))) (.con (.str "wish"))) [.asg 4 (.ite (.var 2) (.methK 0 "wish" 40 (.var 0) [.idx (.var 1) (.con (.int 1))] ["wish"] [0]) (.meth 0 "wish" 40 (.var 0) [.idx (.var 1) (.con (.int 1))]))] [.ife (.cmp .eq (.idx (.var 1) (.con (.int 0))) (.con (.str "lift"))) [.asg 4 (.ite (.var 2) (.methK 0 "lift" 41 (.var 0) [.idx (.var 1) (.con (.int 1))] ["number"] [0]) (.meth 0 "lift" 41 (.var 0) [.idx (.var 1) (.con (.int 1))]))] [.asg 4 (.meth 0 "undo" 42 (.var 0) [])]]]]], .ret (.ite (.cmp .is_ (.var 4) (.con .non)) (.con .non) (.tup [.con (.str "value"), .var 4]))] [(4, some 3, [.con (.str "index"), .fld]), (6, some 3, [.con (.str "number"), .fld]), (5, some 3, [.con (.str "row"), .fld]), (7, some 3, [.con (.str "wish"), .fld]), (8, some 3, [.con (.str "broken"), .fld]), (3, some 3, [.con (.str "now"), .fld]), (9, none, [.con (.str "many"), .con .non]), (10, none, [.con (.str "nothing"), .con .non]), (1, none, [.con (.str "other"), .con .non])]]
/-- _law_play -/
def k95d49 : FnD := ⟨550, ["site", "deed", "is_named", "e", "told"], 3, k95b49⟩
def k95b50 : List G.S := [.ife (.cmp .is_ (.var 1) (.con .non)) [.ret (.cmp .is_ (.var 0) (.con .non))] [], .ife (.isi [.bool] (.var 1)) [.ret (.and (.isi [.bool] (.var 0)) (.cmp .eq (.var 0) (.var 1)))] [], .ife (.isi [.int] (.var 1)) [.ret (.and (.isi [.int] (.var 0)) (.and (.not (.isi [.bool] (.var 0))) (.cmp .eq (.var 0) (.var 1))))] [], .ife (.isi [.str] (.var 1)) [.ret (.and (.isi [.str] (.var 0)) (.cmp .eq (.var 0) (.var 1)))] [], .ife (.isi [.dct] (.var 1)) [.ife (.or (.not (.isi [.dct] (.var 0))) (.cmp .ne (.bi .len [.var 0]) (.bi .len [.var 1]))) [.ret (.con (.bl false))] [], .ret (.bi .all [.lc [2] (.name 2) .over [.var 1] [] (.and (.cmp .in_ (.var 2) (.var 0)) (.call 50 [.idx (.var 0) (.var 2), .idx (.var 1) (.var 2)]))])] [], .ife (.or (.cmp .ne (.isi [.tup] (.var 1)) (.isi [.tup] (.var 0))) (.cmp .ne (.isi [.lst] (.var 1)) (.isi [.lst] (.var 0)))) [.ret (.con (.bl false))] [], .ret (.and (.cmp .eq (.bi .len [.var 0]) (.bi .len [.var 1])) (.bi .all [.lc [3, 4] (.tup [3, 4]) .zip [.var 0, .var 1] [] (.call 50 [.var 3, .var 4])]))]
/-- _law_alike -/
def k95d50 : FnD := ⟨555, ["told", "due", "key", "x", "y"], 2, k95b50⟩
def k95b51 : List G.S := [.own 1 (.dct0 true), .setI 1 (.tup []) (.con (.int 0)), .frz 1, .for_ (.name 2) .over [.var 0] [.own 3 (.dct0 true), .for_ (.name 4) .keys [.var 1] [.setI 3 (.var 4) (.bi .max2 [.idx (.var 1) (.var 4), .mth .get2 (.bor 3) [.var 4, .con (.int 0)]]), .for_ (.tup [5, 6]) .enum [.var 2] [.ife (.cmp .nin (.var 5) (.var 4)) [.asg 7 (.bi .tuple [.bi .sorted [.bin .add (.var 4) (.tup [.var 5])]]), .setI 3 (.var 7) (.bi .max2 [.bin .add (.idx (.var 1) (.var 4)) (.var 6), .mth .get2 (.bor 3) [.var 7, .con (.int 0)]])] []]], .frz 3, .asg 1 (.var 3)], .ret (.bi .max1 [.lc [4] (.name 4) .keys [.var 1] [] (.idx (.var 1) (.var 4))])]
/-- _law_most -/
def k95d51 : FnD := ⟨560, ["rows", "states", "row", "more", "taken", "thing", "value", "fresh"], 1, k95b51⟩
def k95b52 : List G.S := [.asg 1 (.call 51 [.var 0]), .ret (.bi .tuple [.lc [2] (.name 2) .range1 [.bi .len [.idx (.var 0) (.con (.int 0))]] [] (.bin .sub (.call 51 [.lc [3] (.name 3) .over [.var 0] [] (.bin .add (.var 3) (.tup [.idx (.var 3) (.var 2)]))]) (.var 1))])]
/-- _law_least -/
def k95d52 : FnD := ⟨565, ["market", "whole", "thing", "row"], 1, k95b52⟩
def k95b53 : List G.S := [.ife (.cmp .gt (.idx (.var 0) (.con (.int 0))) (.con (.int 0))) [.asg 3 (.bin .mod (.bi .int [.idx (.var 0) (.con (.int 0))]) (.var 1)), .setC (.var 0) (.con (.int 0)) (.bin .fdiv (.idx (.var 0) (.con (.int 0))) (.var 1)), .ret (.var 3)] [], .setC (.var 0) (.con (.int 2)) (.bin .add (.idx (.var 0) (.con (.int 2))) (.con (.int 1))), .asg 2 (.bin .mod (.bi .int [.bin .add (.bin .add (.bin .mul (.idx (.var 0) (.con (.int 1))) (.con (.int 235527))) (.bin .mul (.idx (.var 0) (.con (.int 2))) (.con (.int 228093)))) (.con (.int 5))]) (.con (.int 2147483647))), .setC (.var 0) (.con (.int 1)) (.bin .mod (.bi .int [.bin .add (.bin .mul (.var 2) (.bin .add (.bin .mod (.bi .int [.var 2]) (.con (.int 4093))) (.con (.int 817647)))) (.idx (.var 0) (.con (.int 2)))]) (.con (.int 2147483563))), .ret (.bin .mod (.bi .int [.bin .fdiv (.idx (.var 0) (.con (.int 1))) (.con (.int 61))]) (.var 1))]
/-- _law_below -/
def k95d53 : FnD := ⟨572, ["pool", "many", "mixed", "figure"], 2, k95b53⟩
def k95b54 : List G.S := [.ret (.idx (.var 1) (.call 53 [.var 0, .bi .len [.var 1]]))]
/-- _law_one -/
def k95d54 : FnD := ⟨579, ["pool", "some"], 2, k95b54⟩
def k95b55 : List G.S := [.ife (.cmp .eq (.idx (.var 1) (.con (.int 0))) (.con (.str "worth"))) [.ret (.cmp .ge (.call 43 [.var 0]) (.idx (.var 1) (.con (.int 1))))] [], .ife (.cmp .eq (.idx (.var 1) (.con (.int 0))) (.con (.str "price"))) [.ret (.cmp .le (.idx (.call 45 [.var 0]) (.idx (.var 1) (.con (.int 1)))) (.idx (.var 1) (.con (.int 2))))] [], .ret (.and (.cmp .lt (.idx (.var 1) (.con (.int 1))) (.bi .len [.var 0])) (.call 44 [.var 0, .idx (.var 1) (.con (.int 1))]))]
/-- _law_stands -/
def k95d55 : FnD := ⟨586, ["market", "wish"], 2, k95b55⟩
def k95b56 : List G.S := [.ife (.cmp .eq (.idx (.var 1) (.con (.int 0))) (.con (.str "put"))) [.ret (.call 27 [.var 0, .idx (.var 1) (.con (.int 1)), .idx (.var 1) (.con (.int 2)), .idx (.var 1) (.con (.int 3))])] [], .ret (.ite (.cmp .eq (.idx (.var 1) (.con (.int 0))) (.con (.str "come"))) (.call 28 [.var 0, .idx (.var 1) (.con (.int 1))]) (.call 29 [.var 0, .idx (.var 1) (.con (.int 1))]))]
/-- _law_made -/
def k95d56 : FnD := ⟨593, ["market", "deed"], 2, k95b56⟩
def k95b57 : List G.S := [.for_ (.name 1) .range1 [.con (.int 4)] [.asg 2 (.call 47 [.var 0, .bin .add (.con (.int 1)) (.call 53 [.var 0, .con (.int 3)]), .bin .add (.con (.int 1)) (.call 53 [.var 0, .con (.int 3)]), .idx (.tup [.con (.int 0), .con (.int 1), .con (.int 4), .con (.int 3)]) (.var 1)]), .asg 3 (.new 0 33 [.var 2]), .for_ (.name 4) .range1 [.con (.int 12)] [.par2 2 7 false false (.prop 0 34 (.var 3)) (.prop 0 35 (.var 3)), .asg 5 (.call 48 [.var 0, .tup [.var 2, .var 7]]), .ife (.or (.and (.cmp .eq (.idx (.var 5) (.con (.int 0))) (.con (.str "go"))) (.cmp .eq (.bi .len [.var 2]) (.con (.int 1)))) (.and (.cmp .eq (.idx (.var 5) (.con (.int 0))) (.con (.str "come"))) (.cmp .eq (.bi .len [.var 2]) (.con (.int 5))))) [.asg 5 (.tup [.con (.str "put"), .con (.int 0), .con (.int 0), .var 4])] [], .asg 6 (.call 49 [.var 3, .var 5, .con (.bl false)]), .ife (.cmp .in_ (.idx (.var 5) (.con (.int 0))) (.tup [.con (.str "wish"), .con (.str "lift")])) [.asg 8 (.ite (.or (.cmp .eq (.idx (.var 5) (.con (.int 0))) (.con (.str "lift"))) (.call 55 [.var 2, .idx (.var 5) (.con (.int 1))])) (.con .non) (.tup [.con (.str "broken"), .bi .len [.var 7]]))] [.asg 9 (.call 56 [.var 2, .var 5]), .asg 10 (.lc [11, 12] (.tup [11, 12]) .enum [.var 7] [.not (.call 55 [.var 9, .var 12])] (.var 11)), .asg 8 (.ite (.cmp .ne (.var 10) (.lst [])) (.tup [.con (.str "broken"), .idx (.var 10) (.con (.int 0))]) (.con .non)), .ife (.and (.cmp .is_ (.var 8) (.con .non)) (.cmp .ne (.prop 0 34 (.var 3)) (.var 9))) [.ret (.con (.bl false))] []], .ife (.or (.not (.call 50 [.var 6, .var 8])) (.not (.bi .all [.lc [12] (.name 12) .over [.prop 0 35 (.var 3)] [] (.call 55 [.prop 0 34 (.var 3), .var 12])]))) [.ret (.con (.bl false))] [], .ife (.and (.cmp .isn (.var 8) (.con .non)) (.not (.call 50 [.tup [.prop 0 34 (.var 3), .prop 0 35 (.var 3)], .tup [.var 2, .var 7]]))) [.ret (.con (.bl false))] [], .ife (.and (.cmp .is_ (.var 8) (.con .non)) (.and (.cmp .eq (.call 53 [.var 0, .con (.int 3)]) (.con (.int 0))) (.or (.cmp .isn (.call 49 [.var 3, .tup [.con (.str "undo")], .con (.bl false)]) (.con .non)) (.not (.call 50 [.tup [.prop 0 34 (.var 3), .prop 0 35 (.var 3)], .tup [.var 2, .var 7]]))))) [.ret (.con (.bl false))] []]], .ret (.con (.bl true))]
/-- _law_right -/
def k95d57 : FnD := ⟨598, ["pool", "lap", "market", "site", "turn", "deed", "told", "wishes", "due", "fresh", "broken", "at", "wish"], 1, k95b57⟩
def k95b58 : List G.S := [.ret (.bi .all [.lc [1] (.name 1) .range1 [.bi .max2 [.con (.int 1), .bi .min2 [.bi .len [.var 0], .con (.int 2)]]] [] (.call 57 [.call 46 [.var 0, .var 1]])])]
/-- law -/
def k95d58 : FnD := ⟨603, ["script", "lap"], 1, k95b58⟩
def k95T : Tb where
  fns := [(("_law_alike" : Str), 50), (("_law_below" : Str), 53), (("_law_deed" : Str), 48), (("_law_least" : Str), 52), (("_law_made" : Str), 56), (("_law_market" : Str), 47), (("_law_most" : Str), 51), (("_law_one" : Str), 54), (("_law_play" : Str), 49), (("_law_pool" : Str), 46), (("_law_right" : Str), 57), (("_law_stands" : Str), 55), (("best_deals_by" : Str), 18), (("best_worth" : Str), 43), (("best_worth_by" : Str), 17), (("buyers_of" : Str), 7), (("check_buyer" : Str), 23), (("check_market" : Str), 22), (("check_number" : Str), 26), (("check_row" : Str), 25), (("check_thing" : Str), 24), (("choices" : Str), 13), (("first_broken" : Str), 32), (("holds_wish" : Str), 31), (("is_between" : Str), 1), (("is_buyer" : Str), 12), (("is_market_by" : Str), 5), (("is_row_by" : Str), 4), (("is_served" : Str), 44), (("is_served_by" : Str), 19), (("is_thing" : Str), 11), (("is_tuple_of" : Str), 2), (("is_whole" : Str), 0), (("is_wish" : Str), 30), (("is_worth" : Str), 3), (("least_price_by" : Str), 20), (("least_prices" : Str), 45), (("least_prices_by" : Str), 21), (("mark_with" : Str), 14), (("rest_worths" : Str), 16), (("things_of" : Str), 6), (("twice_by" : Str), 10), (("with_buyer" : Str), 28), (("with_worth" : Str), 27), (("with_worth_by" : Str), 8), (("without_buyer" : Str), 29), (("without_buyer_by" : Str), 9), (("worth_to" : Str), 15)]
  np := fun f => ([1, 3, 2, 1, 2, 1, 1, 1, 4, 2, 2, 2, 2, 2, 2, 2, 1, 1, 1, 2, 2, 1, 1, 2, 2, 2, 3, 4, 2, 2, 2, 2, 2, 2, 1, 1, 3, 4, 2, 2, 2, 2, 1, 1, 2, 1, 2, 4, 2, 3, 2, 1, 1, 2, 2, 2, 2, 1, 1] : List Nat).getD f 0
  bns := [("abs" : Str), ("all" : Str), ("bool" : Str), ("dict" : Str), ("enumerate" : Str), ("int" : Str), ("isinstance" : Str), ("len" : Str), ("list" : Str), ("max" : Str), ("min" : Str), ("range" : Str), ("sorted" : Str), ("str" : Str), ("tuple" : Str), ("zip" : Str)]
  gcd := false
  glos := [(("MOST_BUYERS" : Str), 1), (("MOST_THINGS" : Str), 2), (("MOST_WISHED" : Str), 7), (("MOST_WORTH" : Str), 3), (("PRICE" : Str), 5), (("SERVED" : Str), 6), (("WORTH" : Str), 4)]
  tabs := [(("SIZES" : Str), 0)]
  flds := [(0, "past")]
  props := [(0, "market", 34), (0, "wishes", 35)]
  meths := [(0, "come", 38), (0, "go", 39), (0, "keep", 36), (0, "lift", 41), (0, "put", 37), (0, "undo", 42), (0, "wish", 40)]
  makes := [(("Site" : Str), 0, 33)]
  raises := [(("Broken" : Str), 8), (("InvalidIndex" : Str), 4), (("InvalidNumber" : Str), 6), (("InvalidRow" : Str), 5), (("InvalidWish" : Str), 7), (("NotAMarket" : Str), 2), (("NotNow" : Str), 3)]
  raises0 := [(("NothingToUndo" : Str), 10), (("TooMany" : Str), 9)]
  kws := [37, 38, 39, 40, 41]
  pn := fun f => ([[("value" : Str)], [("value" : Str), ("low" : Str), ("high" : Str)], [("value" : Str), ("many" : Str)], [("value" : Str)], [("many" : Str), ("value" : Str)], [("value" : Str)], [("market" : Str)], [("market" : Str)], [("market" : Str), ("buyer" : Str), ("thing" : Str), ("worth" : Str)], [("market" : Str), ("buyer" : Str)], [("market" : Str), ("thing" : Str)], [("market" : Str), ("value" : Str)], [("market" : Str), ("value" : Str)], [("mark" : Str), ("many" : Str)], [("mark" : Str), ("thing" : Str)], [("row" : Str), ("thing" : Str)], [("market" : Str)], [("market" : Str)], [("market" : Str)], [("market" : Str), ("buyer" : Str)], [("market" : Str), ("thing" : Str)], [("market" : Str)], [("value" : Str)], [("market" : Str), ("value" : Str)], [("market" : Str), ("value" : Str)], [("market" : Str), ("value" : Str)], [("value" : Str), ("low" : Str), ("high" : Str)], [("market" : Str), ("buyer" : Str), ("thing" : Str), ("number" : Str)], [("market" : Str), ("row" : Str)], [("market" : Str), ("buyer" : Str)], [("market" : Str), ("value" : Str)], [("market" : Str), ("wish" : Str)], [("market" : Str), ("wishes" : Str)], [("self" : Str), ("market" : Str)], [("self" : Str)], [("self" : Str)], [("self" : Str), ("market" : Str), ("wishes" : Str)], [("self" : Str), ("buyer" : Str), ("thing" : Str), ("number" : Str)], [("self" : Str), ("row" : Str)], [("self" : Str), ("buyer" : Str)], [("self" : Str), ("wish" : Str)], [("self" : Str), ("number" : Str)], [("self" : Str)], [("market" : Str)], [("market" : Str), ("buyer" : Str)], [("market" : Str)], [("script" : Str), ("lap" : Str)], [("pool" : Str), ("buyers" : Str), ("things" : Str), ("way" : Str)], [("pool" : Str), ("state" : Str)], [("site" : Str), ("deed" : Str), ("is_named" : Str)], [("told" : Str), ("due" : Str)], [("rows" : Str)], [("market" : Str)], [("pool" : Str), ("many" : Str)], [("pool" : Str), ("some" : Str)], [("market" : Str), ("wish" : Str)], [("market" : Str), ("deed" : Str)], [("pool" : Str)], [("script" : Str)]] : List (List Str)).getD f []
  names := [(("Broken" : Str), 8), (("FitError" : Str), 1), (("InvalidIndex" : Str), 4), (("InvalidNumber" : Str), 6), (("InvalidRow" : Str), 5), (("InvalidWish" : Str), 7), (("NotNow" : Str), 3), (("NothingToUndo" : Str), 10), (("TooMany" : Str), 9)]
  hfld := [3, 4, 5, 6, 7, 8]
def k95P : Prg where
  ds := [k95d0, k95d1, k95d2, k95d3, k95d4, k95d5, k95d6, k95d7, k95d8, k95d9, k95d10, k95d11, k95d12, k95d13, k95d14, k95d15, k95d16, k95d17, k95d18, k95d19, k95d20, k95d21, k95d22, k95d23, k95d24, k95d25, k95d26, k95d27, k95d28, k95d29, k95d30, k95d31, k95d32, k95d33, k95d34, k95d35, k95d36, k95d37, k95d38, k95d39, k95d40, k95d41, k95d42, k95d43, k95d44, k95d45, k95d46, k95d47, k95d48, k95d49, k95d50, k95d51, k95d52, k95d53, k95d54, k95d55, k95d56, k95d57, k95d58]
  cs := [⟨"Site", 501, "", 419⟩, ⟨"FitError", 157, "", 1000000⟩, ⟨"NotAMarket", 177, "given", 174⟩, ⟨"NotNow", 196, "given", 193⟩, ⟨"InvalidIndex", 215, "given", 212⟩, ⟨"InvalidRow", 234, "given", 231⟩, ⟨"InvalidNumber", 253, "given", 250⟩, ⟨"InvalidWish", 272, "given", 269⟩, ⟨"Broken", 291, "index", 288⟩, ⟨"TooMany", 303, "", 1000000⟩, ⟨"NothingToUndo", 315, "", 1000000⟩]
  glos := [("__name__", .str "law_fitprices_k95_across_sites_and_their_mar"), ("MOST_BUYERS", .int 5), ("MOST_THINGS", .int 5), ("MOST_WORTH", .int 99), ("WORTH", .str "worth"), ("PRICE", .str "price"), ("SERVED", .str "served"), ("MOST_WISHED", .int 999)]
  tabs := [("SIZES", [("worth", .int 2), ("price", .int 3), ("served", .int 2)])]
  subs := [((8, 8), true), ((8, 1), true), ((8, 4), false), ((8, 6), false), ((8, 5), false), ((8, 7), false), ((8, 3), false), ((8, 10), false), ((8, 9), false), ((1, 8), false), ((1, 1), true), ((1, 4), false), ((1, 6), false), ((1, 5), false), ((1, 7), false), ((1, 3), false), ((1, 10), false), ((1, 9), false), ((4, 8), false), ((4, 1), true), ((4, 4), true), ((4, 6), false), ((4, 5), false), ((4, 7), false), ((4, 3), false), ((4, 10), false), ((4, 9), false), ((6, 8), false), ((6, 1), true), ((6, 4), false), ((6, 6), true), ((6, 5), false), ((6, 7), false), ((6, 3), false), ((6, 10), false), ((6, 9), false), ((5, 8), false), ((5, 1), true), ((5, 4), false), ((5, 6), false), ((5, 5), true), ((5, 7), false), ((5, 3), false), ((5, 10), false), ((5, 9), false), ((7, 8), false), ((7, 1), true), ((7, 4), false), ((7, 6), false), ((7, 5), false), ((7, 7), true), ((7, 3), false), ((7, 10), false), ((7, 9), false), ((2, 8), false), ((2, 1), true), ((2, 4), false), ((2, 6), false), ((2, 5), false), ((2, 7), false), ((2, 3), false), ((2, 10), false), ((2, 9), false), ((3, 8), false), ((3, 1), true), ((3, 4), false), ((3, 6), false), ((3, 5), false), ((3, 7), false), ((3, 3), true), ((3, 10), false), ((3, 9), false), ((10, 8), false), ((10, 1), true), ((10, 4), false), ((10, 6), false), ((10, 5), false), ((10, 7), false), ((10, 3), false), ((10, 10), true), ((10, 9), false), ((9, 8), false), ((9, 1), true), ((9, 4), false), ((9, 6), false), ((9, 5), false), ((9, 7), false), ((9, 3), false), ((9, 10), false), ((9, 9), true)]
  T := k95T
end G
set_option maxHeartbeats 400000
namespace G
open PySem
variable {ev : Ev} {ρ : Rho} {S : Store}
@[simp] theorem ob_ok {α β : Type} (a : α) (S : Store) (f : α → Store → Out β) : Out.bind (.ok a S) f = f a S := (rfl)
@[simp] theorem ob_ex {α β : Type} (c d) (S : Store) (f : α → Store → Out β) : Out.bind (.ex c d S) f = .ex c d S := (rfl)
@[simp] theorem ob_no {α β : Type} (f : α → Store → Out β) : Out.bind .no f = .no := (rfl)
@[simp] theorem of_some {α : Type} (a : α) : Out.of (some a) S = .ok a S := (rfl)
@[simp] theorem of_none {α : Type} : Out.of (none : Option α) S = .no := (rfl)
@[simp] theorem ev_var (i) : evalE ev ρ (.var i) S = .of (ρ.val i) S := by simp only [evalE]
@[simp] theorem ev_bor (i) : evalE ev ρ (.bor i) S = .of (ρ.borrow i) S := by simp only [evalE]
@[simp] theorem ev_con (d) : evalE ev ρ (.con d) S = .ok d S := by simp only [evalE]
@[simp] theorem ev_glo (k) : evalE ev ρ (.glo k) S = .of (ev.glo k) S := by simp only [evalE]
@[simp] theorem ev_fnv (k) : evalE ev ρ (.fnv k) S = .ok (.fn k) S := by simp only [evalE]
@[simp] theorem ev_tup (es) : evalE ev ρ (.tup es) S = (evalEs ev ρ es S).bind fun ds S1 => if line ds.length then .ok (.tup ds) S1 else .no := by simp only [evalE]
@[simp] theorem ev_lst (es) : evalE ev ρ (.lst es) S = (evalEs ev ρ es S).bind fun ds S1 => if line ds.length then .ok (.lst ds) S1 else .no := by simp only [evalE]
@[simp] theorem ev_disp (ks es) : evalE ev ρ (.disp ks es) S = (evalEs ev ρ es S).bind fun ds S1 => if dispOk ks ds = true then .ok (.dct false (ks.map .str) ds) S1 else .no := by simp only [evalE]
@[simp] theorem ev_dct0 (t) : evalE ev ρ (.dct0 t) S = .ok (.dct t [] []) S := by simp only [evalE]
@[simp] theorem ev_lrg (es) : evalE ev ρ (.lrg es) S = (evalEs ev ρ es S).bind fun ds S1 => .of (rgl ds) S1 := by simp only [evalE]
@[simp] theorem ev_bin (o a b) : evalE ev ρ (.bin o a b) S = (evalE ev ρ a S).bind fun x S1 => (evalE ev ρ b S1).bind fun y S2 => .of (binop S2 o x y) S2 := by simp only [evalE]
@[simp] theorem ev_neg (a) : evalE ev ρ (.neg a) S = (evalE ev ρ a S).bind fun x S1 => match x with
    | .int i => .ok (.int (-i)) S1
    | _ => .no := by rw [evalE] <;> rfl
@[simp] theorem ev_not (a) : evalE ev ρ (.not a) S = (evalE ev ρ a S).bind fun x S1 => match x with
    | .bl b => .ok (.bl (!b)) S1
    | _ => .no := by rw [evalE] <;> rfl
@[simp] theorem ev_and (a b) : evalE ev ρ (.and a b) S = (evalE ev ρ a S).bind fun x S1 => match x with
    | .bl true => evalE ev ρ b S1
    | .bl false => .ok (.bl false) S1
    | _ => .no := by rw [evalE] <;> rfl
@[simp] theorem ev_or (a b) : evalE ev ρ (.or a b) S = (evalE ev ρ a S).bind fun x S1 => match x with
    | .bl false => evalE ev ρ b S1
    | .bl true => .ok (.bl true) S1
    | _ => .no := by rw [evalE] <;> rfl
@[simp] theorem ev_ite (c a b) : evalE ev ρ (.ite c a b) S = (evalE ev ρ c S).bind fun x S1 => match x with
    | .bl true => evalE ev ρ a S1
    | .bl false => evalE ev ρ b S1
    | _ => .no := by rw [evalE] <;> rfl
@[simp] theorem ev_cmp (o a b) : evalE ev ρ (.cmp o a b) S = (evalE ev ρ a S).bind fun x S1 => (evalE ev ρ b S1).bind fun y S2 => .of ((cmpop S2 o x y).map .bl) S2 := by simp only [evalE]
@[simp] theorem ev_call (f es) : evalE ev ρ (.call f es) S = (evalEs ev ρ es S).bind fun ds S1 => ev.call f ds S1 := by simp only [evalE]
@[simp] theorem ev_bi (b es) : evalE ev ρ (.bi b es) S = (evalEs ev ρ es S).bind fun ds S1 => .of (bfun S1 b ds) S1 := by simp only [evalE]
@[simp] theorem ev_idx (a i) : evalE ev ρ (.idx a i) S = (evalE ev ρ a S).bind fun x S1 => (evalE ev ρ i S1).bind fun y S2 => .of (index S2 x y) S2 := by simp only [evalE]
@[simp] theorem ev_isi (ts a) : evalE ev ρ (.isi ts a) S = (evalE ev ρ a S).bind fun x S1 => .of ((isTys ts x).map .bl) S1 := by simp only [evalE]
@[simp] theorem ev_kin (neg k a) : evalE ev ρ (.kin neg k a) S = (evalE ev ρ a S).bind fun x S1 => match x with
    | .str z => .ok (.bl (if neg = true then !((ev.tab k).lookup z).isSome else ((ev.tab k).lookup z).isSome)) S1
    | _ => .no := by rw [evalE] <;> rfl
@[simp] theorem ev_kidx (k a) : evalE ev ρ (.kidx k a) S = (evalE ev ρ a S).bind fun x S1 => match x with
    | .str z => .of ((ev.tab k).lookup z) S1
    | _ => .no := by rw [evalE] <;> rfl
@[simp] theorem ev_chn (o o' a b c) : evalE ev ρ (.chn o o' a b c) S = (evalE ev ρ a S).bind fun x S1 => (evalE ev ρ b S1).bind fun y S2 => match cmpop S2 o x y with
    | some true => (evalE ev ρ c S2).bind fun z S3 => .of ((cmpop S3 o' y z).map .bl) S3
    | some false => .ok (.bl false) S2
    | none => .no := by rw [evalE] <;> rfl
@[simp] theorem ev_mth (m o es) : evalE ev ρ (.mth m o es) S = (evalE ev ρ o S).bind fun x S1 => match dctOf S1 x with
    | none => .no
    | some _ => (evalEs ev ρ es S1).bind fun ds S2 => .of (metf S2 m x ds) S2 := by rw [evalE] <;> rfl
@[simp] theorem ev_slc (a lo hi) : evalE ev ρ (.slc a lo hi) S = (evalE ev ρ a S).bind fun x S1 => ((evalEs ev ρ lo S1).bind optB).bind fun l S2 => ((evalEs ev ρ hi S2).bind optB).bind fun h S3 => .of (slice S3 x l h) S3 := by rw [evalE]
@[simp] theorem ev_rev (a) : evalE ev ρ (.rev a) S = (evalE ev ρ a S).bind fun x S1 => .of (revD S1 x) S1 := by rw [evalE]
@[simp] theorem ev_fld (c f a) : evalE ev ρ (.fld c f a) S = (evalE ev ρ a S).bind fun x S1 => .of ((objOf S1 c x).bind fun fs => fs.lookup f) S1 := by rw [evalE]
@[simp] theorem ev_prop (c f a) : evalE ev ρ (.prop c f a) S = (evalE ev ρ a S).bind fun x S1 => match objOf S1 c x with
    | some _ => (ev.call f [x] S1).shut
    | none => .no := by rw [evalE] <;> rfl
@[simp] theorem ev_meth (c m f o es) : evalE ev ρ (.meth c m f o es) S = (evalE ev ρ o S).bind fun x S1 => match (objOf S1 c x).bind fun fs => if (fs.lookup m).isSome then none else some () with
    | some _ => (evalEs ev ρ es S1).bind fun ds S2 => ev.call f (x :: ds) S2
    | none => .no := by rw [evalE] <;> rfl
@[simp] theorem ev_new (c f es) : evalE ev ρ (.new c f es) S = (evalEs ev ρ es S).bind fun ds S1 => (ev.call f (.ref S1.length :: ds) (S1 ++ [.obj c []])).bind fun r S2 => match r with
    | .non => .ok (.ref S1.length) S2
    | _ => .no := by rw [evalE] <;> rfl
@[simp] theorem ev_callK (f es ks p) : evalE ev ρ (.callK f es ks p) S = (evalEs ev ρ es S).bind fun ds S1 => if ds.length = ks.length then ev.call f (permD p ds) S1 else .no := by rw [evalE]
@[simp] theorem ev_methK (c m f o es ks p) : evalE ev ρ (.methK c m f o es ks p) S = (evalE ev ρ o S).bind fun x S1 => match (objOf S1 c x).bind fun fs => if (fs.lookup m).isSome then none else some () with
    | some _ => (evalEs ev ρ es S1).bind fun ds S2 => if ds.length = ks.length then ev.call f (x :: permD p ds) S2 else .no
    | none => .no := by rw [evalE] <;> rfl
@[simp] theorem ev_newK (c f es ks p) : evalE ev ρ (.newK c f es ks p) S = (evalEs ev ρ es S).bind fun ds S1 => if ds.length = ks.length then (ev.call f (.ref S1.length :: permD p ds) (S1 ++ [.obj c []])).bind fun r S2 => match r with
    | .non => .ok (.ref S1.length) S2
    | _ => .no else .no := by rw [evalE] <;> rfl
@[simp] theorem permD_nil (ds : List D) : permD [] ds = [] := (rfl)
@[simp] theorem permD_cons (i : Nat) (p : List Nat) (ds : List D) : permD (i :: p) ds = (match ds[i]? with | some d => d :: permD p ds | none => permD p ds) := by
  unfold permD; rw [List.filterMap_cons]; cases ds[i]? <;> rfl
@[simp] theorem ev_cell (e) : evalE ev ρ (.cell e) S = (evalE ev ρ e S).bind fun d S1 => match d with
    | .lst xs => .ok (.ref S1.length) (S1 ++ [.lst xs])
    | .dct t ks vs => .ok (.ref S1.length) (S1 ++ [.dct t ks vs])
    | _ => .no := by rw [evalE] <;> rfl
@[simp] theorem evs_nil : evalEs ev ρ [] S = .ok [] S := by simp only [evalEs]
def isStar : E → Bool
  | .star _ => true
  | _ => false
@[simp] theorem evs_star (e : E) (r : List E) : evalEs ev ρ (.star e :: r) S = (evalE ev ρ e S).bind fun x S1 => match seqs S1 x with
    | none => .no
    | some xs => (evalEs ev ρ r S1).bind fun ys S2 => .ok (xs ++ ys) S2 := by rw [evalEs] <;> rfl
theorem evs_cons {e : E} {r : List E} (h : isStar e = false) : evalEs ev ρ (e :: r) S = (evalE ev ρ e S).bind fun x S1 => (evalEs ev ρ r S1).bind fun ys S2 => .ok (x :: ys) S2 := by
  cases e with
  | star e => exact absurd h (by simp [isStar])
  | _ => rw [evalEs]; intro _ h; cases h
@[simp] theorem evs_c_no {r : List E} : evalEs ev ρ (E.no :: r) S = (evalE ev ρ E.no S).bind fun x S1 => (evalEs ev ρ r S1).bind fun ys S2 => .ok (x :: ys) S2 := evs_cons rfl
@[simp] theorem evs_c_var {r : List E} (i): evalEs ev ρ ((.var i) :: r) S = (evalE ev ρ (.var i) S).bind fun x S1 => (evalEs ev ρ r S1).bind fun ys S2 => .ok (x :: ys) S2 := evs_cons rfl
@[simp] theorem evs_c_bor {r : List E} (i): evalEs ev ρ ((.bor i) :: r) S = (evalE ev ρ (.bor i) S).bind fun x S1 => (evalEs ev ρ r S1).bind fun ys S2 => .ok (x :: ys) S2 := evs_cons rfl
@[simp] theorem evs_c_con {r : List E} (d): evalEs ev ρ ((.con d) :: r) S = (evalE ev ρ (.con d) S).bind fun x S1 => (evalEs ev ρ r S1).bind fun ys S2 => .ok (x :: ys) S2 := evs_cons rfl
@[simp] theorem evs_c_glo {r : List E} (k): evalEs ev ρ ((.glo k) :: r) S = (evalE ev ρ (.glo k) S).bind fun x S1 => (evalEs ev ρ r S1).bind fun ys S2 => .ok (x :: ys) S2 := evs_cons rfl
@[simp] theorem evs_c_fnv {r : List E} (k): evalEs ev ρ ((.fnv k) :: r) S = (evalE ev ρ (.fnv k) S).bind fun x S1 => (evalEs ev ρ r S1).bind fun ys S2 => .ok (x :: ys) S2 := evs_cons rfl
@[simp] theorem evs_c_tup {r : List E} (es): evalEs ev ρ ((.tup es) :: r) S = (evalE ev ρ (.tup es) S).bind fun x S1 => (evalEs ev ρ r S1).bind fun ys S2 => .ok (x :: ys) S2 := evs_cons rfl
@[simp] theorem evs_c_lst {r : List E} (es): evalEs ev ρ ((.lst es) :: r) S = (evalE ev ρ (.lst es) S).bind fun x S1 => (evalEs ev ρ r S1).bind fun ys S2 => .ok (x :: ys) S2 := evs_cons rfl
@[simp] theorem evs_c_cell {r : List E} (e): evalEs ev ρ ((.cell e) :: r) S = (evalE ev ρ (.cell e) S).bind fun x S1 => (evalEs ev ρ r S1).bind fun ys S2 => .ok (x :: ys) S2 := evs_cons rfl
@[simp] theorem evs_c_disp {r : List E} (ks es): evalEs ev ρ ((.disp ks es) :: r) S = (evalE ev ρ (.disp ks es) S).bind fun x S1 => (evalEs ev ρ r S1).bind fun ys S2 => .ok (x :: ys) S2 := evs_cons rfl
@[simp] theorem evs_c_dct0 {r : List E} (t): evalEs ev ρ ((.dct0 t) :: r) S = (evalE ev ρ (.dct0 t) S).bind fun x S1 => (evalEs ev ρ r S1).bind fun ys S2 => .ok (x :: ys) S2 := evs_cons rfl
@[simp] theorem evs_c_lrg {r : List E} (es): evalEs ev ρ ((.lrg es) :: r) S = (evalE ev ρ (.lrg es) S).bind fun x S1 => (evalEs ev ρ r S1).bind fun ys S2 => .ok (x :: ys) S2 := evs_cons rfl
@[simp] theorem evs_c_kin {r : List E} (a) (b) (c): evalEs ev ρ ((.kin a b c) :: r) S = (evalE ev ρ (.kin a b c) S).bind fun x S1 => (evalEs ev ρ r S1).bind fun ys S2 => .ok (x :: ys) S2 := evs_cons rfl
@[simp] theorem evs_c_kidx {r : List E} (a) (b): evalEs ev ρ ((.kidx a b) :: r) S = (evalE ev ρ (.kidx a b) S).bind fun x S1 => (evalEs ev ρ r S1).bind fun ys S2 => .ok (x :: ys) S2 := evs_cons rfl
@[simp] theorem evs_c_bin {r : List E} (a) (b) (c): evalEs ev ρ ((.bin a b c) :: r) S = (evalE ev ρ (.bin a b c) S).bind fun x S1 => (evalEs ev ρ r S1).bind fun ys S2 => .ok (x :: ys) S2 := evs_cons rfl
@[simp] theorem evs_c_neg {r : List E} (a): evalEs ev ρ ((.neg a) :: r) S = (evalE ev ρ (.neg a) S).bind fun x S1 => (evalEs ev ρ r S1).bind fun ys S2 => .ok (x :: ys) S2 := evs_cons rfl
@[simp] theorem evs_c_not {r : List E} (a): evalEs ev ρ ((.not a) :: r) S = (evalE ev ρ (.not a) S).bind fun x S1 => (evalEs ev ρ r S1).bind fun ys S2 => .ok (x :: ys) S2 := evs_cons rfl
@[simp] theorem evs_c_and {r : List E} (a) (b): evalEs ev ρ ((.and a b) :: r) S = (evalE ev ρ (.and a b) S).bind fun x S1 => (evalEs ev ρ r S1).bind fun ys S2 => .ok (x :: ys) S2 := evs_cons rfl
@[simp] theorem evs_c_or {r : List E} (a) (b): evalEs ev ρ ((.or a b) :: r) S = (evalE ev ρ (.or a b) S).bind fun x S1 => (evalEs ev ρ r S1).bind fun ys S2 => .ok (x :: ys) S2 := evs_cons rfl
@[simp] theorem evs_c_ite {r : List E} (a) (b) (c): evalEs ev ρ ((.ite a b c) :: r) S = (evalE ev ρ (.ite a b c) S).bind fun x S1 => (evalEs ev ρ r S1).bind fun ys S2 => .ok (x :: ys) S2 := evs_cons rfl
@[simp] theorem evs_c_cmp {r : List E} (a) (b) (c): evalEs ev ρ ((.cmp a b c) :: r) S = (evalE ev ρ (.cmp a b c) S).bind fun x S1 => (evalEs ev ρ r S1).bind fun ys S2 => .ok (x :: ys) S2 := evs_cons rfl
@[simp] theorem evs_c_chn {r : List E} (a) (b) (c) (d) (e): evalEs ev ρ ((.chn a b c d e) :: r) S = (evalE ev ρ (.chn a b c d e) S).bind fun x S1 => (evalEs ev ρ r S1).bind fun ys S2 => .ok (x :: ys) S2 := evs_cons rfl
@[simp] theorem evs_c_call {r : List E} (a) (b): evalEs ev ρ ((.call a b) :: r) S = (evalE ev ρ (.call a b) S).bind fun x S1 => (evalEs ev ρ r S1).bind fun ys S2 => .ok (x :: ys) S2 := evs_cons rfl
@[simp] theorem evs_c_bi {r : List E} (a) (b): evalEs ev ρ ((.bi a b) :: r) S = (evalE ev ρ (.bi a b) S).bind fun x S1 => (evalEs ev ρ r S1).bind fun ys S2 => .ok (x :: ys) S2 := evs_cons rfl
@[simp] theorem evs_c_mth {r : List E} (a) (b) (c): evalEs ev ρ ((.mth a b c) :: r) S = (evalE ev ρ (.mth a b c) S).bind fun x S1 => (evalEs ev ρ r S1).bind fun ys S2 => .ok (x :: ys) S2 := evs_cons rfl
@[simp] theorem evs_c_idx {r : List E} (a) (b): evalEs ev ρ ((.idx a b) :: r) S = (evalE ev ρ (.idx a b) S).bind fun x S1 => (evalEs ev ρ r S1).bind fun ys S2 => .ok (x :: ys) S2 := evs_cons rfl
@[simp] theorem evs_c_slc {r : List E} (a) (b) (c): evalEs ev ρ ((.slc a b c) :: r) S = (evalE ev ρ (.slc a b c) S).bind fun x S1 => (evalEs ev ρ r S1).bind fun ys S2 => .ok (x :: ys) S2 := evs_cons rfl
@[simp] theorem evs_c_rev {r : List E} (a): evalEs ev ρ ((.rev a) :: r) S = (evalE ev ρ (.rev a) S).bind fun x S1 => (evalEs ev ρ r S1).bind fun ys S2 => .ok (x :: ys) S2 := evs_cons rfl
@[simp] theorem evs_c_lc {r : List E} (a) (b) (c) (d) (e) (f): evalEs ev ρ ((.lc a b c d e f) :: r) S = (evalE ev ρ (.lc a b c d e f) S).bind fun x S1 => (evalEs ev ρ r S1).bind fun ys S2 => .ok (x :: ys) S2 := evs_cons rfl
@[simp] theorem evs_c_dc {r : List E} (a) (b) (c) (d) (e) (f): evalEs ev ρ ((.dc a b c d e f) :: r) S = (evalE ev ρ (.dc a b c d e f) S).bind fun x S1 => (evalEs ev ρ r S1).bind fun ys S2 => .ok (x :: ys) S2 := evs_cons rfl
@[simp] theorem evs_c_isi {r : List E} (a) (b): evalEs ev ρ ((.isi a b) :: r) S = (evalE ev ρ (.isi a b) S).bind fun x S1 => (evalEs ev ρ r S1).bind fun ys S2 => .ok (x :: ys) S2 := evs_cons rfl
@[simp] theorem evs_c_fld {r : List E} (a) (b) (c): evalEs ev ρ ((.fld a b c) :: r) S = (evalE ev ρ (.fld a b c) S).bind fun x S1 => (evalEs ev ρ r S1).bind fun ys S2 => .ok (x :: ys) S2 := evs_cons rfl
@[simp] theorem evs_c_prop {r : List E} (a) (b) (c): evalEs ev ρ ((.prop a b c) :: r) S = (evalE ev ρ (.prop a b c) S).bind fun x S1 => (evalEs ev ρ r S1).bind fun ys S2 => .ok (x :: ys) S2 := evs_cons rfl
@[simp] theorem evs_c_meth {r : List E} (a) (b) (c) (d) (e): evalEs ev ρ ((.meth a b c d e) :: r) S = (evalE ev ρ (.meth a b c d e) S).bind fun x S1 => (evalEs ev ρ r S1).bind fun ys S2 => .ok (x :: ys) S2 := evs_cons rfl
@[simp] theorem evs_c_new {r : List E} (a) (b) (c): evalEs ev ρ ((.new a b c) :: r) S = (evalE ev ρ (.new a b c) S).bind fun x S1 => (evalEs ev ρ r S1).bind fun ys S2 => .ok (x :: ys) S2 := evs_cons rfl
@[simp] theorem evs_c_callK {r : List E} (a) (b) (c) (d): evalEs ev ρ ((.callK a b c d) :: r) S = (evalE ev ρ (.callK a b c d) S).bind fun x S1 => (evalEs ev ρ r S1).bind fun ys S2 => .ok (x :: ys) S2 := evs_cons rfl
@[simp] theorem evs_c_methK {r : List E} (a) (b) (c) (d) (e) (f) (g): evalEs ev ρ ((.methK a b c d e f g) :: r) S = (evalE ev ρ (.methK a b c d e f g) S).bind fun x S1 => (evalEs ev ρ r S1).bind fun ys S2 => .ok (x :: ys) S2 := evs_cons rfl
@[simp] theorem evs_c_newK {r : List E} (a) (b) (c) (d) (e): evalEs ev ρ ((.newK a b c d e) :: r) S = (evalE ev ρ (.newK a b c d e) S).bind fun x S1 => (evalEs ev ρ r S1).bind fun ys S2 => .ok (x :: ys) S2 := evs_cons rfl
theorem evT_nil : evalT ev ρ [] S = .ok true S := by rw [evalT]
theorem evT_cons {e : E} {r : List E} : evalT ev ρ (e :: r) S = (evalE ev ρ e S).bind fun x S1 => match x with
    | .bl b => .ok b S1
    | _ => .no := by rw [evalT] <;> rfl
end G
set_option maxHeartbeats 400000
namespace G
open PySem
variable {ev : Ev} {ρ : Rho} {S : Store}
@[simp] theorem ex_asg (i e) : exec ev ρ (.asg i e) S = (evalE ev ρ e S).bind fun d S1 => .ok (.nx (ρ.set i (.v d))) S1 := by rw [exec]
@[simp] theorem ex_own (i e) : exec ev ρ (.own i e) S = (evalE ev ρ e S).bind fun d S1 => match slOf true d with
    | some sl => .ok (.nx (ρ.set i sl)) S1
    | none => .no := by rw [exec] <;> rfl
@[simp] theorem ex_asgT (is e) : exec ev ρ (.asgT is e) S = (evalE ev ρ e S).bind fun d S1 => match putTg S1 ρ (.tup is) d with
    | some ρ' => .ok (.nx ρ') S1
    | none => .no := by rw [exec] <;> rfl
@[simp] theorem ex_par2 (i j oi oj a b) : exec ev ρ (.par2 i j oi oj a b) S = (evalE ev ρ a S).bind fun d S1 => (evalE ev ρ b S1).bind fun e S2 => match slOf oi d, slOf oj e with
    | some x, some y => .ok (.nx ((ρ.set i x).set j y)) S2
    | _, _ => .no := by rw [exec] <;> rfl
@[simp] theorem ex_par3 (i j k a b c) : exec ev ρ (.par3 i j k a b c) S = (evalE ev ρ a S).bind fun x S1 => (evalE ev ρ b S1).bind fun y S2 => (evalE ev ρ c S2).bind fun z S3 => .ok (.nx (((ρ.set i (.v x)).set j (.v y)).set k (.v z))) S3 := by rw [exec]
@[simp] theorem ex_parL (is i es e) : exec ev ρ (.parL is i es e) S = (evalEs ev ρ es S).bind fun ds S1 => (evalE ev ρ e S1).bind fun d S2 => match slOf true d, putAll ρ is ds with
    | some sl, some ρ' => .ok (.nx (ρ'.set i sl)) S2
    | _, _ => .no := by rw [exec] <;> rfl
@[simp] theorem ex_pop (j i e) : exec ev ρ (.pop j i e) S = match ρ[i]? with
    | some (.ol xs) => (evalE ev ρ e S).bind fun d S1 => match popAt xs d with
      | some (y, ys) => .ok (.nx ((ρ.set i (.ol ys)).set j (.v y))) S1
      | none => .no
    | _ => .no := by rw [exec] <;> rfl
@[simp] theorem ex_setC (o ix e) : exec ev ρ (.setC o ix e) S = (evalE ev ρ e S).bind fun d S1 => (evalE ev ρ o S1).bind fun x S2 => (evalE ev ρ ix S2).bind fun k S3 => match setCell S3 x k d with
    | some S4 => .ok (.nx ρ) S4
    | none => .no := by rw [exec] <;> rfl
@[simp] theorem ex_setF (c f o e) : exec ev ρ (.setF c f o e) S = (evalE ev ρ e S).bind fun d S1 => (evalE ev ρ o S1).bind fun x S2 => match x, objOf S2 c x with
    | .ref n, some fs => if fs.length < 1000 then .ok (.nx ρ) (S2.set n (.obj c (putF f d fs))) else .no
    | _, _ => .no := by rw [exec] <;> rfl
@[simp] theorem ex_setI (i ix e) : exec ev ρ (.setI i ix e) S = (evalE ev ρ e S).bind fun d S1 => match ρ[i]? with
    | some sl => if sl.own = true then (evalE ev ρ ix S1).bind fun k S2 => (match setD sl k d with
      | some sl' => .ok (.nx (ρ.set i sl')) S2
      | none => .no) else .no
    | none => .no := by rw [exec] <;> rfl
@[simp] theorem ex_ex (e) : exec ev ρ (.ex e) S = (evalE ev ρ e S).bind fun _ S1 => .ok (.nx ρ) S1 := by rw [exec]
@[simp] theorem ex_app (i e) : exec ev ρ (.app i e) S = match ρ[i]? with
    | some (.ol xs) => (evalE ev ρ e S).bind fun d S1 => if line xs.length = true then .ok (.nx (ρ.set i (.ol (xs ++ [d])))) S1 else .no
    | _ => .no := by rw [exec] <;> rfl
@[simp] theorem ex_ins0 (i e) : exec ev ρ (.ins0 i e) S = match ρ[i]? with
    | some (.ol xs) => (evalE ev ρ e S).bind fun d S1 => if line xs.length = true then .ok (.nx (ρ.set i (.ol (d :: xs)))) S1 else .no
    | _ => .no := by rw [exec] <;> rfl
@[simp] theorem ex_ife (c t f) : exec ev ρ (.ife c t f) S = (evalE ev ρ c S).bind fun x S1 => match x with
    | .bl true => execs ev ρ t S1
    | .bl false => execs ev ρ f S1
    | _ => .no := by rw [exec] <;> rfl
@[simp] theorem ex_ret (e) : exec ev ρ (.ret e) S = (evalE ev ρ e S).bind fun d S1 => .ok (.rt d) S1 := by rw [exec]
@[simp] theorem ex_retN : exec ev ρ .retN S = .ok (.rt .non) S := by rw [exec]
@[simp] theorem ex_rais (c es) : exec ev ρ (.rais c es) S = (evalEs ev ρ es S).bind fun ds S1 => match ds with
    | [] => .ex c none S1
    | [d] => .ex c (some d) S1
    | _ => .no := by rw [exec] <;> rfl
@[simp] theorem ex_try (body hs) : exec ev ρ (.try_ body hs) S = match execs ev ρ body S with
    | .ex c p S1 => tryH ev c p S1 hs
    | o => o := by rw [exec] <;> rfl
@[simp] theorem ex_frz (i) : exec ev ρ (.frz i) S = match ρ[i]? with
    | some (.ol xs) => .ok (.nx (ρ.set i (.v (.lst xs)))) S
    | some (.od t ks vs) => .ok (.nx (ρ.set i (.v (.dct t ks vs)))) S
    | _ => .no := by rw [exec] <;> rfl
@[simp] theorem ex_pass : exec ev ρ .pass S = .ok (.nx ρ) S := by rw [exec]
@[simp] theorem exs_nil : execs ev ρ [] S = .ok (.nx ρ) S := by rw [execs]
@[simp] theorem exs_cons (s r) : execs ev ρ (s :: r) S = (exec ev ρ s S).bind fun x S1 => match x with
    | .nx ρ' => execs ev ρ' r S1
    | .rt d => .ok (.rt d) S1 := by rw [execs] <;> rfl
theorem ex_for (tg k it body) : exec ev ρ (.for_ tg k it body) S = (evalEs ev ρ it S).bind fun ds S1 => match itemsOf k ds with
    | none => .no
    | some xs => loopF tg (fun ρ' S' => execs ev ρ' body S') xs ρ S1 := by rw [exec] <;> rfl
end G
set_option maxHeartbeats 400000
namespace G
open PySem PyProof.Rows L2
theorem tab_none {P : Params} {z : Str} : ∀ {l : List DictEntry} {ks : List Str}, l.map He.keyOf = He.keysIn P ks → (z ∈ ks → False) → l.find? (·.key.isStr z) = none ∧ l.any (·.refKey) = false
  | [], _, _, _ => ⟨rfl, rfl⟩
  | e :: r, [], h, _ => by cases h
  | e :: r, k :: ks, h, hz => by
    have h1 : He.keyOf e :: r.map He.keyOf = some (k, PyData.keyHash P k) :: He.keysIn P ks := h
    injection h1 with h2 h3
    obtain ⟨i1, i2⟩ := tab_none h3 (fun m => hz (List.mem_cons_of_mem _ m))
    unfold He.keyOf at h2
    split at h2
    · rename_i x t q
      have h4 := Option.some.inj h2
      obtain ⟨h5, h6⟩ := Prod.mk.inj h4
      subst h5
      have hn : (x == z) = false := by
        cases y : x == z with
        | false => rfl
        | true => exact (hz (by rw [eq_of_beq y]; exact List.mem_cons_self)).elim
      refine ⟨?_, ?_⟩
      · rw [List.find?_cons, q]
        show (match (x == z) with | true => some e | false => r.find? _) = none
        rw [hn]; exact i1
      · rw [List.any_cons, i2]
        simp [DictEntry.refKey, q]
    · cases h2
def valC (K : PySem.W.Frag) (a : Addr) (t : List (Str × D)) : Bool := t.all fun q => match PySem.W.nsIn K a q.1 with
  | some (some u) => repC u q.2
  | _ => false
theorem tab_ok {g : Gc} {K : PySem.W.Frag} {w : World} {t : List (Str × D)} {y : Addr} (hg : g.K = K) (h : He.dicW K y = some (He.keysIn w.params (t.map (·.1)))) (hv : valC K y t = true) : TabR g w t y := by
  subst hg
  obtain ⟨es, n, D⟩ := He.dicW_ok h
  refine ⟨⟨es, n, D⟩, fun z => ?_⟩
  cases e : t.lookup z with
  | some d =>
    have h2 := List.all_eq_true.mp hv _ (lookup_mem e)
    split at h2
    · rename_i u hu
      obtain ⟨v, rv, rep⟩ := repC_ok h2
      exact ⟨_, hu, v, rv, fun F A => rep _ F A⟩
    · cases h2
  | none =>
    have hz : z ∈ t.map (·.1) → False := fun m => by
      obtain ⟨p, hp, rfl⟩ := List.mem_map.mp m
      have := List.lookup_eq_none_iff.mp e p hp
      simp at this
    have hk : es.toList.map He.keyOf = He.keysIn w.params (t.map (·.1)) := by
      have h3 := h
      unfold He.dicW at h3
      rw [D.at_] at h3
      simp only at h3
      split at h3
      · exact Option.some.inj h3
      · cases h3
    obtain ⟨f1, f2⟩ := tab_none hk hz
    refine ⟨none, ?_, trivial⟩
    unfold PySem.W.nsIn
    rw [D.at_]
    simp only [f1, f2]
    rfl
end G
namespace G
/-! ### plain: the greatest one of some numbers -/
def mxF (m y : Int) : Int := if m < y then y else m
def mx : List Int → Int
  | [] => 0
  | x :: r => r.foldl (fun m y => if m < y then y else m) x
theorem mx_fold : ∀ (l : List Int) (a : Int), (l.foldl (fun m y => if m < y then y else m) a = a ∨ l.foldl (fun m y => if m < y then y else m) a ∈ l) ∧ a ≤ l.foldl (fun m y => if m < y then y else m) a ∧ ∀ y ∈ l, y ≤ l.foldl (fun m y => if m < y then y else m) a
  | [], a => ⟨.inl rfl, Int.le_refl _, by simp⟩
  | x :: l, a => by
    simp only [List.foldl_cons, List.mem_cons]
    by_cases h : a < x
    · simp only [h, if_true]
      obtain ⟨h1, h2, h3⟩ := mx_fold l x
      refine ⟨?_, by omega, ?_⟩
      · rcases h1 with h1 | h1
        · exact .inr (.inl h1)
        · exact .inr (.inr h1)
      · intro y hy
        rcases hy with rfl | hy
        · exact h2
        · exact h3 y hy
    · simp only [h, if_false]
      obtain ⟨h1, h2, h3⟩ := mx_fold l a
      refine ⟨?_, h2, ?_⟩
      · rcases h1 with h1 | h1
        · exact .inl h1
        · exact .inr (.inr h1)
      · intro y hy
        rcases hy with rfl | hy
        · omega
        · exact h3 y hy
theorem mx_mem {l : List Int} (h : l ≠ []) : mx l ∈ l := by
  cases l with
  | nil => exact absurd rfl h
  | cons x r =>
    rcases (mx_fold r x).1 with e | e
    · show List.foldl _ _ _ ∈ _
      rw [e]; exact List.mem_cons_self
    · exact List.mem_cons_of_mem _ e
theorem le_mx {l : List Int} {y : Int} (h : y ∈ l) : y ≤ mx l := by
  cases l with
  | nil => cases h
  | cons x r =>
    rcases List.mem_cons.mp h with rfl | h
    · exact (mx_fold r y).2.1
    · exact (mx_fold r x).2.2 y h
theorem mx_eq {l : List Int} {m : Int} (h : m ∈ l) (h2 : ∀ y ∈ l, y ≤ m) : mx l = m :=
  Int.le_antisymm (h2 _ (mx_mem (fun e => by rw [e] at h; cases h))) (le_mx h)
/-! ### deals -/
abbrev Dl := List (Option Nat)
abbrev Mk := List (List Int)
/-- what is free of so many things beside a mark, None first -/
def chs (k m : Nat) : Dl := none :: ((List.range m).filter fun t => !k.testBit t).map some
def mw (k : Nat) : Option Nat → Nat
  | none => k
  | some t => k ||| 1 <<< t
def wt (r : List Int) : Option Nat → Int
  | none => 0
  | some t => r.getD t 0
/-- the most that rows bring beside a mark -/
def rest (m : Nat) : Mk → Nat → Int
  | [], _ => 0
  | r :: R, k => mx ((chs k m).map fun c => wt r c + rest m R (mw k c))
def worthD : Mk → Dl → Int
  | r :: R, c :: d => wt r c + worthD R d
  | _, _ => 0
def okD (m : Nat) : Nat → Dl → Prop
  | _, [] => True
  | k, c :: d => c ∈ chs k m ∧ okD m (mw k c) d
theorem mem_chs {k m : Nat} {c : Option Nat} : c ∈ chs k m ↔ ∀ t, c = some t → t < m ∧ k.testBit t = false := by
  unfold chs
  cases c with
  | none => simp
  | some t => simp
theorem rest_some (m : Nat) : ∀ (R : Mk) (k : Nat), ∃ d : Dl, d.length = R.length ∧ okD m k d ∧ worthD R d = rest m R k
  | [], k => ⟨[], rfl, trivial, rfl⟩
  | r :: R, k => by
    have hm : rest m (r :: R) k ∈ (chs k m).map fun c => wt r c + rest m R (mw k c) := mx_mem (by simp [chs])
    obtain ⟨c, hc, e⟩ := List.mem_map.mp hm
    obtain ⟨d, h1, h2, h3⟩ := rest_some m R (mw k c)
    exact ⟨c :: d, by simp [h1], ⟨hc, h2⟩, by rw [← e, ← h3]; rfl⟩
theorem rest_most (m : Nat) : ∀ (R : Mk) (k : Nat) (d : Dl), okD m k d → d.length = R.length → worthD R d ≤ rest m R k
  | [], k, [], _, _ => Int.le_refl _
  | [], k, _ :: _, _, h => by simp at h
  | r :: R, k, [], _, h => by simp at h
  | r :: R, k, c :: d, h, hl => by
    have h1 := rest_most m R (mw k c) d h.2 (by simpa using hl)
    have h2 : wt r c + rest m R (mw k c) ≤ rest m (r :: R) k := le_mx (List.mem_map.mpr ⟨c, h.1, rfl⟩)
    show wt r c + worthD R d ≤ _
    omega
/-- things of a deal -/
def thg (d : Dl) : List Nat := d.filterMap id
def okT (m : Nat) (d : Dl) : Prop := (thg d).Nodup ∧ ∀ t ∈ thg d, t < m
theorem testBit_mw {k t u : Nat} : (mw k (some t)).testBit u = (k.testBit u || decide (u = t)) := by
  simp only [mw, Nat.testBit_or, Nat.one_shiftLeft, Nat.testBit_two_pow]
  congr 1
  by_cases h : t = u
  · simp [h]
  · simp [h]; omega
theorem okD_iff (m : Nat) : ∀ (d : Dl) (k : Nat), okD m k d ↔ (okT m d ∧ ∀ t ∈ thg d, k.testBit t = false)
  | [], k => by simp [okD, okT, thg]
  | none :: d, k => by
    show (none ∈ chs k m ∧ okD m k d) ↔ (okT m d ∧ _)
    rw [okD_iff m d k, mem_chs]
    simp [thg]
  | some t :: d, k => by
    show (some t ∈ chs k m ∧ okD m (mw k (some t)) d) ↔ _
    rw [okD_iff m d, mem_chs]
    have e : thg (some t :: d) = t :: thg d := rfl
    simp only [okT, e, List.nodup_cons, List.mem_cons, testBit_mw, Bool.or_eq_false_iff, decide_eq_false_iff_not]
    constructor
    · rintro ⟨h1, ⟨h2, h3⟩, h4⟩
      obtain ⟨a, b⟩ := h1 t rfl
      refine ⟨⟨⟨fun z => (h4 t z).2 rfl, h2⟩, fun u hu => ?_⟩, fun u hu => ?_⟩
      · rcases hu with rfl | hu
        · exact a
        · exact h3 u hu
      · rcases hu with rfl | hu
        · exact b
        · exact (h4 u hu).1
    · rintro ⟨⟨⟨h1, h2⟩, h3⟩, h4⟩
      refine ⟨fun u hu => ?_, ⟨h2, fun u hu => h3 u (.inr hu)⟩, fun u hu => ⟨h4 u (.inr hu), fun z => h1 (z ▸ hu)⟩⟩
      cases hu
      exact ⟨h3 t (.inl rfl), h4 t (.inl rfl)⟩
theorem okD_zero {m : Nat} {d : Dl} : okD m 0 d ↔ okT m d := by
  rw [okD_iff]; simp
/-- what the best deals of a market are worth -/
def most (m : Nat) (R : Mk) : Int := rest m R 0
theorem most_some (m : Nat) (R : Mk) : ∃ d : Dl, d.length = R.length ∧ okT m d ∧ worthD R d = most m R := by
  obtain ⟨d, h1, h2, h3⟩ := rest_some m R 0
  exact ⟨d, h1, okD_zero.mp h2, h3⟩
theorem most_le {m : Nat} {R : Mk} {d : Dl} (h : okT m d) (hl : d.length = R.length) : worthD R d ≤ most m R := rest_most m R 0 d (okD_zero.mpr h) hl
/-- rows of numbers from 0 to 99 -/
def rowOk (m : Nat) (r : List Int) : Prop := r.length = m ∧ ∀ x ∈ r, 0 ≤ x ∧ x ≤ 99
def mkOk (m : Nat) (R : Mk) : Prop := ∀ r ∈ R, rowOk m r
theorem wt_bd {m : Nat} {r : List Int} (h : rowOk m r) (c : Option Nat) : 0 ≤ wt r c ∧ wt r c ≤ 99 := by
  cases c with
  | none => simp [wt]
  | some t =>
    simp only [wt, List.getD_eq_getElem?_getD]
    cases e : r[t]? with
    | none => simp
    | some x => exact h.2 x (List.mem_of_getElem? e)
theorem worthD_bd {m : Nat} : ∀ {R : Mk} (d : Dl), mkOk m R → 0 ≤ worthD R d ∧ worthD R d ≤ 99 * R.length
  | [], d, _ => by cases d <;> simp [worthD]
  | r :: R, [], h => by simp only [worthD, List.length_cons]; omega
  | r :: R, c :: d, h => by
    have h1 := wt_bd (h r List.mem_cons_self) c
    have h2 := worthD_bd (R := R) d (fun x hx => h x (List.mem_cons_of_mem _ hx))
    simp only [worthD, List.length_cons]
    omega
theorem most_bd {m : Nat} {R : Mk} (h : mkOk m R) : 0 ≤ most m R ∧ most m R ≤ 99 * R.length := by
  obtain ⟨d, _, _, e⟩ := most_some m R
  rw [← e]; exact worthD_bd d h
/-- one more column brings no less -/
def twc (R : Mk) (t : Nat) : Mk := R.map fun r => r ++ [r.getD t 0]
theorem worthD_app {m : Nat} (g : List Int → Int) : ∀ (R : Mk) (d : Dl), mkOk m R → (∀ t ∈ thg d, t < m) → worthD (R.map fun r => r ++ [g r]) d = worthD R d
  | [], d, _, _ => by cases d <;> rfl
  | r :: R, [], _, _ => rfl
  | r :: R, c :: d, h, ht => by
    have ih := worthD_app g R d (fun x hx => h x (List.mem_cons_of_mem _ hx)) (fun t h => ht t (by
      unfold thg at h ⊢
      rw [List.filterMap_cons]
      split
      · exact h
      · exact List.mem_cons_of_mem _ h))
    have hl := (h r List.mem_cons_self).1
    simp only [worthD, List.map_cons, ih]
    congr 1
    cases c with
    | none => rfl
    | some t =>
      have : t < m := ht t (by simp [thg])
      simp only [wt, List.getD_eq_getElem?_getD]
      rw [List.getElem?_append_left (by omega)]
theorem most_app {m : Nat} {R : Mk} (h : mkOk m R) (g : List Int → Int) : most m R ≤ most (m + 1) (R.map fun r => r ++ [g r]) := by
  obtain ⟨d, h1, h2, e⟩ := most_some m R
  rw [← e, ← worthD_app g R d h h2.2]
  exact most_le ⟨h2.1, fun t ht => Nat.lt_succ_of_lt (h2.2 t ht)⟩ (by simp [h1])
end G
namespace G
/-! ### plain: the states of the law's own count -/
abbrev Sts := List (List Nat × Int)
def lget : Sts → List Nat → Option Int
  | [], _ => none
  | p :: r, k => if p.1 = k then some p.2 else lget r k
def lput (s : Sts) (k : List Nat) (v : Int) : Sts := if s.any (fun p => decide (p.1 = k)) then s.map (fun p => (p.1, if p.1 = k then v else p.2)) else s ++ [(k, v)]
theorem lget_rep (k : List Nat) (v : Int) (j : List Nat) : ∀ s : Sts, lget (s.map fun p => (p.1, if p.1 = k then v else p.2)) j = if k = j then (lget s j).map (fun _ => v) else lget s j
  | [] => by simp [lget]
  | p :: r => by
    simp only [List.map_cons, lget, lget_rep k v j r]
    by_cases h : p.1 = j
    · by_cases z : k = j
      · simp [h, z]
      · have : ¬ j = k := fun q => z q.symm
        simp [h, z, this]
    · simp [h]
theorem lget_snoc (k : List Nat) (v : Int) (j : List Nat) : ∀ s : Sts, lget (s ++ [(k, v)]) j = match lget s j with
    | some x => some x
    | none => if k = j then some v else none
  | [] => rfl
  | p :: r => by
    simp only [List.cons_append, lget, lget_snoc k v j r]
    by_cases h : p.1 = j <;> simp [h]
theorem lget_none {k : List Nat} : ∀ {s : Sts}, s.any (fun p => decide (p.1 = k)) = false → lget s k = none
  | [], _ => rfl
  | p :: r, h => by
    simp only [List.any_cons, Bool.or_eq_false_iff, decide_eq_false_iff_not] at h
    simp only [lget, h.1, if_false]
    exact lget_none h.2
theorem lget_any {k : List Nat} : ∀ {s : Sts}, s.any (fun p => decide (p.1 = k)) = true → ∃ v, lget s k = some v
  | [], h => by cases h
  | p :: r, h => by
    by_cases z : p.1 = k
    · exact ⟨p.2, by simp [lget, z]⟩
    · simp only [List.any_cons, z, decide_false, Bool.false_or] at h
      obtain ⟨v, e⟩ := lget_any h
      exact ⟨v, by simp [lget, z, e]⟩
theorem lget_put (s : Sts) (k : List Nat) (v : Int) (j : List Nat) : lget (lput s k v) j = if k = j then some v else lget s j := by
  unfold lput
  cases h : s.any (fun p => decide (p.1 = k)) with
  | true =>
    obtain ⟨x, hx⟩ := lget_any h
    rw [if_pos rfl, lget_rep]
    by_cases z : k = j
    · subst z; simp [hx]
    · simp [z]
  | false =>
    rw [if_neg (by simp), lget_snoc]
    by_cases z : k = j
    · subst z; simp [lget_none h]
    · simp [z]
      cases lget s j <;> rfl
theorem lput_len (s : Sts) (k : List Nat) (v : Int) : (lput s k v).length ≤ s.length + 1 := by
  unfold lput
  split <;> simp
theorem lput_keys {s : Sts} {k : List Nat} {v : Int} {p : List Nat × Int} (h : p ∈ lput s k v) : p.1 = k ∨ p.1 ∈ s.map (·.1) := by
  unfold lput at h
  split at h
  · obtain ⟨q, hq, rfl⟩ := List.mem_map.mp h
    exact .inr (List.mem_map.mpr ⟨q, hq, rfl⟩)
  · rcases List.mem_append.mp h with h | h
    · exact .inr (List.mem_map.mpr ⟨p, h, rfl⟩)
    · rw [List.mem_singleton.mp h]; exact .inl rfl
theorem lget_mem : ∀ {s : Sts} {k : List Nat} {v : Int}, lget s k = some v → k ∈ s.map (·.1)
  | [], _, _, h => by cases h
  | p :: r, k, v, h => by
    unfold lget at h
    by_cases z : p.1 = k
    · simp [z]
    · simp only [z, if_false] at h
      exact List.mem_cons_of_mem _ (lget_mem h)
theorem lget_of_mem : ∀ {s : Sts} {k : List Nat}, k ∈ s.map (·.1) → ∃ v, lget s k = some v
  | p :: r, k, h => by
    unfold lget
    by_cases z : p.1 = k
    · exact ⟨_, if_pos z⟩
    · simp only [z, if_false]
      refine lget_of_mem (s := r) ?_
      rcases List.mem_cons.mp h with h | h
      · exact absurd h.symm z
      · exact h
/-- sorted -/
def insN (x : Nat) : List Nat → List Nat
  | [] => [x]
  | y :: r => if x ≤ y then x :: y :: r else y :: insN x r
def sortN : List Nat → List Nat
  | [] => []
  | x :: r => insN x (sortN r)
theorem mem_insN {x y : Nat} : ∀ {l : List Nat}, y ∈ insN x l ↔ y = x ∨ y ∈ l
  | [] => by simp [insN]
  | z :: r => by
    unfold insN
    split
    · simp
    · simp only [List.mem_cons, mem_insN (l := r)]
      constructor
      · rintro (h | h | h) <;> simp [h]
      · rintro (h | h | h) <;> simp [h]
theorem mem_sortN {y : Nat} : ∀ {l : List Nat}, y ∈ sortN l ↔ y ∈ l
  | [] => by simp [sortN]
  | x :: r => by simp [sortN, mem_insN, mem_sortN (l := r)]
theorem insN_comm (x y : Nat) : ∀ l : List Nat, insN x (insN y l) = insN y (insN x l)
  | [] => by
    simp only [insN]
    by_cases h : x ≤ y <;> by_cases h2 : y ≤ x <;> simp [h, h2]
    · exact ⟨by omega, by omega⟩
    · omega
  | z :: r => by
    simp only [insN]
    by_cases h : x ≤ z <;> by_cases h2 : y ≤ z <;> simp only [h, h2, if_true, if_false, insN]
    · by_cases h3 : x ≤ y <;> by_cases h4 : y ≤ x <;> simp [h3, h4]
      · exact ⟨by omega, by omega⟩
      · omega
    · have : ¬ y ≤ x := by omega
      simp [this]
    · have : ¬ x ≤ y := by omega
      simp [this]
    · rw [insN_comm x y r]
theorem sortN_app (l : List Nat) (t : Nat) : sortN (l ++ [t]) = insN t (sortN l) := by
  induction l with
  | nil => rfl
  | cons x r ih => simp only [List.cons_append, sortN, ih, insN_comm]
theorem sortN_insN (t : Nat) : ∀ l : List Nat, sortN (insN t l) = insN t (sortN l)
  | [] => rfl
  | y :: r => by
    rw [show insN t (y :: r) = if t ≤ y then t :: y :: r else y :: insN t r from rfl]
    split
    · rfl
    · simp only [sortN, sortN_insN t r]
      rw [insN_comm]
theorem sortN_idem : ∀ l : List Nat, sortN (sortN l) = sortN l
  | [] => rfl
  | x :: r => by simp only [sortN, sortN_insN, sortN_idem r]
theorem sortN_step (l : List Nat) (t : Nat) : sortN (sortN l ++ [t]) = sortN (l ++ [t]) := by
  rw [sortN_app, sortN_app, sortN_idem]
/-! the walk -/
def inner (v : Int) (taken : List Nat) (more : Sts) (p : Nat × Int) : Sts :=
  if p.1 ∈ taken then more else
    lput more (sortN (taken ++ [p.1])) (let w := (lget more (sortN (taken ++ [p.1]))).getD 0; if v + p.2 < w then w else v + p.2)
def outer (states : Sts) (row : List Int) (more : Sts) (taken : List Nat) : Sts :=
  let v := (lget states taken).getD 0
  ((List.range row.length).zip row).foldl (inner v taken) (lput more taken (let w := (lget more taken).getD 0; if v < w then w else v))
def rowStep (states : Sts) (row : List Int) : Sts := (states.map (·.1)).foldl (outer states row) []
def stsOf (rows : Mk) : Sts := rows.foldl rowStep [([], 0)]
def lawMost (rows : Mk) : Int := mx ((stsOf rows).map fun p => (lget (stsOf rows) p.1).getD 0)
/-- each entry is a deal's -/
def Snd (m : Nat) (R : Mk) (s : Sts) : Prop := ∀ k v, lget s k = some v → ∃ d : Dl, d.length = R.length ∧ okT m d ∧ worthD R d = v ∧ k = sortN (thg d)
/-- a deal is there -/
def Has (s : Sts) (k : List Nat) (w : Int) : Prop := ∃ v, lget s k = some v ∧ w ≤ v
theorem worthD_snoc (r : List Int) (c : Option Nat) : ∀ (R : Mk) (d : Dl), d.length = R.length → worthD (R ++ [r]) (d ++ [c]) = worthD R d + wt r c
  | [], [], _ => by simp [worthD]
  | [], _ :: _, h => by simp at h
  | _ :: _, [], h => by simp at h
  | a :: R, b :: d, h => by
    simp only [List.cons_append, worthD, worthD_snoc r c R d (by simpa using h)]
    omega
theorem thg_snoc_none (d : Dl) : thg (d ++ [none]) = thg d := by simp [thg]
theorem thg_snoc_some (d : Dl) (t : Nat) : thg (d ++ [some t]) = thg d ++ [t] := by simp [thg]
theorem Has.put {s : Sts} {k j : List Nat} {w v : Int} (h : Has s k w) (hv : j = k → w ≤ v) : Has (lput s j v) k w := by
  obtain ⟨x, h1, h2⟩ := h
  by_cases z : j = k
  · exact ⟨v, by rw [lget_put, if_pos z], hv z⟩
  · exact ⟨x, by rw [lget_put, if_neg z, h1], h2⟩
theorem Has.putMax {s : Sts} {k j : List Nat} {w v : Int} (h : Has s k w) : Has (lput s j (if v < (lget s j).getD 0 then (lget s j).getD 0 else v)) k w := by
  refine h.put fun z => ?_
  obtain ⟨x, h1, h2⟩ := h
  subst z
  rw [h1, Option.getD_some]
  split <;> omega
theorem Has.new {s : Sts} {k : List Nat} {v : Int} : Has (lput s k (if v < (lget s k).getD 0 then (lget s k).getD 0 else v)) k v := by
  refine ⟨_, by rw [lget_put, if_pos rfl], ?_⟩
  split <;> omega
section
variable {m : Nat} {R : Mk} {row : List Int} (hr : rowOk m row) (hR : mkOk m R)
include hr hR
theorem snd_putMax {more : Sts} (hs : Snd m (R ++ [row]) more) {d : Dl} (hd : d.length = (R ++ [row]).length) (ho : okT m d) : Snd m (R ++ [row]) (lput more (sortN (thg d)) (if worthD (R ++ [row]) d < (lget more (sortN (thg d))).getD 0 then (lget more (sortN (thg d))).getD 0 else worthD (R ++ [row]) d)) := by
  intro k v h
  rw [lget_put] at h
  split at h
  · rename_i z
    cases h
    cases e : lget more (sortN (thg d)) with
    | none =>
      have hb : 0 ≤ worthD (R ++ [row]) d := (worthD_bd (m := m) d (fun x hx => by
        rcases List.mem_append.mp hx with hx | hx
        · exact hR x hx
        · rw [List.mem_singleton.mp hx]; exact hr)).1
      rw [Option.getD_none, if_neg (by omega)]
      exact ⟨d, hd, ho, rfl, z.symm⟩
    | some w =>
      rw [Option.getD_some]
      split
      · obtain ⟨d', h1, h2, h3, h4⟩ := hs _ _ e
        exact ⟨d', h1, h2, h3, z.symm.trans h4⟩
      · exact ⟨d, hd, ho, rfl, z.symm⟩
  · exact hs k v h
theorem inner_ok {d : Dl} (hd : d.length = R.length) (ho : okT m d) : ∀ (ps : List (Nat × Int)) (more : Sts), (∀ p ∈ ps, p.1 < m ∧ row.getD p.1 0 = p.2) → Snd m (R ++ [row]) more →
    Snd m (R ++ [row]) (ps.foldl (inner (worthD R d) (sortN (thg d))) more) ∧ (∀ k w, Has more k w → Has (ps.foldl (inner (worthD R d) (sortN (thg d))) more) k w) ∧ (∀ p ∈ ps, p.1 ∉ thg d → Has (ps.foldl (inner (worthD R d) (sortN (thg d))) more) (sortN (thg (d ++ [some p.1]))) (worthD (R ++ [row]) (d ++ [some p.1])))
  | [], more, _, hs => ⟨hs, fun _ _ h => h, by simp⟩
  | p :: ps, more, hp, hs => by
    simp only [List.foldl_cons]
    have hp' : ∀ q ∈ ps, q.1 < m ∧ row.getD q.1 0 = q.2 := fun q hq => hp q (List.mem_cons_of_mem _ hq)
    obtain ⟨p1, p2⟩ := hp p List.mem_cons_self
    by_cases z : p.1 ∈ thg d
    · have z' : p.1 ∈ sortN (thg d) := mem_sortN.mpr z
      have e : inner (worthD R d) (sortN (thg d)) more p = more := if_pos z'
      rw [e]
      obtain ⟨h1, h2, h3⟩ := inner_ok hd ho ps more hp' hs
      refine ⟨h1, h2, fun q hq hn => ?_⟩
      rcases List.mem_cons.mp hq with rfl | hq
      · exact absurd z hn
      · exact h3 q hq hn
    · have z' : p.1 ∉ sortN (thg d) := fun h => z (mem_sortN.mp h)
      have hw : worthD (R ++ [row]) (d ++ [some p.1]) = worthD R d + p.2 := by
        rw [worthD_snoc row _ R d hd]; show _ + row.getD p.1 0 = _; rw [p2]
      have ek : sortN (sortN (thg d) ++ [p.1]) = sortN (thg (d ++ [some p.1])) := by rw [sortN_step, thg_snoc_some]
      have e : inner (worthD R d) (sortN (thg d)) more p = lput more (sortN (thg (d ++ [some p.1]))) (if worthD (R ++ [row]) (d ++ [some p.1]) < (lget more (sortN (thg (d ++ [some p.1])))).getD 0 then (lget more (sortN (thg (d ++ [some p.1])))).getD 0 else worthD (R ++ [row]) (d ++ [some p.1])) := by
        unfold inner
        rw [if_neg z', ek, hw]
      have ho' : okT m (d ++ [some p.1]) := by
        refine ⟨?_, ?_⟩
        · rw [thg_snoc_some, List.nodup_append]
          refine ⟨ho.1, by simp, fun x hx y hy q => ?_⟩
          rw [List.mem_singleton] at hy
          exact z (hy ▸ q ▸ hx)
        · rw [thg_snoc_some]
          intro t ht
          rcases List.mem_append.mp ht with ht | ht
          · exact ho.2 t ht
          · rw [List.mem_singleton.mp ht]; exact p1
      rw [e]
      obtain ⟨h1, h2, h3⟩ := inner_ok hd ho ps _ hp' (snd_putMax hr hR hs (d := d ++ [some p.1]) (by simp [hd]) ho')
      refine ⟨h1, fun k w h => h2 k w h.putMax, fun q hq hn => ?_⟩
      rcases List.mem_cons.mp hq with rfl | hq
      · exact h2 _ _ Has.new
      · exact h3 q hq hn
theorem outer_ok {states : Sts} (hS : Snd m R states) : ∀ (ts : List (List Nat)) (more : Sts), (∀ t ∈ ts, t ∈ states.map (·.1)) → Snd m (R ++ [row]) more →
    Snd m (R ++ [row]) (ts.foldl (outer states row) more) ∧ (∀ k w, Has more k w → Has (ts.foldl (outer states row) more) k w) ∧
      ∀ t ∈ ts, ∀ v, lget states t = some v → ∃ d : Dl, d.length = R.length ∧ okT m d ∧ worthD R d = v ∧ t = sortN (thg d) ∧ ∀ c, (∀ x, c = some x → x < m ∧ x ∉ thg d) → Has (ts.foldl (outer states row) more) (sortN (thg (d ++ [c]))) (worthD (R ++ [row]) (d ++ [c]))
  | [], more, _, hs => ⟨hs, fun _ _ h => h, by simp⟩
  | t :: ts, more, ht, hs => by
    simp only [List.foldl_cons]
    have ht' : ∀ q ∈ ts, q ∈ states.map (·.1) := fun q hq => ht q (List.mem_cons_of_mem _ hq)
    obtain ⟨v, hv⟩ := lget_of_mem (ht t List.mem_cons_self)
    obtain ⟨d, d1, d2, d3, d4⟩ := hS _ _ hv
    have hw0 : worthD (R ++ [row]) (d ++ [none]) = v := by rw [worthD_snoc row _ R d d1, d3]; simp [wt]
    have ek0 : sortN (thg (d ++ [none])) = t := by rw [thg_snoc_none, d4]
    have ho0 : okT m (d ++ [none]) := by unfold okT; rw [thg_snoc_none]; exact d2
    let more1 := lput more t (if v < (lget more t).getD 0 then (lget more t).getD 0 else v)
    have s1 : Snd m (R ++ [row]) more1 := by
      have := snd_putMax hr hR hs (d := d ++ [none]) (by simp [d1]) ho0
      rw [hw0, ek0] at this
      exact this
    have e : outer states row more t = ((List.range row.length).zip row).foldl (inner (worthD R d) (sortN (thg d))) more1 := by
      unfold outer
      simp only [hv, Option.getD_some, d3, ← d4]
      rfl
    have hz : ∀ p ∈ (List.range row.length).zip row, p.1 < m ∧ row.getD p.1 0 = p.2 := fun p hp => by
      obtain ⟨i, hi, e⟩ := List.mem_iff_getElem.mp hp
      simp only [List.length_zip, List.length_range, Nat.min_self] at hi
      rw [List.getElem_zip] at e
      simp only [List.getElem_range] at e
      subst e
      refine ⟨by rw [← hr.1]; exact hi, ?_⟩
      rw [List.getD_eq_getElem?_getD, List.getElem?_eq_getElem hi]; rfl
    obtain ⟨i1, i2, i3⟩ := inner_ok hr hR d1 d2 _ more1 hz s1
    rw [← e] at i1 i2 i3
    obtain ⟨h1, h2, h3⟩ := outer_ok hS ts _ ht' i1
    refine ⟨h1, fun k w h => h2 k w (i2 k w h.putMax), fun q hq v' hv' => ?_⟩
    rcases List.mem_cons.mp hq with rfl | hq
    · rw [hv] at hv'; cases hv'
      refine ⟨d, d1, d2, d3, d4, fun c hc => h2 _ _ ?_⟩
      cases c with
      | none => rw [ek0, hw0]; exact i2 _ _ Has.new
      | some x =>
        obtain ⟨c1, c2⟩ := hc x rfl
        have hx : x < row.length := by rw [hr.1]; exact c1
        refine i3 (x, row[x]) ?_ c2
        refine List.mem_iff_getElem.mpr ⟨x, by simpa using hx, ?_⟩
        rw [List.getElem_zip]; simp
    · exact h3 q hq v' hv'
end
/-- the states of all rows -/
structure StsOk (m : Nat) (R : Mk) (s : Sts) : Prop where
  snd : Snd m R s
  cmp : ∀ d : Dl, d.length = R.length → okT m d → Has s (sortN (thg d)) (worthD R d)
theorem okT_init {m : Nat} {d : Dl} {c : Option Nat} (h : okT m (d ++ [c])) : okT m d ∧ ∀ x, c = some x → x < m ∧ x ∉ thg d := by
  cases c with
  | none => unfold okT at h; rw [thg_snoc_none] at h; exact ⟨h, by simp⟩
  | some t =>
    unfold okT at h
    rw [thg_snoc_some, List.nodup_append] at h
    refine ⟨⟨h.1.1, fun u hu => h.2 u (List.mem_append.mpr (.inl hu))⟩, fun x e => ?_⟩
    cases e
    exact ⟨h.2 t (by simp), fun z => h.1.2.2 t z t (by simp) rfl⟩
theorem rowStep_ok {m : Nat} {R : Mk} {row : List Int} {s : Sts} (hr : rowOk m row) (hR : mkOk m R) (h : StsOk m R s) : StsOk m (R ++ [row]) (rowStep s row) := by
  obtain ⟨h1, _, h3⟩ := outer_ok hr hR h.snd (s.map (·.1)) [] (fun _ h => h) (fun k v z => by cases z)
  refine ⟨h1, fun d hd ho => ?_⟩
  rcases List.eq_nil_or_concat d with rfl | ⟨d', c, rfl⟩
  · simp at hd
  · rw [List.concat_eq_append] at *
    have hd' : d'.length = R.length := by simpa using hd
    obtain ⟨o1, o2⟩ := okT_init ho
    obtain ⟨v, g1, g2⟩ := h.cmp d' hd' o1
    obtain ⟨e, e1, e2, e3, e4, e5⟩ := h3 _ (lget_mem g1) v g1
    have hthg : ∀ x, x ∈ thg e ↔ x ∈ thg d' := fun x => by rw [← mem_sortN (l := thg e), ← e4, mem_sortN]
    obtain ⟨w, w1, w2⟩ := e5 c fun x hx => ⟨(o2 x hx).1, fun z => (o2 x hx).2 ((hthg x).mp z)⟩
    have ek : sortN (thg (e ++ [c])) = sortN (thg (d' ++ [c])) := by
      cases c with
      | none => rw [thg_snoc_none, thg_snoc_none, e4]
      | some t => rw [thg_snoc_some, thg_snoc_some, ← sortN_step (thg e), ← sortN_step (thg d'), e4]
    refine ⟨w, by rw [← ek]; exact w1, ?_⟩
    rw [worthD_snoc row c R e e1] at w2
    rw [worthD_snoc row c R d' hd']
    omega
theorem stsOf_ok {m : Nat} : ∀ (R2 R : Mk) (s : Sts), mkOk m R → mkOk m R2 → StsOk m R s → StsOk m (R ++ R2) (R2.foldl rowStep s)
  | [], R, s, _, _, h => by simpa using h
  | r :: R2, R, s, hR, h2, h => by
    have hr := h2 r List.mem_cons_self
    have := stsOf_ok R2 (R ++ [r]) (rowStep s r) (fun x hx => by
      rcases List.mem_append.mp hx with hx | hx
      · exact hR x hx
      · rw [List.mem_singleton.mp hx]; exact hr) (fun x hx => h2 x (List.mem_cons_of_mem _ hx)) (rowStep_ok hr hR h)
    simpa using this
theorem stsOf_all {m : Nat} {R : Mk} (h : mkOk m R) : StsOk m R (stsOf R) := by
  have := stsOf_ok (m := m) R [] [([], 0)] (fun _ h => by cases h) h ⟨fun k v z => ?_, fun d hd ho => ?_⟩
  · rw [List.nil_append] at this; exact this
  · unfold lget at z
    split at z
    · rename_i e
      cases z
      exact ⟨[], rfl, ⟨by simp [thg], by simp [thg]⟩, rfl, e.symm⟩
    · cases z
  · have : d = [] := List.length_eq_zero_iff.mp hd
    subst this
    exact ⟨0, rfl, Int.le_refl _⟩
/-- the law's own count is the program's -/
theorem lawMost_eq {m : Nat} {R : Mk} (h : mkOk m R) : lawMost R = most m R := by
  have S := stsOf_all h
  obtain ⟨d, h1, h2, h3⟩ := most_some m R
  obtain ⟨v, g1, g2⟩ := S.cmp d h1 h2
  obtain ⟨e, e1, e2, e3, e4⟩ := S.snd _ _ g1
  have le := most_le e2 e1
  have ev : v = most m R := by omega
  refine mx_eq (List.mem_map.mpr ?_) fun y hy => ?_
  · obtain ⟨p, hp, ep⟩ := List.mem_map.mp (lget_mem g1)
    exact ⟨p, hp, by rw [ep, g1, Option.getD_some, ev]⟩
  · obtain ⟨p, hp, rfl⟩ := List.mem_map.mp hy
    obtain ⟨w, hw⟩ := lget_of_mem (List.mem_map.mpr ⟨p, hp, rfl⟩)
    rw [hw, Option.getD_some]
    obtain ⟨f, f1, f2, f3, f4⟩ := S.snd _ _ hw
    rw [← f3]; exact most_le f2 f1
theorem stsOf_ne {m : Nat} {R : Mk} (h : mkOk m R) : stsOf R ≠ [] := by
  intro z
  obtain ⟨d, h1, h2, _⟩ := most_some m R
  obtain ⟨v, g1, _⟩ := (stsOf_all h).cmp d h1 h2
  rw [z] at g1; cases g1
end G
set_option maxHeartbeats 400000
namespace G
open PySem L2
/-! ### wanted of an outcome -/
@[irreducible] def W {α : Type} (o : Out α) (Q : α → Store → Prop) : Prop := match o with
  | .ok a S => Q a S
  | _ => False
section
variable {α β : Type} {o : Out α} {Q Q' : α → Store → Prop} {S : Store}
@[simp] theorem W_ok (a : α) : W (.ok a S) Q = Q a S := by unfold W; rfl
@[simp] theorem W_no : W (.no : Out α) Q = False := by unfold W; rfl
@[simp] theorem W_ex (c d) : W (.ex c d S : Out α) Q = False := by unfold W; rfl
@[simp] theorem W_bind (f : α → Store → Out β) (R : β → Store → Prop) : W (Out.bind o f) R = W o (fun a S => W (f a S) R) := by cases o <;> simp
@[simp] theorem W_shut : W (Out.shut o) Q = W o Q := by cases o <;> simp [Out.shut]
theorem W.imp (h : W o Q) (k : ∀ a S, Q a S → Q' a S) : W o Q' := by
  cases o with
  | ok a S => rw [W_ok] at h ⊢; exact k _ _ h
  | ex c d S => rw [W_ex] at h; exact h.elim
  | no => rw [W_no] at h; exact h.elim
theorem W_eq {a : α} : (o = .ok a S) = W o (fun b S' => b = a ∧ S' = S) := by
  cases o <;> simp
theorem W_of {a : α} (h : o = .ok a S) (hq : Q a S) : W o Q := by rw [h, W_ok]; exact hq
theorem W.out (h : W o Q) : ∃ a S, o = .ok a S ∧ Q a S := by
  cases o with
  | ok a S => rw [W_ok] at h; exact ⟨_, _, rfl, h⟩
  | ex c d S => rw [W_ex] at h; exact h.elim
  | no => rw [W_no] at h; exact h.elim
def Wo (x : Option α) (Q : α → Prop) : Prop := match x with
  | some a => Q a
  | none => False
@[simp] theorem Wo_some {a : α} {Q : α → Prop} : Wo (some a) Q = Q a := (rfl)
@[simp] theorem Wo_none {Q : α → Prop} : Wo none Q = False := (rfl)
@[simp] theorem Wo_map {f : β → α} {x : Option β} {Q : α → Prop} : Wo (x.map f) Q = Wo x (fun a => Q (f a)) := by cases x <;> rfl
@[simp] theorem Wo_bind {f : β → Option α} {x : Option β} {Q : α → Prop} : Wo (x.bind f) Q = Wo x (fun a => Wo (f a) Q) := by cases x <;> rfl
@[simp] theorem Wo_ite {c : Prop} [Decidable c] {x y : Option α} {Q : α → Prop} : Wo (if c then x else y) Q = if c then Wo x Q else Wo y Q := by split <;> rfl
@[simp] theorem W_opt {x : Option α} : W (Out.of x S) Q = Wo x (fun a => Q a S) := by cases x <;> simp
@[simp] theorem W_ite {c : Prop} [Decidable c] {o' : Out α} : W (if c then o else o') Q = if c then W o Q else W o' Q := by split <;> rfl
end
/-! ### slots -/
@[simp] theorem val_zero (d : D) (ρ : Rho) : Rho.val (.v d :: ρ) 0 = some d := (rfl)
@[simp] theorem val_succ (s : Sl) (ρ : Rho) (i : Nat) : Rho.val (s :: ρ) (i + 1) = Rho.val ρ i := (rfl)
@[simp] theorem bor_ol (xs : List D) (ρ : Rho) : Rho.borrow (.ol xs :: ρ) 0 = some (.lst xs) := (rfl)
@[simp] theorem bor_od (t ks vs) (ρ : Rho) : Rho.borrow (.od t ks vs :: ρ) 0 = some (.dct t ks vs) := (rfl)
@[simp] theorem bor_succ (s : Sl) (ρ : Rho) (i : Nat) : Rho.borrow (s :: ρ) (i + 1) = Rho.borrow ρ i := (rfl)
@[simp] theorem wipe_nil (ρ : Rho) : wipeR ρ [] = ρ := (rfl)
@[simp] theorem wipe_cons (ρ : Rho) (v : Nat) (vs : List Nat) : wipeR ρ (v :: vs) = (wipeR ρ vs).set v .no := (rfl)
@[simp] theorem put_name (S : Store) (ρ : Rho) (i : Nat) (d : D) : putTg S ρ (.name i) d = some (ρ.set i (.v d)) := (rfl)
@[simp] theorem put_tup (S : Store) (ρ : Rho) (is : List Nat) (xs : List D) : putTg S ρ (.tup is) (.tup xs) = putAll ρ is xs := (rfl)
@[simp] theorem putAll_nil (ρ : Rho) : putAll ρ [] [] = some ρ := (rfl)
@[simp] theorem putAll_cons (ρ : Rho) (i : Nat) (is : List Nat) (d : D) (ds : List D) : putAll ρ (i :: is) (d :: ds) = putAll (ρ.set i (.v d)) is ds := (rfl)
@[simp] theorem slOf_f (d : D) : slOf false d = some (.v d) := (rfl)
@[simp] theorem slOf_l (xs : List D) : slOf true (.lst xs) = some (.ol xs) := (rfl)
@[simp] theorem slOf_d (t ks vs) : slOf true (.dct t ks vs) = some (.od t ks vs) := (rfl)
@[simp] theorem own_ol (xs : List D) : Sl.own (.ol xs) = true := (rfl)
@[simp] theorem own_od (t ks vs) : Sl.own (.od t ks vs) = true := (rfl)
/-! ### values -/
theorem line_le {n : Nat} (h : n ≤ 1000000) : line n = true := decide_eq_true h
@[simp] theorem line_l0 : line 0 = true := line_le (by omega)
@[simp] theorem line_l1 : line 1 = true := line_le (by omega)
@[simp] theorem line_l2 : line 2 = true := line_le (by omega)
@[simp] theorem line_l3 : line 3 = true := line_le (by omega)
@[simp] theorem line_l4 : line 4 = true := line_le (by omega)
@[simp] theorem line_l5 : line 5 = true := line_le (by omega)
@[simp] theorem line_l6 : line 6 = true := line_le (by omega)
@[simp] theorem line_l7 : line 7 = true := line_le (by omega)
@[simp] theorem line_l8 : line 8 = true := line_le (by omega)
@[simp] theorem line_l9 : line 9 = true := line_le (by omega)
@[simp] theorem line_l10 : line 10 = true := line_le (by omega)
@[simp] theorem line_l11 : line 11 = true := line_le (by omega)
@[simp] theorem line_l12 : line 12 = true := line_le (by omega)
@[simp] theorem line_l13 : line 13 = true := line_le (by omega)
@[simp] theorem line_l14 : line 14 = true := line_le (by omega)
@[simp] theorem line_l15 : line 15 = true := line_le (by omega)
@[simp] theorem line_l16 : line 16 = true := line_le (by omega)
@[simp] theorem bin_addI (S : Store) (i j : Int) : binop S .add (.int i) (.int j) = some (.int (i + j)) := (rfl)
@[simp] theorem bin_subI (S : Store) (i j : Int) : binop S .sub (.int i) (.int j) = some (.int (i - j)) := (rfl)
@[simp] theorem bin_mulL (S : Store) (i j : Int) (h : small i = true) : binop S .mul (.int i) (.int j) = some (.int (i * j)) := by
  show (if small i || small j then some (D.int (i * j)) else none) = _
  rw [h]; rfl
@[simp] theorem bin_mulR (S : Store) (i j : Int) (h : small j = true) : binop S .mul (.int i) (.int j) = some (.int (i * j)) := by
  show (if small i || small j then some (D.int (i * j)) else none) = _
  rw [h, Bool.or_true]; rfl
def okDiv (j : Int) : Bool := decide (j ≠ 0 ∧ j.natAbs < 1073741824)
theorem okDiv_nat {n : Nat} (h : 0 < n ∧ n ≤ 1000000) : okDiv n = true := by
  unfold okDiv
  rw [decide_eq_true_eq]
  omega
@[simp] theorem okDiv_61 : okDiv 61 = true := okDiv_nat (n := 61) (by omega)
theorem small_nat {n : Nat} (h : n ≤ 4294967296) : small n = true := by
  unfold small
  rw [decide_eq_true_eq]
  omega
@[simp] theorem small_0 : small 0 = true := small_nat (n := 0) (by omega)
@[simp] theorem small_1 : small 1 = true := small_nat (n := 1) (by omega)
@[simp] theorem bin_addT (S : Store) (x y : List D) : binop S .add (.tup x) (.tup y) = if line (x.length + y.length) then some (.tup (x ++ y)) else none := (rfl)
@[simp] theorem bin_addL (S : Store) (x y : List D) : binop S .add (.lst x) (.lst y) = if line (x.length + y.length) then some (.lst (x ++ y)) else none := (rfl)
@[simp] theorem bin_fdiv (S : Store) (i j : Int) (h : okDiv j = true) : binop S .fdiv (.int i) (.int j) = some (.int (i.fdiv j)) := by
  show (if okDiv j then some (D.int (i.fdiv j)) else none) = _
  rw [h]; rfl
@[simp] theorem bin_mod (S : Store) (i j : Int) : binop S .mod (.int i) (.int j) = if decide (j ≠ 0) then some (.int (i.fmod j)) else none := (rfl)

theorem bin_shl (S : Store) (t : Nat) (h : t ≤ 1000) : binop S .shl (.int 1) (.int t) = some (.int (1 * 2 ^ t)) := by
  show (if decide (0 ≤ (t : Int) ∧ (t : Int) ≤ 1000) && decide ((1 : Int).natAbs < 2 ^ 64) then some (D.int (1 * 2 ^ (t : Int).toNat)) else none) = _
  rw [show decide (0 ≤ (t : Int) ∧ (t : Int) ≤ 1000) = true by rw [decide_eq_true_eq]; omega, show decide ((1 : Int).natAbs < 2 ^ 64) = true by decide]
  rfl
@[simp] theorem bin_shr (S : Store) (i j : Int) : binop S .shr (.int i) (.int j) = if decide (0 ≤ j) then some (.int (i / 2 ^ j.toNat)) else none := (rfl)
@[simp] theorem bin_band (S : Store) (i j : Int) : binop S .band (.int i) (.int j) = some (.int (Builtin.bitAnd i j)) := (rfl)
@[simp] theorem bin_bor (S : Store) (i j : Int) : binop S .bor (.int i) (.int j) = some (.int (Builtin.bitOr i j)) := (rfl)
theorem pyEq_int (a b : Int) : pyEq (.int a) (.int b) = some (decide (a = b)) := rfl
theorem pyEq_str (a b : Str) : pyEq (.str a) (.str b) = if PyData.strOk a && PyData.strOk b then some (decide (a = b)) else none := by
  unfold pyEq
  simp only [toPy]
  have h : ∀ x, fine (.str x) = PyData.strOk x := fun x => by
    unfold fine SeqAt.shaped
    simp [PyData.canLay0, PyData.depth]
  rw [h, h]
  simp only [PyData.eqv]
  congr 2
theorem cmp_eqS (S : Store) (a b : Str) : cmpop S .eq (.str a) (.str b) = if PyData.strOk a && PyData.strOk b then some (decide (a = b)) else none := pyEq_str a b
@[simp] theorem cmp_eqI (S : Store) (a b : Int) : cmpop S .eq (.int a) (.int b) = some (decide (a = b)) := (rfl)
@[simp] theorem cmp_neI (S : Store) (a b : Int) : cmpop S .ne (.int a) (.int b) = some (!decide (a = b)) := (rfl)
@[simp] theorem cmp_lt (S : Store) (a b : Int) : cmpop S .lt (.int a) (.int b) = some (decide (a < b)) := (rfl)
@[simp] theorem cmp_le (S : Store) (a b : Int) : cmpop S .le (.int a) (.int b) = some (decide (a ≤ b)) := (rfl)
@[simp] theorem cmp_gt (S : Store) (a b : Int) : cmpop S .gt (.int a) (.int b) = some (decide (b < a)) := (rfl)
@[simp] theorem cmp_ge (S : Store) (a b : Int) : cmpop S .ge (.int a) (.int b) = some (decide (b ≤ a)) := (rfl)
@[simp] theorem cmp_is0 (S : Store) : cmpop S .is_ .non .non = some true := (rfl)
@[simp] theorem cmp_is1 (S : Store) (i : Int) : cmpop S .is_ (.int i) .non = some false := (rfl)
@[simp] theorem cmp_is2 (S : Store) (i : Bool) : cmpop S .is_ (.bl i) .non = some false := (rfl)
@[simp] theorem cmp_is3 (S : Store) (i : List D) : cmpop S .is_ (.tup i) .non = some false := (rfl)
@[simp] theorem cmp_is4 (S : Store) (i : Str) : cmpop S .is_ (.str i) .non = some false := (rfl)
@[simp] theorem cmp_is5 (S : Store) (i : List D) : cmpop S .is_ (.lst i) .non = some false := (rfl)
@[simp] theorem cmp_isn0 (S : Store) : cmpop S .isn .non .non = some false := (rfl)
@[simp] theorem cmp_isn1 (S : Store) (i : Int) : cmpop S .isn (.int i) .non = some true := (rfl)
@[simp] theorem cmp_isn3 (S : Store) (i : List D) : cmpop S .isn (.tup i) .non = some true := (rfl)
@[simp] theorem seqOf_tup (S : Store) (xs : List D) : seqOf S (.tup xs) = some (true, xs) := (rfl)
@[simp] theorem seqOf_lst (S : Store) (xs : List D) : seqOf S (.lst xs) = some (false, xs) := (rfl)
@[simp] theorem seqOf_kl (S : Store) (xs : List D) : seqOf S (.kl xs) = some (false, xs) := (rfl)
@[simp] theorem seqs_tup (S : Store) (xs : List D) : seqs S (.tup xs) = some xs := (rfl)
@[simp] theorem seqs_lst (S : Store) (xs : List D) : seqs S (.lst xs) = some xs := (rfl)
@[simp] theorem seqs_kl (S : Store) (xs : List D) : seqs S (.kl xs) = some xs := (rfl)
@[simp] theorem lseq_lst (S : Store) (xs : List D) : lseq S (.lst xs) = some xs := (rfl)
@[simp] theorem dctOf_dct (S : Store) (t ks vs) : dctOf S (.dct t ks vs) = some (t, ks, vs) := (rfl)
@[simp] theorem dctOf_tup (S : Store) (xs : List D) : dctOf S (.tup xs) = none := (rfl)
@[simp] theorem dctOf_lst (S : Store) (xs : List D) : dctOf S (.lst xs) = none := (rfl)
@[simp] theorem dctOf_kl (S : Store) (xs : List D) : dctOf S (.kl xs) = none := (rfl)
@[simp] theorem index_tup (S : Store) (xs : List D) (k : Int) : index S (.tup xs) (.int k) = (ixOf xs.length k).bind fun j => xs[j]? := (rfl)
@[simp] theorem index_lst (S : Store) (xs : List D) (k : Int) : index S (.lst xs) (.int k) = (ixOf xs.length k).bind fun j => xs[j]? := (rfl)
@[simp] theorem index_kl (S : Store) (xs : List D) (k : Int) : index S (.kl xs) (.int k) = (ixOf xs.length k).bind fun j => xs[j]? := (rfl)
@[simp] theorem index_dct (S : Store) (t ks vs i) : index S (.dct t ks vs) i = if isKey t i then dget ks vs i else none := (rfl)
@[simp] theorem isKey_int (i : Int) : isKey false (.int i) = true := (rfl)
@[simp] theorem isTys_nil (d : D) : isTys [] d = some false := (rfl)
@[simp] theorem isTys_one (t : Ty) (d : D) : isTys [t] d = isTy t d := by
  show (match isTy t d, some false with
    | some a, some b => some (a || b)
    | _, _ => none) = _
  cases isTy t d <;> simp
@[simp] theorem isTy_tt (xs) : isTy .tup (.tup xs) = some true := (rfl)
@[simp] theorem isTy_ti (xs) : isTy .tup (.int xs) = some false := (rfl)
@[simp] theorem isTy_tb (xs) : isTy .tup (.bl xs) = some false := (rfl)
@[simp] theorem isTy_ts (xs) : isTy .tup (.str xs) = some false := (rfl)
@[simp] theorem isTy_tl (xs) : isTy .tup (.lst xs) = some false := (rfl)
@[simp] theorem isTy_tn : isTy .tup .non = some false := (rfl)
@[simp] theorem isTy_it (xs) : isTy .int (.tup xs) = some false := (rfl)
@[simp] theorem isTy_ii (xs) : isTy .int (.int xs) = some true := (rfl)
@[simp] theorem isTy_ib (xs) : isTy .int (.bl xs) = some true := (rfl)
@[simp] theorem isTy_is (xs) : isTy .int (.str xs) = some false := (rfl)
@[simp] theorem isTy_il (xs) : isTy .int (.lst xs) = some false := (rfl)
@[simp] theorem isTy_in : isTy .int .non = some false := (rfl)
@[simp] theorem isTy_bt (xs) : isTy .bool (.tup xs) = some false := (rfl)
@[simp] theorem isTy_bi (xs) : isTy .bool (.int xs) = some false := (rfl)
@[simp] theorem isTy_bb (xs) : isTy .bool (.bl xs) = some true := (rfl)
@[simp] theorem isTy_bs (xs) : isTy .bool (.str xs) = some false := (rfl)
@[simp] theorem isTy_bl (xs) : isTy .bool (.lst xs) = some false := (rfl)
@[simp] theorem isTy_bn : isTy .bool .non = some false := (rfl)
@[simp] theorem isTy_st (xs) : isTy .str (.tup xs) = some false := (rfl)
@[simp] theorem isTy_si (xs) : isTy .str (.int xs) = some false := (rfl)
@[simp] theorem isTy_sb (xs) : isTy .str (.bl xs) = some false := (rfl)
@[simp] theorem isTy_ss (xs) : isTy .str (.str xs) = some true := (rfl)
@[simp] theorem isTy_sl (xs) : isTy .str (.lst xs) = some false := (rfl)
@[simp] theorem isTy_sn : isTy .str .non = some false := (rfl)
@[simp] theorem isTy_lt (xs) : isTy .lst (.tup xs) = some false := (rfl)
@[simp] theorem isTy_li (xs) : isTy .lst (.int xs) = some false := (rfl)
@[simp] theorem isTy_ll (xs) : isTy .lst (.lst xs) = some true := (rfl)
@[simp] theorem isTy_ls (xs) : isTy .lst (.str xs) = some false := (rfl)
@[simp] theorem isTy_lb (xs) : isTy .lst (.bl xs) = some false := (rfl)
@[simp] theorem isTy_ln : isTy .lst .non = some false := (rfl)
@[simp] theorem isTy_dt (xs) : isTy .dct (.tup xs) = some false := (rfl)
@[simp] theorem isTy_di (xs) : isTy .dct (.int xs) = some false := (rfl)
@[simp] theorem isTy_dl (xs) : isTy .dct (.lst xs) = some false := (rfl)
@[simp] theorem isTy_ds (xs) : isTy .dct (.str xs) = some false := (rfl)
@[simp] theorem isTy_db (xs) : isTy .dct (.bl xs) = some false := (rfl)
@[simp] theorem isTy_dn : isTy .dct .non = some false := (rfl)
@[simp] theorem b_lenT (S : Store) (xs : List D) : bfun S .len [.tup xs] = some (.int xs.length) := (rfl)
@[simp] theorem b_lenL (S : Store) (xs : List D) : bfun S .len [.lst xs] = some (.int xs.length) := (rfl)
@[simp] theorem b_lenK (S : Store) (xs : List D) : bfun S .len [.kl xs] = some (.int xs.length) := (rfl)
@[simp] theorem b_tupL (S : Store) (xs : List D) : bfun S .tuple [.lst xs] = some (.tup xs) := (rfl)
@[simp] theorem b_tupT (S : Store) (xs : List D) : bfun S .tuple [.tup xs] = some (.tup xs) := (rfl)
@[simp] theorem b_max2 (S : Store) (i j : Int) : bfun S .max2 [.int i, .int j] = some (.int (if i < j then j else i)) := (rfl)
@[simp] theorem b_min2 (S : Store) (i j : Int) : bfun S .min2 [.int i, .int j] = some (.int (if j < i then j else i)) := (rfl)
@[simp] theorem b_intI (S : Store) (i : Int) : bfun S .int [.int i] = some (.int i) := (rfl)
@[simp] theorem b_intB (S : Store) (b : Bool) : bfun S .int [.bl b] = some (.int (if b then 1 else 0)) := (rfl)
@[simp] theorem b_abs (S : Store) (i : Int) : bfun S .abs [.int i] = some (.int (if i < 0 then -i else i)) := (rfl)
theorem intsOf_map' {α : Type} (f : α → Int) : ∀ xs : List α, intsOf (xs.map fun x => D.int (f x)) = some (xs.map f)
  | [] => rfl
  | x :: xs => by simp [intsOf, intsOf_map' f xs]
theorem blsOf_map' {α : Type} (f : α → Bool) : ∀ xs : List α, blsOf (xs.map fun x => D.bl (f x)) = some (xs.map f)
  | [] => rfl
  | x :: xs => by simp [blsOf, blsOf_map' f xs]
theorem maxI_mx : ∀ {l : List Int}, l ≠ [] → maxI l = some (mx l)
  | [], h => absurd rfl h
  | _ :: _, _ => rfl
@[simp] theorem b_max1 {α : Type} (S : Store) (f : α → Int) (xs : List α) (h : xs ≠ []) : bfun S .max1 [.lst (xs.map fun x => D.int (f x))] = some (.int (mx (xs.map f))) := by
  simp only [bfun, bMax1, lseq_lst, Option.bind_some, intsOf_map']
  rw [maxI_mx (by simpa using h)]; rfl
@[simp] theorem b_all {α : Type} (S : Store) (f : α → Bool) (xs : List α) : bfun S .all [.lst (xs.map fun x => D.bl (f x))] = some (.bl (xs.all f)) := by
  simp only [bfun, bAll, lseq_lst, Option.bind_some, blsOf_map']
  simp [List.all_map]
/-! ### positions -/
theorem ixOf_nat {n k : Nat} (h : k < n) : ixOf n (k : Int) = some k := by
  unfold ixOf ixN
  rw [if_pos (by omega), if_pos (by omega), Int.toNat_natCast]
theorem ixOf_last {n : Nat} (h : 0 < n) : ixOf n (-1) = some (n - 1) := by
  unfold ixOf ixN
  rw [if_neg (by omega), if_pos (by omega)]
  congr 1
  omega
@[simp] theorem ixOf_lit0 (n : Nat) : ixOf (n + 1) 0 = some 0 := ixOf_nat (k := 0) (by omega)
@[simp] theorem ixOf_lit1 (n : Nat) : ixOf (n + 2) 1 = some 1 := ixOf_nat (k := 1) (by omega)
@[simp] theorem ixOf_lit2 (n : Nat) : ixOf (n + 3) 2 = some 2 := ixOf_nat (k := 2) (by omega)
@[simp] theorem ixOf_lit3 (n : Nat) : ixOf (n + 4) 3 = some 3 := ixOf_nat (k := 3) (by omega)
/-! ### slices -/
theorem slice_tup (S : Store) (xs : List D) (a b : Option Int) : slice S (.tup xs) a b = some (.tup (cutD xs a b)) := rfl
theorem slice_lst (S : Store) (xs : List D) (a b : Option Int) : slice S (.lst xs) a b = some (.lst (cutD xs a b)) := rfl
end G
set_option maxHeartbeats 400000
namespace G
open PySem
@[simp] theorem sq_put_put (S : Store) : cmpop S .eq (.str "put") (.str "put") = some true := by rw [cmp_eqS]; decide +kernel
@[simp] theorem sq_put_come (S : Store) : cmpop S .eq (.str "put") (.str "come") = some false := by rw [cmp_eqS]; decide +kernel
@[simp] theorem sq_put_go (S : Store) : cmpop S .eq (.str "put") (.str "go") = some false := by rw [cmp_eqS]; decide +kernel
@[simp] theorem sq_put_wish (S : Store) : cmpop S .eq (.str "put") (.str "wish") = some false := by rw [cmp_eqS]; decide +kernel
@[simp] theorem sq_put_lift (S : Store) : cmpop S .eq (.str "put") (.str "lift") = some false := by rw [cmp_eqS]; decide +kernel
@[simp] theorem sq_put_undo (S : Store) : cmpop S .eq (.str "put") (.str "undo") = some false := by rw [cmp_eqS]; decide +kernel
@[simp] theorem sq_put_worth (S : Store) : cmpop S .eq (.str "put") (.str "worth") = some false := by rw [cmp_eqS]; decide +kernel
@[simp] theorem sq_put_price (S : Store) : cmpop S .eq (.str "put") (.str "price") = some false := by rw [cmp_eqS]; decide +kernel
@[simp] theorem sq_put_served (S : Store) : cmpop S .eq (.str "put") (.str "served") = some false := by rw [cmp_eqS]; decide +kernel
@[simp] theorem sq_come_put (S : Store) : cmpop S .eq (.str "come") (.str "put") = some false := by rw [cmp_eqS]; decide +kernel
@[simp] theorem sq_come_come (S : Store) : cmpop S .eq (.str "come") (.str "come") = some true := by rw [cmp_eqS]; decide +kernel
@[simp] theorem sq_come_go (S : Store) : cmpop S .eq (.str "come") (.str "go") = some false := by rw [cmp_eqS]; decide +kernel
@[simp] theorem sq_come_wish (S : Store) : cmpop S .eq (.str "come") (.str "wish") = some false := by rw [cmp_eqS]; decide +kernel
@[simp] theorem sq_come_lift (S : Store) : cmpop S .eq (.str "come") (.str "lift") = some false := by rw [cmp_eqS]; decide +kernel
@[simp] theorem sq_come_undo (S : Store) : cmpop S .eq (.str "come") (.str "undo") = some false := by rw [cmp_eqS]; decide +kernel
@[simp] theorem sq_come_worth (S : Store) : cmpop S .eq (.str "come") (.str "worth") = some false := by rw [cmp_eqS]; decide +kernel
@[simp] theorem sq_come_price (S : Store) : cmpop S .eq (.str "come") (.str "price") = some false := by rw [cmp_eqS]; decide +kernel
@[simp] theorem sq_come_served (S : Store) : cmpop S .eq (.str "come") (.str "served") = some false := by rw [cmp_eqS]; decide +kernel
@[simp] theorem sq_go_put (S : Store) : cmpop S .eq (.str "go") (.str "put") = some false := by rw [cmp_eqS]; decide +kernel
@[simp] theorem sq_go_come (S : Store) : cmpop S .eq (.str "go") (.str "come") = some false := by rw [cmp_eqS]; decide +kernel
@[simp] theorem sq_go_go (S : Store) : cmpop S .eq (.str "go") (.str "go") = some true := by rw [cmp_eqS]; decide +kernel
@[simp] theorem sq_go_wish (S : Store) : cmpop S .eq (.str "go") (.str "wish") = some false := by rw [cmp_eqS]; decide +kernel
@[simp] theorem sq_go_lift (S : Store) : cmpop S .eq (.str "go") (.str "lift") = some false := by rw [cmp_eqS]; decide +kernel
@[simp] theorem sq_go_undo (S : Store) : cmpop S .eq (.str "go") (.str "undo") = some false := by rw [cmp_eqS]; decide +kernel
@[simp] theorem sq_go_worth (S : Store) : cmpop S .eq (.str "go") (.str "worth") = some false := by rw [cmp_eqS]; decide +kernel
@[simp] theorem sq_go_price (S : Store) : cmpop S .eq (.str "go") (.str "price") = some false := by rw [cmp_eqS]; decide +kernel
@[simp] theorem sq_go_served (S : Store) : cmpop S .eq (.str "go") (.str "served") = some false := by rw [cmp_eqS]; decide +kernel
@[simp] theorem sq_wish_put (S : Store) : cmpop S .eq (.str "wish") (.str "put") = some false := by rw [cmp_eqS]; decide +kernel
@[simp] theorem sq_wish_come (S : Store) : cmpop S .eq (.str "wish") (.str "come") = some false := by rw [cmp_eqS]; decide +kernel
@[simp] theorem sq_wish_go (S : Store) : cmpop S .eq (.str "wish") (.str "go") = some false := by rw [cmp_eqS]; decide +kernel
@[simp] theorem sq_wish_wish (S : Store) : cmpop S .eq (.str "wish") (.str "wish") = some true := by rw [cmp_eqS]; decide +kernel
@[simp] theorem sq_wish_lift (S : Store) : cmpop S .eq (.str "wish") (.str "lift") = some false := by rw [cmp_eqS]; decide +kernel
@[simp] theorem sq_wish_undo (S : Store) : cmpop S .eq (.str "wish") (.str "undo") = some false := by rw [cmp_eqS]; decide +kernel
@[simp] theorem sq_wish_worth (S : Store) : cmpop S .eq (.str "wish") (.str "worth") = some false := by rw [cmp_eqS]; decide +kernel
@[simp] theorem sq_wish_price (S : Store) : cmpop S .eq (.str "wish") (.str "price") = some false := by rw [cmp_eqS]; decide +kernel
@[simp] theorem sq_wish_served (S : Store) : cmpop S .eq (.str "wish") (.str "served") = some false := by rw [cmp_eqS]; decide +kernel
@[simp] theorem sq_lift_put (S : Store) : cmpop S .eq (.str "lift") (.str "put") = some false := by rw [cmp_eqS]; decide +kernel
@[simp] theorem sq_lift_come (S : Store) : cmpop S .eq (.str "lift") (.str "come") = some false := by rw [cmp_eqS]; decide +kernel
@[simp] theorem sq_lift_go (S : Store) : cmpop S .eq (.str "lift") (.str "go") = some false := by rw [cmp_eqS]; decide +kernel
@[simp] theorem sq_lift_wish (S : Store) : cmpop S .eq (.str "lift") (.str "wish") = some false := by rw [cmp_eqS]; decide +kernel
@[simp] theorem sq_lift_lift (S : Store) : cmpop S .eq (.str "lift") (.str "lift") = some true := by rw [cmp_eqS]; decide +kernel
@[simp] theorem sq_lift_undo (S : Store) : cmpop S .eq (.str "lift") (.str "undo") = some false := by rw [cmp_eqS]; decide +kernel
@[simp] theorem sq_lift_worth (S : Store) : cmpop S .eq (.str "lift") (.str "worth") = some false := by rw [cmp_eqS]; decide +kernel
@[simp] theorem sq_lift_price (S : Store) : cmpop S .eq (.str "lift") (.str "price") = some false := by rw [cmp_eqS]; decide +kernel
@[simp] theorem sq_lift_served (S : Store) : cmpop S .eq (.str "lift") (.str "served") = some false := by rw [cmp_eqS]; decide +kernel
@[simp] theorem sq_undo_put (S : Store) : cmpop S .eq (.str "undo") (.str "put") = some false := by rw [cmp_eqS]; decide +kernel
@[simp] theorem sq_undo_come (S : Store) : cmpop S .eq (.str "undo") (.str "come") = some false := by rw [cmp_eqS]; decide +kernel
@[simp] theorem sq_undo_go (S : Store) : cmpop S .eq (.str "undo") (.str "go") = some false := by rw [cmp_eqS]; decide +kernel
@[simp] theorem sq_undo_wish (S : Store) : cmpop S .eq (.str "undo") (.str "wish") = some false := by rw [cmp_eqS]; decide +kernel
@[simp] theorem sq_undo_lift (S : Store) : cmpop S .eq (.str "undo") (.str "lift") = some false := by rw [cmp_eqS]; decide +kernel
@[simp] theorem sq_undo_undo (S : Store) : cmpop S .eq (.str "undo") (.str "undo") = some true := by rw [cmp_eqS]; decide +kernel
@[simp] theorem sq_undo_worth (S : Store) : cmpop S .eq (.str "undo") (.str "worth") = some false := by rw [cmp_eqS]; decide +kernel
@[simp] theorem sq_undo_price (S : Store) : cmpop S .eq (.str "undo") (.str "price") = some false := by rw [cmp_eqS]; decide +kernel
@[simp] theorem sq_undo_served (S : Store) : cmpop S .eq (.str "undo") (.str "served") = some false := by rw [cmp_eqS]; decide +kernel
@[simp] theorem sq_worth_put (S : Store) : cmpop S .eq (.str "worth") (.str "put") = some false := by rw [cmp_eqS]; decide +kernel
@[simp] theorem sq_worth_come (S : Store) : cmpop S .eq (.str "worth") (.str "come") = some false := by rw [cmp_eqS]; decide +kernel
@[simp] theorem sq_worth_go (S : Store) : cmpop S .eq (.str "worth") (.str "go") = some false := by rw [cmp_eqS]; decide +kernel
@[simp] theorem sq_worth_wish (S : Store) : cmpop S .eq (.str "worth") (.str "wish") = some false := by rw [cmp_eqS]; decide +kernel
@[simp] theorem sq_worth_lift (S : Store) : cmpop S .eq (.str "worth") (.str "lift") = some false := by rw [cmp_eqS]; decide +kernel
@[simp] theorem sq_worth_undo (S : Store) : cmpop S .eq (.str "worth") (.str "undo") = some false := by rw [cmp_eqS]; decide +kernel
@[simp] theorem sq_worth_worth (S : Store) : cmpop S .eq (.str "worth") (.str "worth") = some true := by rw [cmp_eqS]; decide +kernel
@[simp] theorem sq_worth_price (S : Store) : cmpop S .eq (.str "worth") (.str "price") = some false := by rw [cmp_eqS]; decide +kernel
@[simp] theorem sq_worth_served (S : Store) : cmpop S .eq (.str "worth") (.str "served") = some false := by rw [cmp_eqS]; decide +kernel
@[simp] theorem sq_price_put (S : Store) : cmpop S .eq (.str "price") (.str "put") = some false := by rw [cmp_eqS]; decide +kernel
@[simp] theorem sq_price_come (S : Store) : cmpop S .eq (.str "price") (.str "come") = some false := by rw [cmp_eqS]; decide +kernel
@[simp] theorem sq_price_go (S : Store) : cmpop S .eq (.str "price") (.str "go") = some false := by rw [cmp_eqS]; decide +kernel
@[simp] theorem sq_price_wish (S : Store) : cmpop S .eq (.str "price") (.str "wish") = some false := by rw [cmp_eqS]; decide +kernel
@[simp] theorem sq_price_lift (S : Store) : cmpop S .eq (.str "price") (.str "lift") = some false := by rw [cmp_eqS]; decide +kernel
@[simp] theorem sq_price_undo (S : Store) : cmpop S .eq (.str "price") (.str "undo") = some false := by rw [cmp_eqS]; decide +kernel
@[simp] theorem sq_price_worth (S : Store) : cmpop S .eq (.str "price") (.str "worth") = some false := by rw [cmp_eqS]; decide +kernel
@[simp] theorem sq_price_price (S : Store) : cmpop S .eq (.str "price") (.str "price") = some true := by rw [cmp_eqS]; decide +kernel
@[simp] theorem sq_price_served (S : Store) : cmpop S .eq (.str "price") (.str "served") = some false := by rw [cmp_eqS]; decide +kernel
@[simp] theorem sq_served_put (S : Store) : cmpop S .eq (.str "served") (.str "put") = some false := by rw [cmp_eqS]; decide +kernel
@[simp] theorem sq_served_come (S : Store) : cmpop S .eq (.str "served") (.str "come") = some false := by rw [cmp_eqS]; decide +kernel
@[simp] theorem sq_served_go (S : Store) : cmpop S .eq (.str "served") (.str "go") = some false := by rw [cmp_eqS]; decide +kernel
@[simp] theorem sq_served_wish (S : Store) : cmpop S .eq (.str "served") (.str "wish") = some false := by rw [cmp_eqS]; decide +kernel
@[simp] theorem sq_served_lift (S : Store) : cmpop S .eq (.str "served") (.str "lift") = some false := by rw [cmp_eqS]; decide +kernel
@[simp] theorem sq_served_undo (S : Store) : cmpop S .eq (.str "served") (.str "undo") = some false := by rw [cmp_eqS]; decide +kernel
@[simp] theorem sq_served_worth (S : Store) : cmpop S .eq (.str "served") (.str "worth") = some false := by rw [cmp_eqS]; decide +kernel
@[simp] theorem sq_served_price (S : Store) : cmpop S .eq (.str "served") (.str "price") = some false := by rw [cmp_eqS]; decide +kernel
@[simp] theorem sq_served_served (S : Store) : cmpop S .eq (.str "served") (.str "served") = some true := by rw [cmp_eqS]; decide +kernel
/-- the defs of the program, numbered as in k95 -/
structure Base (P : Pg) : Prop where
  fn : ∀ i, i < 43 → i ≠ 21 → P.fn i = k95P.pg.fn i
  glo : ∀ i, 0 < i → i < 8 → P.glo i = k95P.pg.glo i
  tab : P.tab 0 = k95P.pg.tab 0
structure BaseP (P : Pg) : Prop extends Base P where
  f21 : P.fn 21 = k95P.pg.fn 21
  f43 : P.fn 43 = k95P.pg.fn 43
  f44 : P.fn 44 = k95P.pg.fn 44
  f45 : P.fn 45 = k95P.pg.fn 45
def evOf (P : Pg) (n : Nat) : Ev := ⟨run P n, P.glo, P.tab, P.sub⟩
@[simp] theorem evOf_call (P n) : (evOf P n).call = run P n := (rfl)
@[simp] theorem evOf_glo (P n) : (evOf P n).glo = P.glo := (rfl)
@[simp] theorem evOf_tab (P n) : (evOf P n).tab = P.tab := (rfl)
@[simp] theorem evOf_sub (P n) : (evOf P n).sub = P.sub := (rfl)
def resD : Res → D
  | .rt d => d
  | .nx _ => .non
@[simp] theorem resD_rt (d : D) : resD (.rt d) = d := (rfl)
@[simp] theorem resD_nx (ρ : Rho) : resD (.nx ρ) = .non := (rfl)
def fin (o : Out Res) : Out D := o.bind fun r S => .ok (resD r) S
@[simp] theorem fin_ok (r : Res) (S : Store) : fin (.ok r S) = .ok (resD r) S := (rfl)
@[simp] theorem fin_ex (c d) (S : Store) : fin (.ex c d S) = .ex c d S := (rfl)
@[simp] theorem fin_no : fin .no = .no := (rfl)
@[simp] theorem W_fin (o : Out Res) (Q : D → Store → Prop) : W (fin o) Q = W o (fun r S => Q (resD r) S) := by cases o <;> simp
theorem run_at {P : Pg} {n f : Nat} {ds : List D} {S : Store} {fn : Fn} (h : P.fn f = some fn) (hl : ds.length = fn.np) : run P (n + 1) f ds S = fin (execs (evOf P n) (rho0 fn.n ds) fn.body S) := by
  unfold run
  rw [h]
  simp only [hl, if_true]
  unfold fin evOf Out.bind
  cases execs ⟨run P n, P.glo, P.tab, P.sub⟩ (rho0 fn.n ds) fn.body S with
  | ok r S1 => cases r <;> rfl
  | ex c d S1 => rfl
  | no => rfl
section
variable {P : Pg} (B : Base P)
include B
theorem Base.g1 : P.glo 1 = some (.int 5) := B.glo 1 (by decide) (by decide)
theorem Base.g2 : P.glo 2 = some (.int 5) := B.glo 2 (by decide) (by decide)
theorem Base.g3 : P.glo 3 = some (.int 99) := B.glo 3 (by decide) (by decide)
theorem Base.g4 : P.glo 4 = some (.str "worth") := B.glo 4 (by decide) (by decide)
theorem Base.g5 : P.glo 5 = some (.str "price") := B.glo 5 (by decide) (by decide)
theorem Base.g6 : P.glo 6 = some (.str "served") := B.glo 6 (by decide) (by decide)
theorem Base.g7 : P.glo 7 = some (.int 999) := B.glo 7 (by decide) (by decide)
theorem Base.b0 (n : Nat) (d0 : D) (S : Store) : run P (n + 1) 0 [d0] S = fin (execs (evOf P n) [.v d0] k95b0 S) := run_at (fn := ⟨1, 1, k95b0⟩) (B.fn 0 (by decide) (by decide)) rfl
theorem Base.b1 (n : Nat) (d0 d1 d2 : D) (S : Store) : run P (n + 1) 1 [d0, d1, d2] S = fin (execs (evOf P n) [.v d0, .v d1, .v d2] k95b1 S) := run_at (fn := ⟨3, 3, k95b1⟩) (B.fn 1 (by decide) (by decide)) rfl
theorem Base.b2 (n : Nat) (d0 d1 : D) (S : Store) : run P (n + 1) 2 [d0, d1] S = fin (execs (evOf P n) [.v d0, .v d1] k95b2 S) := run_at (fn := ⟨2, 2, k95b2⟩) (B.fn 2 (by decide) (by decide)) rfl
theorem Base.b3 (n : Nat) (d0 : D) (S : Store) : run P (n + 1) 3 [d0] S = fin (execs (evOf P n) [.v d0] k95b3 S) := run_at (fn := ⟨1, 1, k95b3⟩) (B.fn 3 (by decide) (by decide)) rfl
theorem Base.b4 (n : Nat) (d0 d1 : D) (S : Store) : run P (n + 1) 4 [d0, d1] S = fin (execs (evOf P n) [.v d0, .v d1, .no] k95b4 S) := run_at (fn := ⟨2, 3, k95b4⟩) (B.fn 4 (by decide) (by decide)) rfl
theorem Base.b5 (n : Nat) (d0 : D) (S : Store) : run P (n + 1) 5 [d0] S = fin (execs (evOf P n) [.v d0, .no, .no] k95b5 S) := run_at (fn := ⟨1, 3, k95b5⟩) (B.fn 5 (by decide) (by decide)) rfl
theorem Base.b6 (n : Nat) (d0 : D) (S : Store) : run P (n + 1) 6 [d0] S = fin (execs (evOf P n) [.v d0] k95b6 S) := run_at (fn := ⟨1, 1, k95b6⟩) (B.fn 6 (by decide) (by decide)) rfl
theorem Base.b7 (n : Nat) (d0 : D) (S : Store) : run P (n + 1) 7 [d0] S = fin (execs (evOf P n) [.v d0] k95b7 S) := run_at (fn := ⟨1, 1, k95b7⟩) (B.fn 7 (by decide) (by decide)) rfl
theorem Base.b8 (n : Nat) (d0 d1 d2 d3 : D) (S : Store) : run P (n + 1) 8 [d0, d1, d2, d3] S = fin (execs (evOf P n) [.v d0, .v d1, .v d2, .v d3, .no] k95b8 S) := run_at (fn := ⟨4, 5, k95b8⟩) (B.fn 8 (by decide) (by decide)) rfl
theorem Base.b9 (n : Nat) (d0 d1 : D) (S : Store) : run P (n + 1) 9 [d0, d1] S = fin (execs (evOf P n) [.v d0, .v d1] k95b9 S) := run_at (fn := ⟨2, 2, k95b9⟩) (B.fn 9 (by decide) (by decide)) rfl
theorem Base.b10 (n : Nat) (d0 d1 : D) (S : Store) : run P (n + 1) 10 [d0, d1] S = fin (execs (evOf P n) [.v d0, .v d1, .no] k95b10 S) := run_at (fn := ⟨2, 3, k95b10⟩) (B.fn 10 (by decide) (by decide)) rfl
theorem Base.b11 (n : Nat) (d0 d1 : D) (S : Store) : run P (n + 1) 11 [d0, d1] S = fin (execs (evOf P n) [.v d0, .v d1] k95b11 S) := run_at (fn := ⟨2, 2, k95b11⟩) (B.fn 11 (by decide) (by decide)) rfl
theorem Base.b12 (n : Nat) (d0 d1 : D) (S : Store) : run P (n + 1) 12 [d0, d1] S = fin (execs (evOf P n) [.v d0, .v d1] k95b12 S) := run_at (fn := ⟨2, 2, k95b12⟩) (B.fn 12 (by decide) (by decide)) rfl
theorem Base.b13 (n : Nat) (d0 d1 : D) (S : Store) : run P (n + 1) 13 [d0, d1] S = fin (execs (evOf P n) [.v d0, .v d1, .no] k95b13 S) := run_at (fn := ⟨2, 3, k95b13⟩) (B.fn 13 (by decide) (by decide)) rfl
theorem Base.b14 (n : Nat) (d0 d1 : D) (S : Store) : run P (n + 1) 14 [d0, d1] S = fin (execs (evOf P n) [.v d0, .v d1] k95b14 S) := run_at (fn := ⟨2, 2, k95b14⟩) (B.fn 14 (by decide) (by decide)) rfl
theorem Base.b15 (n : Nat) (d0 d1 : D) (S : Store) : run P (n + 1) 15 [d0, d1] S = fin (execs (evOf P n) [.v d0, .v d1] k95b15 S) := run_at (fn := ⟨2, 2, k95b15⟩) (B.fn 15 (by decide) (by decide)) rfl
theorem Base.b16 (n : Nat) (d0 : D) (S : Store) : run P (n + 1) 16 [d0] S = fin (execs (evOf P n) [.v d0, .no, .no, .no, .no, .no, .no, .no, .no, .no] k95b16 S) := run_at (fn := ⟨1, 10, k95b16⟩) (B.fn 16 (by decide) (by decide)) rfl
theorem Base.b17 (n : Nat) (d0 : D) (S : Store) : run P (n + 1) 17 [d0] S = fin (execs (evOf P n) [.v d0] k95b17 S) := run_at (fn := ⟨1, 1, k95b17⟩) (B.fn 17 (by decide) (by decide)) rfl
theorem Base.b18 (n : Nat) (d0 : D) (S : Store) : run P (n + 1) 18 [d0] S = fin (execs (evOf P n) [.v d0, .no, .no, .no, .no, .no, .no, .no, .no, .no] k95b18 S) := run_at (fn := ⟨1, 10, k95b18⟩) (B.fn 18 (by decide) (by decide)) rfl
theorem Base.b19 (n : Nat) (d0 d1 : D) (S : Store) : run P (n + 1) 19 [d0, d1] S = fin (execs (evOf P n) [.v d0, .v d1, .no] k95b19 S) := run_at (fn := ⟨2, 3, k95b19⟩) (B.fn 19 (by decide) (by decide)) rfl
theorem Base.b20 (n : Nat) (d0 d1 : D) (S : Store) : run P (n + 1) 20 [d0, d1] S = fin (execs (evOf P n) [.v d0, .v d1] k95b20 S) := run_at (fn := ⟨2, 2, k95b20⟩) (B.fn 20 (by decide) (by decide)) rfl
theorem Base.b22 (n : Nat) (d0 : D) (S : Store) : run P (n + 1) 22 [d0] S = fin (execs (evOf P n) [.v d0] k95b22 S) := run_at (fn := ⟨1, 1, k95b22⟩) (B.fn 22 (by decide) (by decide)) rfl
theorem Base.b23 (n : Nat) (d0 d1 : D) (S : Store) : run P (n + 1) 23 [d0, d1] S = fin (execs (evOf P n) [.v d0, .v d1] k95b23 S) := run_at (fn := ⟨2, 2, k95b23⟩) (B.fn 23 (by decide) (by decide)) rfl
theorem Base.b24 (n : Nat) (d0 d1 : D) (S : Store) : run P (n + 1) 24 [d0, d1] S = fin (execs (evOf P n) [.v d0, .v d1] k95b24 S) := run_at (fn := ⟨2, 2, k95b24⟩) (B.fn 24 (by decide) (by decide)) rfl
theorem Base.b25 (n : Nat) (d0 d1 : D) (S : Store) : run P (n + 1) 25 [d0, d1] S = fin (execs (evOf P n) [.v d0, .v d1] k95b25 S) := run_at (fn := ⟨2, 2, k95b25⟩) (B.fn 25 (by decide) (by decide)) rfl
theorem Base.b26 (n : Nat) (d0 d1 d2 : D) (S : Store) : run P (n + 1) 26 [d0, d1, d2] S = fin (execs (evOf P n) [.v d0, .v d1, .v d2] k95b26 S) := run_at (fn := ⟨3, 3, k95b26⟩) (B.fn 26 (by decide) (by decide)) rfl
theorem Base.b27 (n : Nat) (d0 d1 d2 d3 : D) (S : Store) : run P (n + 1) 27 [d0, d1, d2, d3] S = fin (execs (evOf P n) [.v d0, .v d1, .v d2, .v d3] k95b27 S) := run_at (fn := ⟨4, 4, k95b27⟩) (B.fn 27 (by decide) (by decide)) rfl
theorem Base.b28 (n : Nat) (d0 d1 : D) (S : Store) : run P (n + 1) 28 [d0, d1] S = fin (execs (evOf P n) [.v d0, .v d1] k95b28 S) := run_at (fn := ⟨2, 2, k95b28⟩) (B.fn 28 (by decide) (by decide)) rfl
theorem Base.b29 (n : Nat) (d0 d1 : D) (S : Store) : run P (n + 1) 29 [d0, d1] S = fin (execs (evOf P n) [.v d0, .v d1] k95b29 S) := run_at (fn := ⟨2, 2, k95b29⟩) (B.fn 29 (by decide) (by decide)) rfl
theorem Base.b30 (n : Nat) (d0 d1 : D) (S : Store) : run P (n + 1) 30 [d0, d1] S = fin (execs (evOf P n) [.v d0, .v d1] k95b30 S) := run_at (fn := ⟨2, 2, k95b30⟩) (B.fn 30 (by decide) (by decide)) rfl
theorem Base.b31 (n : Nat) (d0 d1 : D) (S : Store) : run P (n + 1) 31 [d0, d1] S = fin (execs (evOf P n) [.v d0, .v d1] k95b31 S) := run_at (fn := ⟨2, 2, k95b31⟩) (B.fn 31 (by decide) (by decide)) rfl
theorem Base.b32 (n : Nat) (d0 d1 : D) (S : Store) : run P (n + 1) 32 [d0, d1] S = fin (execs (evOf P n) [.v d0, .v d1, .no, .no] k95b32 S) := run_at (fn := ⟨2, 4, k95b32⟩) (B.fn 32 (by decide) (by decide)) rfl
theorem Base.b33 (n : Nat) (d0 d1 : D) (S : Store) : run P (n + 1) 33 [d0, d1] S = fin (execs (evOf P n) [.v d0, .v d1] k95b33 S) := run_at (fn := ⟨2, 2, k95b33⟩) (B.fn 33 (by decide) (by decide)) rfl
theorem Base.b34 (n : Nat) (d0 : D) (S : Store) : run P (n + 1) 34 [d0] S = fin (execs (evOf P n) [.v d0] k95b34 S) := run_at (fn := ⟨1, 1, k95b34⟩) (B.fn 34 (by decide) (by decide)) rfl
theorem Base.b35 (n : Nat) (d0 : D) (S : Store) : run P (n + 1) 35 [d0] S = fin (execs (evOf P n) [.v d0] k95b35 S) := run_at (fn := ⟨1, 1, k95b35⟩) (B.fn 35 (by decide) (by decide)) rfl
theorem Base.b36 (n : Nat) (d0 d1 d2 : D) (S : Store) : run P (n + 1) 36 [d0, d1, d2] S = fin (execs (evOf P n) [.v d0, .v d1, .v d2, .no] k95b36 S) := run_at (fn := ⟨3, 4, k95b36⟩) (B.fn 36 (by decide) (by decide)) rfl
theorem Base.b37 (n : Nat) (d0 d1 d2 d3 : D) (S : Store) : run P (n + 1) 37 [d0, d1, d2, d3] S = fin (execs (evOf P n) [.v d0, .v d1, .v d2, .v d3] k95b37 S) := run_at (fn := ⟨4, 4, k95b37⟩) (B.fn 37 (by decide) (by decide)) rfl
theorem Base.b38 (n : Nat) (d0 d1 : D) (S : Store) : run P (n + 1) 38 [d0, d1] S = fin (execs (evOf P n) [.v d0, .v d1] k95b38 S) := run_at (fn := ⟨2, 2, k95b38⟩) (B.fn 38 (by decide) (by decide)) rfl
theorem Base.b39 (n : Nat) (d0 d1 : D) (S : Store) : run P (n + 1) 39 [d0, d1] S = fin (execs (evOf P n) [.v d0, .v d1] k95b39 S) := run_at (fn := ⟨2, 2, k95b39⟩) (B.fn 39 (by decide) (by decide)) rfl
theorem Base.b40 (n : Nat) (d0 d1 : D) (S : Store) : run P (n + 1) 40 [d0, d1] S = fin (execs (evOf P n) [.v d0, .v d1] k95b40 S) := run_at (fn := ⟨2, 2, k95b40⟩) (B.fn 40 (by decide) (by decide)) rfl
theorem Base.b41 (n : Nat) (d0 d1 : D) (S : Store) : run P (n + 1) 41 [d0, d1] S = fin (execs (evOf P n) [.v d0, .v d1] k95b41 S) := run_at (fn := ⟨2, 2, k95b41⟩) (B.fn 41 (by decide) (by decide)) rfl
theorem Base.b42 (n : Nat) (d0 : D) (S : Store) : run P (n + 1) 42 [d0] S = fin (execs (evOf P n) [.v d0] k95b42 S) := run_at (fn := ⟨1, 1, k95b42⟩) (B.fn 42 (by decide) (by decide)) rfl
end
section
variable {P : Pg} (B : BaseP P)
include B
theorem BaseP.b21 (n : Nat) (d0 : D) (S : Store) : run P (n + 1) 21 [d0] S = fin (execs (evOf P n) [.v d0, .no] k95b21 S) := run_at (fn := ⟨1, 2, k95b21⟩) (B.f21) rfl
theorem BaseP.b43 (n : Nat) (d0 : D) (S : Store) : run P (n + 1) 43 [d0] S = fin (execs (evOf P n) [.v d0] k95b43 S) := run_at (fn := ⟨1, 1, k95b43⟩) (B.f43) rfl
theorem BaseP.b44 (n : Nat) (d0 d1 : D) (S : Store) : run P (n + 1) 44 [d0, d1] S = fin (execs (evOf P n) [.v d0, .v d1] k95b44 S) := run_at (fn := ⟨2, 2, k95b44⟩) (B.f44) rfl
theorem BaseP.b45 (n : Nat) (d0 : D) (S : Store) : run P (n + 1) 45 [d0] S = fin (execs (evOf P n) [.v d0] k95b45 S) := run_at (fn := ⟨1, 1, k95b45⟩) (B.f45) rfl
end
end G
set_option maxHeartbeats 400000
namespace G
open PySem L2
def mrow (r : List Int) : D := .tup (r.map .int)
def mk (M : Mk) : D := .tup (M.map mrow)
@[simp] theorem mrow_def (r : List Int) : mrow r = .tup (r.map .int) := (rfl)
theorem mk_def (M : Mk) : mk M = .tup (M.map mrow) := rfl
/-! ### ranges -/
theorem upto_eq : ∀ (n : Nat) (l : Int), upto l n = (List.range n).map fun (i : Nat) => D.int (l + i)
  | 0, _ => rfl
  | n + 1, l => by
    rw [List.range_succ_eq_map, upto, upto_eq n (l + 1)]
    simp
    intro a _
    omega
theorem upto0 (n : Nat) : upto 0 n = (List.range n).map fun (i : Nat) => D.int i := by
  rw [upto_eq]; simp
theorem rgl_nat (n : Nat) (h : n ≤ 1000) : rgl [.int (n : Int)] = some (.lst ((List.range n).map fun (i : Nat) => D.int i)) := by
  have : rgok 0 (n : Int) = true := by
    unfold rgok bnd; simp; omega
  simp only [rgl, this, if_true, Int.toNat_natCast, upto0]
theorem it_range1 (n : Nat) (h : n ≤ 1000) : itemsOf .range1 [.int (n : Int)] = some ((List.range n).map fun (i : Nat) => D.int i) := by
  have : bnd (n : Int) = true := by unfold bnd; simp; omega
  simp only [itemsOf, this, if_true, Int.toNat_natCast, upto0]
@[simp] theorem ito_tup (xs : List D) : itemsOf .over [.tup xs] = some xs := (rfl)
@[simp] theorem ito_lst (xs : List D) : itemsOf .over [.lst xs] = some xs := (rfl)

@[simp] theorem ito_kl (xs : List D) : itemsOf .over [.kl xs] = some xs := (rfl)
@[simp] theorem ito_keys (t) (ks vs : List D) : itemsOf .keys [.dct t ks vs] = some ks := (rfl)
/-! ### comprehensions -/
section
variable {ev : Ev} {ρ : Rho} {S : Store}
@[simp] theorem ev_lc (own tg k it ifs elt) : evalE ev ρ (.lc own tg k it ifs elt) S = (evalEs ev ρ it S).bind fun ds S1 => match itemsOf k ds with
    | none => .no
    | some xs => ((compL tg (wipeR ρ own) (fun ρ' S => evalT ev ρ' ifs S) (fun ρ' S => evalE ev ρ' elt S) [] xs S1).shut).bind fun ys S2 => .ok (.lst ys) S2 := by rw [evalE] <;> rfl
theorem compL_map {tg : Tg} {ρ : Rho} {T : Rho → Store → Out Bool} {F : Rho → Store → Out D} {S1 : Store} {α : Type} (enc : α → D) (v : α → D) (t : α → Bool) : ∀ (zs : List α) (acc : List D), (∀ z ∈ zs, ∃ ρ', putTg S1 ρ tg (enc z) = some ρ' ∧ T ρ' S1 = .ok (t z) S1 ∧ (t z = true → F ρ' S1 = .ok (v z) S1)) → acc.length + zs.length ≤ 1000000 →
    compL tg ρ T F acc (zs.map enc) S1 = .ok (acc ++ (zs.filter t).map v) S1
  | [], acc, _, _ => by simp [compL]
  | z :: zs, acc, h, hl => by
    obtain ⟨ρ', h1, h2, h3⟩ := h z List.mem_cons_self
    have hr : ∀ y ∈ zs, _ := fun y hy => h y (List.mem_cons_of_mem _ hy)
    simp only [List.length_cons] at hl
    rw [List.map_cons]
    unfold compL
    rw [h1]
    simp only [h2]
    cases e : t z with
    | false =>
      simp only [Out.bind, e, Bool.false_eq_true, if_false, List.filter_cons]
      exact compL_map enc v t zs acc hr (by omega)
    | true =>
      have hn : line acc.length = true := by simp [line]; omega
      simp only [Out.bind, h3 e, hn, e, if_true, List.filter_cons, List.map_cons]
      rw [compL_map enc v t zs _ hr (by simp only [List.length_append, List.length_singleton]; omega)]
      simp
/-- a comprehension that changes nothing -/
theorem W_map {tg : Tg} {ρ : Rho} {T : Rho → Store → Out Bool} {F : Rho → Store → Out D} {S1 : Store} {Q : List D → Store → Prop} {α : Type} (enc : α → D) (v : α → D) (zs : List α) (hl : zs.length ≤ 1000000) (h : ∀ z ∈ zs, ∃ ρ', putTg S1 ρ tg (enc z) = some ρ' ∧ T ρ' S1 = .ok true S1 ∧ F ρ' S1 = .ok (v z) S1) (q : Q (zs.map v) S1) :
    W (compL tg ρ T F [] (zs.map enc) S1) Q := by
  rw [compL_map enc v (fun _ => true) zs [] (fun z hz => by obtain ⟨ρ', a, b, c⟩ := h z hz; exact ⟨ρ', a, b, fun _ => c⟩) (by simpa using hl)]
  rw [List.filter_eq_self.mpr (fun _ _ => rfl), W_ok]
  exact q
theorem W_filter {tg : Tg} {ρ : Rho} {T : Rho → Store → Out Bool} {F : Rho → Store → Out D} {S1 : Store} {Q : List D → Store → Prop} {α : Type} (enc : α → D) (v : α → D) (t : α → Bool) (zs : List α) (hl : zs.length ≤ 1000000) (h : ∀ z ∈ zs, ∃ ρ', putTg S1 ρ tg (enc z) = some ρ' ∧ T ρ' S1 = .ok (t z) S1 ∧ (t z = true → F ρ' S1 = .ok (v z) S1)) (q : Q ((zs.filter t).map v) S1) :
    W (compL tg ρ T F [] (zs.map enc) S1) Q := by
  rw [compL_map enc v t zs [] h (by simpa using hl), W_ok]
  exact q
/-- loops -/
theorem W_loop {α : Type} {tg : Tg} {body : Rho → Store → Out Res} (enc : α → D) (R : List α → Rho → Store → Prop) : ∀ (suf pre : List α), (∀ pre' y suf', pre ++ suf = pre' ++ y :: suf' → ∀ ρ S, R pre' ρ S → ∃ ρ', putTg S ρ tg (enc y) = some ρ' ∧ W (body ρ' S) fun r S2 => ∃ ρ2, r = .nx ρ2 ∧ R (pre' ++ [y]) ρ2 S2) →
    ∀ ρ S {Q : Res → Store → Prop}, R pre ρ S → (∀ ρ2 S2, R (pre ++ suf) ρ2 S2 → Q (.nx ρ2) S2) → W (loopF tg body (suf.map enc) ρ S) Q
  | [], pre, h, ρ, S, Q, r, q => by
    rw [List.append_nil] at q
    show W (.ok (.nx ρ) S) Q
    rw [W_ok]
    exact q ρ S r
  | y :: suf, pre, h, ρ, S, Q, r, q => by
    obtain ⟨ρ', h1, h2⟩ := h pre y suf rfl ρ S r
    obtain ⟨x, S2, h3, ρ2, rfl, h4⟩ := h2.out
    rw [List.map_cons]
    unfold loopF
    rw [h1]
    simp only [h3, ob_ok]
    have e : pre ++ y :: suf = (pre ++ [y]) ++ suf := by simp
    exact W_loop enc R suf (pre ++ [y]) (by rw [← e]; exact h) ρ2 S2 h4 (by rw [← e]; exact q)
end
@[simp] theorem evT_nil' {ev : Ev} {ρ : Rho} {S : Store} : evalT ev ρ [] S = .ok true S := evT_nil
@[simp] theorem evT_cons' {ev : Ev} {ρ : Rho} {S : Store} {e : E} {r : List E} : evalT ev ρ (e :: r) S = (evalE ev ρ e S).bind fun x S1 => match x with
    | .bl b => .ok b S1
    | _ => .no := evT_cons
@[simp] theorem exs_for {ev : Ev} {ρ : Rho} {S : Store} (tg k it body) : exec ev ρ (.for_ tg k it body) S = (evalEs ev ρ it S).bind fun ds S1 => match itemsOf k ds with
    | none => .no
    | some xs => loopF tg (fun ρ' S' => execs ev ρ' body S') xs ρ S1 := ex_for tg k it body
/-! ### the defs -/
section
variable {P : Pg} (B : Base P)
include B
theorem m_is_whole (n : Nat) (i : Int) (S : Store) : run P (n + 1) 0 [.int i] S = .ok (.bl true) S := by
  rw [B.b0, W_eq]; simp [k95b0]
theorem m_is_between (n : Nat) (i l h : Int) (S : Store) : run P (n + 2) 1 [.int i, .int l, .int h] S = .ok (.bl (decide (l ≤ i ∧ i ≤ h))) S := by
  rw [B.b1, W_eq]; simp [k95b1, m_is_whole B]
  by_cases a : l ≤ i <;> by_cases b : i ≤ h <;> simp [a, b]
theorem m_is_tuple_of (n : Nat) (r : List D) (k : Int) (S : Store) : run P (n + 1) 2 [.tup r, .int k] S = .ok (.bl (decide ((r.length : Int) = k))) S := by
  rw [B.b2, W_eq]; simp [k95b2]
theorem m_is_worth (n : Nat) (i : Int) (S : Store) : run P (n + 3) 3 [.int i] S = .ok (.bl (decide (0 ≤ i ∧ i ≤ 99))) S := by
  rw [B.b3, W_eq]; simp [k95b3, B.g3, m_is_between B]
theorem m_is_row (n k : Nat) (r : List Int) (hr : rowOk k r) (hk : k ≤ 1000) (S : Store) : run P (n + 4) 4 [.int k, mrow r] S = .ok (.bl true) S := by
  rw [B.b4, W_eq]; simp [k95b4, m_is_tuple_of B, hr.1]
  refine W_map D.int (fun i => .bl (decide (0 ≤ i ∧ i ≤ 99))) r (by rw [hr.1]; omega) (fun z hz => ⟨_, rfl, by simp, by simp [m_is_worth B]⟩) ?_
  simp
  exact fun x hx => hr.2 x hx
theorem m_is_market {m : Nat} (n : Nat) (M : Mk) (h : mkOk m M) (h1 : 1 ≤ M.length ∧ M.length ≤ 5) (h2 : 1 ≤ m ∧ m ≤ 5) (S : Store) : run P (n + 5) 5 [mk M] S = .ok (.bl true) S := by
  obtain ⟨r, R, rfl⟩ : ∃ r R, M = r :: R := by cases M with
    | nil => simp at h1
    | cons r R => exact ⟨r, R, rfl⟩
  have hr := h r List.mem_cons_self
  rw [B.b5, W_eq]; simp [k95b5, mk_def, B.g1, B.g2, hr.1]
  simp at h1
  simp [show (1:Int) ≤ R.length + 1 by omega, show (R.length + 1 : Int) ≤ 5 by omega, show (1:Int) ≤ m by omega, show (m:Int) ≤ 5 by omega, hr.1]
  refine W_map (tg := .name 2) mrow (fun i => .bl true) (r :: R) (by simp; omega) (fun z hz => ⟨_, rfl, by simp, ?_⟩) ?_
  · have := m_is_row B n m z (h z hz) (by omega) S
    simp at this
    simp [this]
  · have := b_all S (fun _ : List Int => true) (r :: R)
    simp at this
    simp [this]
end
end G
set_option maxHeartbeats 400000
namespace G
open PySem L2
/-! ### slices -/
theorem sIx_nat' (n d k : Nat) : HT.sIx n d (some (k : Int)) = min k n := HT.sIx_nat n d k
theorem cut_take {α : Type} (xs : List D) (k : Nat) : cutD xs none (some (k : Int)) = xs.take k := by
  unfold cutD
  rw [sIx_nat']
  show (xs.drop 0).take (min k xs.length - 0) = _
  rw [List.drop_zero, Nat.sub_zero, ← List.take_eq_take_min]
theorem cut_drop (xs : List D) (k : Nat) : cutD xs (some (k : Int)) none = xs.drop k := by
  unfold cutD
  rw [sIx_nat']
  show (xs.drop (min k xs.length)).take (xs.length - min k xs.length) = _
  by_cases h : k ≤ xs.length
  · rw [Nat.min_eq_left h]
    rw [List.take_of_length_le (by simp)]
  · rw [Nat.min_eq_right (by omega), List.drop_eq_nil_of_le (show xs.length ≤ xs.length by omega), List.drop_eq_nil_of_le (by omega)]; simp
theorem cut_drop1 (xs : List D) (k : Nat) : cutD xs (some ((k : Int) + 1)) none = xs.drop (k + 1) := cut_drop xs (k + 1)
theorem cut_init (xs : List D) : cutD xs none (some (-1)) = xs.take (xs.length - 1) := by
  unfold cutD
  show (xs.drop 0).take (((-1 : Int) + xs.length).toNat - 0) = _
  rw [List.drop_zero]
  congr 1
  omega
/-! ### marks -/
theorem band1 (k t : Nat) : (decide (Builtin.bitAnd ((k : Int) / 2 ^ t) 1 = 0)) = !k.testBit t := by
  have h : ((k : Int) / 2 ^ t) = ((k / 2 ^ t : Nat) : Int) := by simp
  rw [h]
  unfold Builtin.bitAnd
  simp only [Int.natCast_nonneg, decide_true, show (0 : Int) ≤ 1 by omega, Int.toNat_natCast, show (1 : Int).toNat = 1 from rfl]
  rw [Nat.and_one_is_mod, Nat.testBit_eq_decide_div_mod_eq]
  have : k / 2 ^ t % 2 = 0 ∨ k / 2 ^ t % 2 = 1 := by omega
  rcases this with e | e <;> simp [e]
theorem bor_nat (a b : Nat) : Builtin.bitOr (a : Int) (b : Int) = ((a ||| b : Nat) : Int) := by
  unfold Builtin.bitOr Builtin.bitAnd
  have n1 : ∀ x : Nat, decide (0 ≤ Builtin.bitNot (x : Int)) = false := fun x => by unfold Builtin.bitNot; simp; omega
  have n2 : ∀ x : Int, Builtin.bitNot (Builtin.bitNot x) = x := fun x => by unfold Builtin.bitNot; omega
  simp only [n1, n2, Int.toNat_natCast]
theorem bor_shl (k t : Nat) : Builtin.bitOr (k : Int) (1 * 2 ^ t) = ((k ||| 1 <<< t : Nat) : Int) := by
  have : (1 * 2 ^ t : Int) = ((1 <<< t : Nat) : Int) := by simp [Nat.one_shiftLeft]
  rw [this, bor_nat]
/-- None or a thing -/
def eo : Option Nat → D
  | none => .non
  | some t => .int t
@[simp] theorem eo_none : eo none = .non := (rfl)
@[simp] theorem eo_some (t : Nat) : eo (some t) = .int t := (rfl)
/-- another worth -/
def setM (M : Mk) (b t : Nat) (w : Int) : Mk := M.set b ((M.getD b []).set t w)
section
variable {P : Pg} (B : Base P)
include B
theorem idx0 {m : Nat} {M : Mk} (h : mkOk m M) (h1 : M ≠ []) : ∃ r R, M = r :: R ∧ r.length = m := by
  cases M with
  | nil => exact absurd rfl h1
  | cons r R => exact ⟨r, R, rfl, (h r List.mem_cons_self).1⟩
theorem m_things_of {m : Nat} (n : Nat) (M : Mk) (h : mkOk m M) (h1 : M ≠ []) (h2 : m ≤ 1000) (S : Store) : run P (n + 1) 6 [mk M] S = .ok (.lst ((List.range m).map fun i => .int (i : Nat))) S := by
  obtain ⟨r, R, rfl, hr⟩ := idx0 B h h1
  rw [B.b6, W_eq]; simp [k95b6, mk_def, hr, rgl_nat m h2]
theorem m_buyers_of (n : Nat) (M : Mk) (h : M.length ≤ 1000) (S : Store) : run P (n + 1) 7 [mk M] S = .ok (.lst ((List.range M.length).map fun i => .int (i : Nat))) S := by
  rw [B.b7, W_eq]; simp [k95b7, mk_def, rgl_nat M.length h]
theorem m_with_worth_by {m : Nat} (n : Nat) (M : Mk) (h : mkOk m M) (b t : Nat) (w : Int) (hb : b < M.length) (ht : t < m) (hl : M.length ≤ 1000) (hm : m ≤ 1000) (S : Store) : run P (n + 1) 8 [mk M, .int b, .int t, .int w] S = .ok (mk (setM M b t w)) S := by
  have hr := (h M[b] (List.getElem_mem hb)).1
  rw [B.b8, W_eq]
  simp [k95b8, mk_def, ixOf_nat, hb, slice_tup, optB, cut_take (α := Nat), cut_drop1, hr]
  have e : setM M b t w = M.take b ++ (M[b].take t ++ w :: M[b].drop (t + 1)) :: M.drop (b + 1) := by
    unfold setM
    rw [List.getD_eq_getElem?_getD, List.getElem?_eq_getElem hb, Option.getD_some]
    rw [List.set_eq_take_append_cons_drop, if_pos hb, List.set_eq_take_append_cons_drop, if_pos (by omega)]
  rw [e]
  simp [line_le (show min t m + 1 ≤ 1000000 by omega), line_le (show min t m + 1 + (m - (t + 1)) ≤ 1000000 by omega), line_le (show min b M.length + 1 ≤ 1000000 by omega), line_le (show min b M.length + 1 + (M.length - (b + 1)) ≤ 1000000 by omega), List.map_take, List.map_drop, hr]
theorem m_without_buyer_by (n : Nat) (M : Mk) (b : Nat) (hl : M.length ≤ 1000) (S : Store) : run P (n + 1) 9 [mk M, .int b] S = .ok (mk (M.eraseIdx b)) S := by
  rw [B.b9, W_eq]
  simp [k95b9, mk_def, slice_tup, optB, cut_take (α := Nat), cut_drop1, line_le (show min b M.length + (M.length - (b + 1)) ≤ 1000000 by omega), List.eraseIdx_eq_take_drop_succ, List.map_take, List.map_drop]
theorem m_twice_by {m : Nat} (n : Nat) (M : Mk) (h : mkOk m M) (t : Nat) (ht : t < m) (hl : M.length ≤ 1000) (hm : m ≤ 1000) (S : Store) : run P (n + 1) 10 [mk M, .int t] S = .ok (mk (twc M t)) S := by
  rw [B.b10, W_eq]; simp [k95b10, mk_def]
  refine W_map mrow (fun r => mrow (r ++ [r.getD t 0])) M (by omega) (fun z hz => ⟨_, rfl, by simp, ?_⟩) ?_
  · have hr := (h z hz).1
    have ht' : t < z.length := by omega
    simp [ixOf_nat, hr, ht, ht', line_le (show m + 1 ≤ 1000000 by omega)]
  · simp [twc]
theorem m_is_thing {m : Nat} (n : Nat) (M : Mk) (h : mkOk m M) (h1 : M ≠ []) (i : Int) (S : Store) : run P (n + 3) 11 [mk M, .int i] S = .ok (.bl (decide (0 ≤ i ∧ i ≤ (m : Int) - 1))) S := by
  obtain ⟨r, R, rfl, hr⟩ := idx0 B h h1
  rw [B.b11, W_eq]; simp [k95b11, mk_def, hr, m_is_between B]
theorem m_is_buyer (n : Nat) (M : Mk) (i : Int) (S : Store) : run P (n + 3) 12 [mk M, .int i] S = .ok (.bl (decide (0 ≤ i ∧ i ≤ (M.length : Int) - 1))) S := by
  rw [B.b12, W_eq]; simp [k95b12, mk_def, m_is_between B]
theorem m_choices (n k m : Nat) (hm : m ≤ 1000) (S : Store) : run P (n + 1) 13 [.int k, .int m] S = .ok (.lst ((chs k m).map eo)) S := by
  rw [B.b13, W_eq]
  simp [k95b13, it_range1 m hm]
  refine W_filter (fun i : Nat => D.int i) (fun i => .int i) (fun t => !k.testBit t) (List.range m) (by simp; omega) (fun z hz => ⟨_, rfl, ?_, by simp⟩) ?_
  · simp [band1]
  · have : ((List.range m).filter fun t => !k.testBit t).length ≤ 1000 := Nat.le_trans (List.length_filter_le _ _) (by simpa using hm)
    simp [line_le (show 1 + ((List.range m).filter fun t => !k.testBit t).length ≤ 1000000 by omega), chs]
theorem m_mark_with (n k : Nat) (c : Option Nat) (hc : ∀ t, c = some t → t ≤ 1000) (S : Store) : run P (n + 1) 14 [.int k, eo c] S = .ok (.int (mw k c)) S := by
  rw [B.b14, W_eq]
  cases c with
  | none => simp [k95b14, mw]
  | some t =>
    have := hc t rfl
    have h2 := bor_shl k t
    simp [k95b14, bin_shl S t this]
    simp at h2
    simp [h2, mw]
theorem m_worth_to (n : Nat) (r : List Int) (c : Option Nat) (hc : ∀ t, c = some t → t < r.length) (S : Store) : run P (n + 1) 15 [mrow r, eo c] S = .ok (.int (wt r c)) S := by
  rw [B.b15, W_eq]
  cases c with
  | none => simp [k95b15, wt]
  | some t =>
    have := hc t rfl
    simp [k95b15, wt, ixOf_nat, this]
end
end G
set_option maxHeartbeats 400000
namespace G
open PySem L2
/-! ### dicts of marks -/
def iD (i : Nat) : D := .int i
def dI (n : Nat) (f : Nat → Int) : D := .dct false ((List.range n).map iD) ((List.range n).map fun i => .int (f i))
theorem keq_iD (a b : Nat) : keq (iD a) (iD b) = decide (a = b) := by
  show decide ((a : Int) = (b : Int)) = _
  by_cases h : a = b
  · simp [h]
  · have : ¬ (a : Int) = b := by omega
    simp [h, this]
theorem dget_iD (g : Nat → D) : ∀ (l : List Nat) (k : Nat), k ∈ l → dget (l.map iD) (l.map g) (iD k) = some (g k)
  | [], k, h => by cases h
  | a :: l, k, h => by
    simp only [List.map_cons, dget, keq_iD]
    by_cases z : a = k
    · simp [z]
    · simp only [z, decide_false, Bool.false_eq_true, if_false]
      refine dget_iD g l k ?_
      rcases List.mem_cons.mp h with h | h
      · exact absurd h.symm z
      · exact h
theorem any_iD (l : List Nat) (k : Nat) (h : k ∉ l) : ((l.map iD).any fun j => keq j (iD k)) = false := by
  rw [List.any_map]
  rw [List.any_eq_false]
  intro x hx
  simp [keq_iD]
  intro z; exact h (z ▸ hx)
theorem dputK_iD (l : List Nat) (k : Nat) (h : k ∉ l) : dputK (l.map iD) (iD k) = (l ++ [k]).map iD := by
  unfold dputK; rw [any_iD l k h]; simp
theorem dputV_iD (l : List Nat) (vs : List D) (k : Nat) (v : D) (h : k ∉ l) : dputV (l.map iD) vs (iD k) v = vs ++ [v] := by
  unfold dputV; rw [any_iD l k h]; simp
section
variable {ev : Ev} {ρ : Rho} {S : Store}
@[simp] theorem ev_dc (own tg k it ke ve) : evalE ev ρ (.dc own tg k it ke ve) S = (evalEs ev ρ it S).bind fun ds S1 => match itemsOf k ds with
    | none => .no
    | some xs => ((compD tg (wipeR ρ own) (fun ρ' S => evalE ev ρ' ke S) (fun ρ' S => evalE ev ρ' ve S) [] [] xs S1).shut).bind fun p S2 => .ok (.dct false p.1 p.2) S2 := by rw [evalE] <;> rfl
theorem compD_iD {tg : Tg} {ρ : Rho} {K V : Rho → Store → Out D} {S1 : Store} (g : Nat → D) : ∀ (suf pre : List Nat), (pre ++ suf).Nodup → (pre ++ suf).length ≤ 1000000 → (∀ z ∈ suf, ∃ ρ', putTg S1 ρ tg (iD z) = some ρ' ∧ K ρ' S1 = .ok (iD z) S1 ∧ V ρ' S1 = .ok (g z) S1) →
    compD tg ρ K V (pre.map iD) (pre.map g) (suf.map iD) S1 = .ok ((pre ++ suf).map iD, (pre ++ suf).map g) S1
  | [], pre, _, _, _ => by simp [compD]
  | z :: suf, pre, nd, hl, h => by
    obtain ⟨ρ', h1, h2, h3⟩ := h z List.mem_cons_self
    have hz : z ∉ pre := fun m => by
      rw [List.nodup_append] at nd
      exact nd.2.2 z m z List.mem_cons_self rfl
    rw [List.map_cons]
    unfold compD
    rw [h1]
    simp only [h2, h3, ob_ok]
    have hk : (dkey (iD z)).isSome = true := rfl
    rw [line_le (by simp at hl ⊢; omega), hk]
    simp only [Bool.and_self, if_true]
    rw [dputK_iD _ _ hz, dputV_iD _ _ _ _ hz]
    have e : pre ++ z :: suf = (pre ++ [z]) ++ suf := by simp
    rw [e] at nd hl ⊢
    have := compD_iD g suf (pre ++ [z]) nd hl (fun y hy => h y (List.mem_cons_of_mem _ hy))
    rw [← this]
    simp
theorem W_dc {tg : Tg} {ρ : Rho} {K V : Rho → Store → Out D} {S1 : Store} {Q : List D × List D → Store → Prop} (n : Nat) (g : Nat → Int) (hl : n ≤ 1000000) (h : ∀ z, z < n → ∃ ρ', putTg S1 ρ tg (iD z) = some ρ' ∧ K ρ' S1 = .ok (iD z) S1 ∧ V ρ' S1 = .ok (.int (g z)) S1) (q : Q ((List.range n).map iD, (List.range n).map fun i => .int (g i)) S1) :
    W (compD tg ρ K V [] [] ((List.range n).map iD) S1) Q := by
  have := compD_iD (tg := tg) (ρ := ρ) (K := K) (V := V) (S1 := S1) (fun i => .int (g i)) (List.range n) [] (by simpa using List.nodup_range) (by simpa using hl) (fun z hz => h z (List.mem_range.mp hz))
  simp only [List.map_nil, List.nil_append] at this
  rw [this, W_ok]
  exact q
end
/-- what behind each row can be brought -/
def tls : Mk → List Mk
  | [] => [[]]
  | r :: R => (r :: R) :: tls R
theorem tls_get : ∀ (R : Mk) (i : Nat), i ≤ R.length → (tls R)[i]? = some (R.drop i)
  | [], i, h => by
    have : i = 0 := by simpa using h
    subst this; rfl
  | r :: R, 0, _ => rfl
  | r :: R, i + 1, h => by
    show (tls R)[i]? = _
    rw [tls_get R i (by simpa using h)]; rfl
theorem tls_len : ∀ R : Mk, (tls R).length = R.length + 1
  | [] => rfl
  | r :: R => by simp [tls, tls_len R]
theorem tls_ne (R : Mk) : ∃ t, tls R = R :: t := by cases R <;> exact ⟨_, rfl⟩
def dR (m : Nat) (R : Mk) : D := dI (2 ^ m) (rest m R)
theorem mw_lt {m k : Nat} {c : Option Nat} (hk : k < 2 ^ m) (hc : c ∈ chs k m) : mw k c < 2 ^ m := by
  cases c with
  | none => exact hk
  | some t =>
    obtain ⟨h1, _⟩ := mem_chs.mp hc t rfl
    refine Nat.or_lt_two_pow hk ?_
    rw [Nat.one_shiftLeft]
    exact Nat.pow_lt_pow_right (by omega) h1
theorem index_dI (S : Store) (n : Nat) (f : Nat → Int) (k : Nat) (h : k < n) : index S (dI n f) (.int k) = some (.int (f k)) := by
  unfold dI
  rw [index_dct, isKey_int, if_pos rfl]
  exact dget_iD (fun i => .int (f i)) (List.range n) k (List.mem_range.mpr h)
theorem chs_len (k m : Nat) : (chs k m).length ≤ m + 1 := by
  unfold chs
  have : ((List.range m).filter fun t => !k.testBit t).length ≤ m := Nat.le_trans (List.length_filter_le _ _) (by simp)
  simp; omega
theorem rev_tup (S : Store) (xs : List D) : revD S (.tup xs) = some (.tup xs.reverse) := rfl
@[simp] theorem slOf_dI (n f) : slOf true (dI n f) = some (.od false ((List.range n).map iD) ((List.range n).map fun i => .int (f i))) := (rfl)
section
variable {P : Pg} (B : Base P)
include B
theorem m_rest_worths {m : Nat} (n : Nat) (M : Mk) (h : mkOk m M) (h1 : M ≠ []) (hl : M.length ≤ 1000) (hm : m ≤ 9) (S : Store) : run P (n + 2) 16 [mk M] S = .ok (.lst ((tls M).map (dR m))) S := by
  have h0 := m_things_of B n M h h1 (by omega) S
  have hpow : 2 ^ m ≤ 512 := Nat.pow_le_pow_right (by omega) hm
  rw [B.b16, W_eq]
  have hrg : rgl [.int (2 ^ m)] = some (.lst ((List.range (2 ^ m)).map iD)) := by
    have := rgl_nat (2 ^ m) (by omega)
    simp at this
    exact this
  simp [k95b16, h0, bin_shl S m (by omega), hrg]
  refine W_dc (2 ^ m) (fun _ => 0) (by omega) (fun z hz => ⟨_, rfl, by simp [iD], by simp⟩) ?_
  simp [mk_def, rev_tup]
  rw [← List.map_reverse]
  refine W_loop mrow (fun pre ρ S' => S = S' ∧ ∃ s4 s5 s6 s7 s8 s9, ρ = [.v (.tup (M.map mrow)), .v (.lst ((List.range m).map fun i => .int (i : Nat))), .v (.lst ((List.range (2 ^ m)).map iD)), .ol ((tls pre.reverse).map (dR m)), s4, s5, s6, s7, s8, s9]) M.reverse [] ?_ _ _ ⟨rfl, _, _, _, _, _, _, rfl⟩ ?_
  · rintro pre y suf e ρ S' ⟨rfl, s4, s5, s6, s7, s8, s9, rfl⟩
    have hy : rowOk m y := h y (List.mem_reverse.mp (by rw [List.nil_append] at e; rw [e]; simp))
    have hpl : pre.length ≤ 1000 := by
      have := congrArg List.length e
      simp at this; omega
    refine ⟨_, rfl, ?_⟩
    obtain ⟨tt, ht⟩ := tls_ne pre.reverse
    simp [ht]
    refine W_loop iD (fun pr ρ S' => S = S' ∧ ∃ s5 s8 s9, ρ = [.v (.tup (M.map mrow)), .v (.lst ((List.range m).map fun i => .int (i : Nat))), .v (.lst ((List.range (2 ^ m)).map iD)), .ol ((tls pre.reverse).map (dR m)), .v (mrow y), s5, .v (dR m pre.reverse), .od false (pr.map iD) (pr.map fun k => .int (rest m (y :: pre.reverse) k)), s8, s9]) (List.range (2 ^ m)) [] ?_ _ _ ⟨rfl, s5, s8, s9, ?_⟩ ?_
    · rintro pr k sf e2 ρ S ⟨rfl, t5, t8, t9, rfl⟩
      have hk : k < 2 ^ m := List.mem_range.mp (by rw [List.nil_append] at e2; rw [e2]; simp)
      have hkn : k ∉ pr := by
        have nd : (List.range (2 ^ m)).Nodup := List.nodup_range
        rw [List.nil_append] at e2
        rw [e2, List.nodup_append] at nd
        exact fun z => nd.2.2 k z k List.mem_cons_self rfl
      have hprl : pr.length ≤ 1000 := by
        have := congrArg List.length e2
        simp at this; omega
      refine ⟨_, rfl, ?_⟩
      have hch := m_choices B n k m (by omega) S
      simp [iD, hch]
      refine W_map eo (fun c => .int (wt y c + rest m pre.reverse (mw k c))) (chs k m) (by have := chs_len k m; omega) (fun c hc => ⟨_, rfl, by simp, ?_⟩) ?_
      · have hc' := mem_chs.mp hc
        have hw := m_worth_to B n y c (fun t z => by rw [hy.1]; exact (hc' t z).1) S
        have hmk := m_mark_with B n k c (fun t z => by have := (hc' t z).1; omega) S
        have hix := index_dI S (2 ^ m) (rest m pre.reverse) (mw k c) (mw_lt hk hc)
        simp at hw
        simp [hw, hmk, dR, hix]
      · have hb := b_max1 S (fun c => wt y c + rest m pre.reverse (mw k c)) (chs k m) (by simp [chs])
        simp [hb, setD, isKey, dkey, line_le (show pr.length ≤ 1000000 by omega)]
        show dputK (pr.map iD) (iD k) = pr.map iD ++ [iD k] ∧ dputV (pr.map iD) _ (iD k) _ = _
        rw [dputK_iD _ _ hkn, dputV_iD _ _ _ _ hkn]
        exact ⟨by simp, rfl⟩
    · simp [ht]
    · rintro ρ2 S2 ⟨rfl, t5, t8, t9, rfl⟩
      have hlen := congrArg List.length ht
      rw [tls_len] at hlen
      simp at hlen
      simp [ht, tls]
      exact ⟨line_le (by omega), rfl⟩
  · rintro ρ2 S2 ⟨rfl, s4, s5, s6, s7, s8, s9, rfl⟩
    simp
theorem m_best_worth_by {m : Nat} (n : Nat) (M : Mk) (h : mkOk m M) (h1 : M ≠ []) (hl : M.length ≤ 1000) (hm : 1 ≤ m ∧ m ≤ 9) (S : Store) : run P (n + 3) 17 [mk M] S = .ok (.int (most m M)) S := by
  have h0 := m_rest_worths B n M h h1 hl hm.2 S
  obtain ⟨r, R, e, hr⟩ := idx0 B h h1
  obtain ⟨tt, ht⟩ := tls_ne M
  have hpow : 0 < 2 ^ m := Nat.two_pow_pos m
  have hix := index_dI S (2 ^ m) (rest m M) 0 hpow
  rw [ht] at h0
  have e1 : index S (mk M) (.int 0) = some (mrow r) := by rw [e]; simp [mk_def]
  have e2 : bfun S .len [mk M] = some (.int (R.length + 1)) := by rw [e]; simp [mk_def]
  rw [B.b17, W_eq]
  simp [k95b17, e1, e2, hr, show ¬ ((R.length : Int) + 1 = 0) by omega, show ¬ (m = 0) by omega, h0]
  simp at hix
  simp [dR, hix, most]
/-! best deals -/
def bdStep (m : Nat) (r : List Int) (R : Mk) (f : List (Dl × Nat)) : List (Dl × Nat) :=
  f.flatMap fun p => ((chs p.2 m).filter fun c => decide (wt r c + rest m R (mw p.2 c) = rest m (r :: R) p.2)).map fun c => (p.1 ++ [c], mw p.2 c)
def bdN (m : Nat) (M : Mk) : Nat → List (Dl × Nat)
  | 0 => [([], 0)]
  | b + 1 => bdStep m (M.getD b []) (M.drop (b + 1)) (bdN m M b)
def bestD (m : Nat) (M : Mk) : List Dl := (bdN m M M.length).map (·.1)
/-- a deal as data -/
def dlD (d : Dl) : D := .tup (d.map eo)
def dmD (p : Dl × Nat) : D := .tup [dlD p.1, .int p.2]
end
theorem flatMap_len {α β : Type} (f : α → List β) (k : Nat) : ∀ l : List α, (∀ x ∈ l, (f x).length ≤ k) → (l.flatMap f).length ≤ l.length * k
  | [], _ => by simp
  | a :: l, h => by
    have h1 := h a List.mem_cons_self
    have h2 := flatMap_len f k l (fun x hx => h x (List.mem_cons_of_mem _ hx))
    simp only [List.flatMap_cons, List.length_append, List.length_cons, Nat.add_mul, Nat.one_mul]
    omega
theorem bdN_ok {m : Nat} {M : Mk} : ∀ b, b ≤ M.length → (bdN m M b).length ≤ (m + 1) ^ b ∧ ∀ p ∈ bdN m M b, p.1.length = b ∧ p.2 < 2 ^ m
  | 0, _ => by simp [bdN, Nat.two_pow_pos]
  | b + 1, hb => by
    obtain ⟨h1, h2⟩ := bdN_ok (M := M) b (by omega)
    refine ⟨?_, fun p hp => ?_⟩
    · refine Nat.le_trans (flatMap_len _ (m + 1) _ fun x hx => ?_) ?_
      · rw [List.length_map]
        exact Nat.le_trans (List.length_filter_le _ _) (chs_len _ _)
      · rw [Nat.pow_succ]
        exact Nat.mul_le_mul_right _ h1
    · obtain ⟨q, hq, hp⟩ := List.mem_flatMap.mp hp
      obtain ⟨c, hc, rfl⟩ := List.mem_map.mp hp
      obtain ⟨a1, a2⟩ := h2 q hq
      exact ⟨by simp [a1], mw_lt a2 (List.mem_filter.mp hc).1⟩
end G
set_option maxHeartbeats 400000
namespace G
open PySem L2
theorem range_split {n y : Nat} {pre suf : List Nat} (e : List.range n = pre ++ y :: suf) : y = pre.length ∧ y < n := by
  have h : (List.range n)[pre.length]? = some y := by rw [e]; simp
  have hl := congrArg List.length e
  simp at hl
  rw [List.getElem?_range (by omega)] at h
  cases h
  exact ⟨rfl, by omega⟩
theorem tls_index {m : Nat} (S : Store) (M : Mk) (b : Nat) (hb : b ≤ M.length) : index S (.lst ((tls M).map (dR m))) (.int b) = some (dR m (M.drop b)) := by
  rw [index_lst, List.length_map, tls_len, ixOf_nat (by omega)]
  simp [tls_get M b hb]
theorem drop_cons {M : Mk} {b : Nat} (hb : b < M.length) : M.drop b = M.getD b [] :: M.drop (b + 1) := by
  rw [List.drop_eq_getElem_cons hb, List.getD_eq_getElem?_getD, List.getElem?_eq_getElem hb]; rfl
section
variable {P : Pg} (B : Base P)
include B
theorem m_best_deals_by {m : Nat} (n : Nat) (M : Mk) (h : mkOk m M) (h1 : M ≠ []) (hl : M.length ≤ 5) (hm : m ≤ 6) (S : Store) : run P (n + 3) 18 [mk M] S = .ok (.tup ((bestD m M).map dlD)) S := by
  have h0 := m_rest_worths B n M h h1 (by omega) (by omega) S
  have h7 := m_buyers_of B (n + 1) M (by omega) S
  obtain ⟨r, R, eM, hr⟩ := idx0 B h h1
  have e1 : index S (mk M) (.int 0) = some (mrow r) := by rw [eM]; simp [mk_def]
  have hcap : ∀ b, b ≤ M.length → (bdN m M b).length ≤ 16807 := fun b hb => by
    refine Nat.le_trans (bdN_ok b hb).1 (Nat.le_trans (Nat.pow_le_pow_left (show m + 1 ≤ 7 by omega) b) ?_)
    exact Nat.le_trans (Nat.pow_le_pow_right (by omega) (show b ≤ 5 by omega)) (by omega)
  rw [B.b18, W_eq]
  simp [k95b18, h0, h7]
  refine W_loop (fun i : Nat => D.int i) (fun pre ρ S' => S = S' ∧ ∃ s1 s4 s5 s6 s7 s8 s9, ρ = [.v (mk M), s1, .v (.lst ((tls M).map (dR m))), .v (.lst ((bdN m M pre.length).map dmD)), s4, s5, s6, s7, s8, s9]) (List.range M.length) [] ?_ _ _ ⟨rfl, .no, .no, .no, .no, .no, .no, .no, rfl⟩ ?_
  · rintro pre b suf e ρ S' ⟨rfl, s1, s4, s5, s6, s7, s8, s9, rfl⟩
    rw [List.nil_append] at e
    obtain ⟨eb, hb⟩ := range_split e
    subst eb
    refine ⟨_, rfl, ?_⟩
    simp
    obtain ⟨hc1, hc2⟩ := bdN_ok (m := m) (M := M) pre.length (by omega)
    have hcap0 := hcap pre.length (by omega)
    have hcap1 := hcap (pre.length + 1) (by omega)
    let r0 := M.getD pre.length []
    let R0 := M.drop (pre.length + 1)
    let con : Dl × Nat → List (Dl × Nat) := fun p => ((chs p.2 m).filter fun c => decide (wt r0 c + rest m R0 (mw p.2 c) = rest m (r0 :: R0) p.2)).map fun c => (p.1 ++ [c], mw p.2 c)
    have hr0 : rowOk m r0 := h _ (by
      show M.getD pre.length [] ∈ M
      rw [List.getD_eq_getElem?_getD, List.getElem?_eq_getElem hb]; exact List.getElem_mem hb)
    have hrow : index S (mk M) (.int (pre.length : Nat)) = some (mrow r0) := by
      rw [mk_def, index_tup, List.length_map, ixOf_nat hb]
      simp only [Option.bind_some, List.getElem?_map]
      rw [List.getElem?_eq_getElem hb]
      show some (mrow M[pre.length]) = some (mrow (M.getD pre.length []))
      rw [List.getD_eq_getElem?_getD, List.getElem?_eq_getElem hb]; rfl
    have hw1 := tls_index (m := m) S M (pre.length + 1) (by omega)
    have hw0 := tls_index (m := m) S M pre.length (by omega)
    rw [drop_cons hb] at hw0
    refine W_loop dmD (fun pr ρ S' => S = S' ∧ ∃ s5 s6 s7 s8, ρ = [.v (mk M), .v (.int pre.length), .v (.lst ((tls M).map (dR m))), .v (.lst ((bdN m M pre.length).map dmD)), .ol ((pr.flatMap con).map dmD), s5, s6, s7, s8, s9]) (bdN m M pre.length) [] ?_ _ _ ⟨rfl, s5, s6, s7, s8, rfl⟩ ?_
    · rintro pr p sf e2 ρ S' ⟨rfl, s5, s6, s7, s8, rfl⟩
      rw [List.nil_append] at e2
      have hp := hc2 p (by rw [e2]; simp)
      refine ⟨_, rfl, ?_⟩
      have h13 := m_choices B (n + 1) p.2 m (by omega) S
      simp [e1, hr, h13]
      have hlen : ((pr ++ p :: sf).flatMap con).length ≤ 16807 := by rw [← e2]; exact hcap1
      refine W_loop eo (fun pc ρ S' => S = S' ∧ ∃ s7 s8, ρ = [.v (mk M), .v (.int pre.length), .v (.lst ((tls M).map (dR m))), .v (.lst ((bdN m M pre.length).map dmD)), .ol ((pr.flatMap con ++ (pc.filter fun c => decide (wt r0 c + rest m R0 (mw p.2 c) = rest m (r0 :: R0) p.2)).map fun c => (p.1 ++ [c], mw p.2 c)).map dmD), .v (dlD p.1), .v (.int p.2), s7, s8, s9]) (chs p.2 m) [] ?_ _ _ ⟨rfl, s7, s8, by simp⟩ ?_
      · rintro pc c sc e3 ρ S' ⟨rfl, s7, s8, rfl⟩
        rw [List.nil_append] at e3
        have hc : c ∈ chs p.2 m := by rw [e3]; simp
        have hc' := mem_chs.mp hc
        have h14 := m_mark_with B (n + 1) p.2 c (fun t z => by have := (hc' t z).1; omega) S
        have h15 := m_worth_to B (n + 1) r0 c (fun t z => by rw [hr0.1]; exact (hc' t z).1) S
        have hi1 := index_dI S (2 ^ m) (rest m R0) (mw p.2 c) (mw_lt hp.2 hc)
        have hi0 := index_dI S (2 ^ m) (rest m (r0 :: R0)) p.2 hp.2
        refine ⟨_, rfl, ?_⟩
        simp at h15 hw1 hrow hw0
        simp [h14, hrow, h15, hw1, hw0, dR]
        have hi1' : index S (dI (2 ^ m) (rest m (List.drop (pre.length + 1) M))) (.int (mw p.2 c)) = some (.int (rest m R0 (mw p.2 c))) := hi1
        rw [hi1']
        have hi0' : index S (dI (2 ^ m) (rest m (M[pre.length]?.getD [] :: List.drop (pre.length + 1) M))) (.int p.2) = some (.int (rest m (r0 :: R0) p.2)) := by
          rw [← hi0]; simp only [r0, R0, List.getD_eq_getElem?_getD]
        simp [hi0']
        by_cases hq : wt r0 c + rest m R0 (mw p.2 c) = rest m (r0 :: R0) p.2
        · simp [hq]
          have hdl : seqs S (dlD p.1) = some (p.1.map eo) := rfl
          have hbd : ((List.map (fun a => (con a).length) pr).sum + (List.filter (fun c => decide (wt r0 c + rest m R0 (mw p.2 c) = rest m (r0 :: R0) p.2)) pc).length) ≤ 16807 := by
            refine Nat.le_trans ?_ hlen
            rw [List.flatMap_append, List.length_append, List.length_flatMap, List.flatMap_cons, List.length_append]
            refine Nat.add_le_add_left (Nat.le_trans ?_ (Nat.le_add_right _ _)) _
            simp only [con, List.length_map, e3, List.filter_append, List.length_append]
            exact Nat.le_add_right _ _
          simp [hdl, hp.1, dmD, dlD]
          exact ⟨line_le (by omega), line_le (by omega)⟩
        · simp [hq]
      · rintro ρ2 S2 ⟨rfl, s7, s8, rfl⟩
        simp [con]
    · rintro ρ2 S2 ⟨rfl, s5, s6, s7, s8, rfl⟩
      simp
      rfl
  · rintro ρ2 S2 ⟨rfl, s1, s4, s5, s6, s7, s8, s9, rfl⟩
    simp
    refine W_map dmD (fun p => dlD p.1) (bdN m M M.length) (by have := hcap M.length (by omega); omega) (fun p hp => ⟨_, rfl, by simp, by simp⟩) ?_
    simp [bestD]
omit B in
theorem bestD_ok {m : Nat} {M : Mk} (d : Dl) (hd : d ∈ bestD m M) : d.length = M.length := by
  obtain ⟨p, hp, rfl⟩ := List.mem_map.mp hd
  exact ((bdN_ok (m := m) (M := M) M.length (Nat.le_refl _)).2 p hp).1
theorem m_is_served_by {m : Nat} (n : Nat) (M : Mk) (h : mkOk m M) (h1 : M ≠ []) (hl : M.length ≤ 5) (hm : m ≤ 6) (b : Nat) (hb : b < M.length) (S : Store) : run P (n + 4) 19 [mk M, .int b] S = .ok (.bl ((bestD m M).all fun d => decide (d.getD b none ≠ none))) S := by
  have h0 := m_best_deals_by B n M h h1 hl hm S
  have hcap : (bestD m M).length ≤ 16807 := by
    unfold bestD
    rw [List.length_map]
    refine Nat.le_trans (bdN_ok M.length (Nat.le_refl _)).1 (Nat.le_trans (Nat.pow_le_pow_left (show m + 1 ≤ 7 by omega) _) ?_)
    exact Nat.le_trans (Nat.pow_le_pow_right (by omega) hl) (by omega)
  rw [B.b19, W_eq]
  simp [k95b19, h0]
  refine W_map dlD (fun d => .bl (decide (d.getD b none ≠ none))) (bestD m M) (by omega) (fun d hd => ⟨_, rfl, by simp, ?_⟩) ?_
  · have e := bestD_ok d hd
    simp [dlD, ixOf_nat, e, hb]
    cases hc : d[b] <;> simp [hc]
  · have := b_all S (fun d : Dl => decide (d.getD b none ≠ none)) (bestD m M)
    rw [this]
    simp
omit B in
theorem twc_ok {m : Nat} {M : Mk} (h : mkOk m M) {t : Nat} (ht : t < m) : mkOk (m + 1) (twc M t) := by
  intro r hr
  obtain ⟨q, hq, rfl⟩ := List.mem_map.mp hr
  obtain ⟨h1, h2⟩ := h q hq
  refine ⟨by simp [h1], fun x hx => ?_⟩
  rcases List.mem_append.mp hx with hx | hx
  · exact h2 x hx
  · rw [List.mem_singleton.mp hx, List.getD_eq_getElem?_getD, List.getElem?_eq_getElem (by omega)]
    exact h2 _ (List.getElem_mem (by omega))
/-- the least price of a thing -/
def lp (m : Nat) (M : Mk) (t : Nat) : Int := most (m + 1) (twc M t) - most m M
theorem m_least_price_by {m : Nat} (n : Nat) (M : Mk) (h : mkOk m M) (h1 : M ≠ []) (hl : M.length ≤ 1000) (hm : 1 ≤ m ∧ m ≤ 8) (t : Nat) (ht : t < m) (S : Store) : run P (n + 4) 20 [mk M, .int t] S = .ok (.int (lp m M t)) S := by
  have h0 := m_best_worth_by B n M h h1 hl (by omega) S
  have h2 := m_best_worth_by B n (twc M t) (twc_ok h ht) (by unfold twc; simpa using h1) (by unfold twc; simpa using hl) (by omega) S
  have h3 := m_twice_by B (n + 2) M h t ht hl (by omega) S
  rw [B.b20, W_eq]
  simp [k95b20, h0, h2, h3, lp]
/-! checks that pass -/
structure Mkt (m : Nat) (M : Mk) : Prop where
  ok : mkOk m M
  ln : 1 ≤ M.length ∧ M.length ≤ 5
  th : 1 ≤ m ∧ m ≤ 5
omit B in
theorem Mkt.ne {m : Nat} {M : Mk} (h : Mkt m M) : M ≠ [] := by
  intro e; have := h.ln; rw [e] at this; simp at this
theorem m_check_market {m : Nat} (n : Nat) (M : Mk) (h : Mkt m M) (S : Store) : run P (n + 6) 22 [mk M] S = .ok .non S := by
  have h0 := m_is_market B n M h.ok h.ln h.th S
  rw [B.b22, W_eq]; simp [k95b22, h0]
theorem m_check_buyer (n : Nat) (M : Mk) (b : Nat) (hb : b < M.length) (S : Store) : run P (n + 4) 23 [mk M, .int b] S = .ok .non S := by
  have h0 := m_is_buyer B n M b S
  have : decide (0 ≤ (b : Int) ∧ (b : Int) ≤ (M.length : Int) - 1) = true := by simp; omega
  rw [this] at h0
  rw [B.b23, W_eq]; simp [k95b23, h0]
theorem m_check_thing {m : Nat} (n : Nat) (M : Mk) (h : mkOk m M) (h1 : M ≠ []) (t : Nat) (ht : t < m) (S : Store) : run P (n + 4) 24 [mk M, .int t] S = .ok .non S := by
  have h0 := m_is_thing B n M h h1 t S
  have : decide (0 ≤ (t : Int) ∧ (t : Int) ≤ (m : Int) - 1) = true := by simp; omega
  rw [this] at h0
  rw [B.b24, W_eq]; simp [k95b24, h0]
theorem m_check_row {m : Nat} (n : Nat) (M : Mk) (h : mkOk m M) (h1 : M ≠ []) (hm : m ≤ 1000) (r : List Int) (hr : rowOk m r) (S : Store) : run P (n + 5) 25 [mk M, mrow r] S = .ok .non S := by
  obtain ⟨q, R, e, hq⟩ := idx0 B h h1
  have e1 : index S (mk M) (.int 0) = some (mrow q) := by rw [e]; simp [mk_def]
  have h0 := m_is_row B n m r hr hm S
  simp at h0
  rw [B.b25, W_eq]; simp [k95b25, e1, hq, h0]
theorem m_check_number (n : Nat) (i l h : Int) (hi : l ≤ i ∧ i ≤ h) (S : Store) : run P (n + 3) 26 [.int i, .int l, .int h] S = .ok .non S := by
  have h0 := m_is_between B n i l h S
  rw [decide_eq_true hi] at h0
  rw [B.b26, W_eq]; simp [k95b26, h0]
theorem m_with_worth {m : Nat} (n : Nat) (M : Mk) (h : Mkt m M) (b t : Nat) (w : Int) (hb : b < M.length) (ht : t < m) (hw : 0 ≤ w ∧ w ≤ 99) (S : Store) : run P (n + 7) 27 [mk M, .int b, .int t, .int w] S = .ok (mk (setM M b t w)) S := by
  have h1 := m_check_market B n M h S
  have h2 := m_check_buyer B (n + 2) M b hb S
  have h3 := m_check_thing B (n + 2) M h.ok h.ne t ht S
  have h4 := m_check_number B (n + 3) w 0 99 hw S
  have h5 := m_with_worth_by B (n + 5) M h.ok b t w hb ht (by have := h.ln; omega) (by have := h.th; omega) S
  rw [B.b27, W_eq]; simp [k95b27, h1, h2, h3, h4, h5, B.g3]
theorem m_with_buyer {m : Nat} (n : Nat) (M : Mk) (h : Mkt m M) (r : List Int) (hr : rowOk m r) (hl : M.length < 5) (S : Store) : run P (n + 7) 28 [mk M, mrow r] S = .ok (mk (M ++ [r])) S := by
  have h1 := m_check_market B n M h S
  have h2 := m_check_row B (n + 1) M h.ok h.ne (by have := h.th; omega) r hr S
  simp at h2
  have e2 : bfun S .len [mk M] = some (.int M.length) := by simp [mk_def]
  have e3 : seqs S (mk M) = some (M.map mrow) := rfl
  rw [B.b28, W_eq]; simp [k95b28, h1, h2, e2, e3, B.g1, show ¬ ((M.length : Int) = 5) by omega, line_le (show M.length + 1 ≤ 1000000 by omega)]
  simp [mk_def]
theorem m_without_buyer {m : Nat} (n : Nat) (M : Mk) (h : Mkt m M) (b : Nat) (hb : b < M.length) (hl : 1 < M.length) (S : Store) : run P (n + 7) 29 [mk M, .int b] S = .ok (mk (M.eraseIdx b)) S := by
  have h1 := m_check_market B n M h S
  have h2 := m_check_buyer B (n + 2) M b hb S
  have h3 := m_without_buyer_by B (n + 5) M b (by have := h.ln; omega) S
  have e2 : bfun S .len [mk M] = some (.int M.length) := by simp [mk_def]
  rw [B.b29, W_eq]; simp [k95b29, h1, h2, h3, e2, show ¬ ((M.length : Int) = 1) by omega]
end
section
variable {P : Pg} (B : BaseP P)
include B
theorem m_least_prices_by {m : Nat} (n : Nat) (M : Mk) (h : mkOk m M) (h1 : M ≠ []) (hl : M.length ≤ 1000) (hm : 1 ≤ m ∧ m ≤ 8) (S : Store) : run P (n + 5) 21 [mk M] S = .ok (.tup ((List.range m).map fun t => .int (lp m M t))) S := by
  have h0 := m_things_of B.toBase (n + 3) M h h1 (by omega) S
  rw [B.b21, W_eq]
  simp [k95b21, h0]
  refine W_map (fun i : Nat => D.int i) (fun t => .int (lp m M t)) (List.range m) (by simp; omega) (fun t ht => ⟨_, rfl, by simp, ?_⟩) ?_
  · have := m_least_price_by B.toBase n M h h1 hl hm t (List.mem_range.mp ht) S
    simp [this]
  · simp
theorem m_best_worth {m : Nat} (n : Nat) (M : Mk) (h : Mkt m M) (S : Store) : run P (n + 7) 43 [mk M] S = .ok (.int (most m M)) S := by
  have h1 := m_check_market B.toBase n M h S
  have h2 := m_best_worth_by B.toBase (n + 3) M h.ok h.ne (by have := h.ln; omega) (by have := h.th; omega) S
  rw [B.b43, W_eq]; simp [k95b43, h1, h2]
theorem m_is_served {m : Nat} (n : Nat) (M : Mk) (h : Mkt m M) (b : Nat) (hb : b < M.length) (S : Store) : run P (n + 7) 44 [mk M, .int b] S = .ok (.bl ((bestD m M).all fun d => decide (d.getD b none ≠ none))) S := by
  have h1 := m_check_market B.toBase n M h S
  have h2 := m_check_buyer B.toBase (n + 2) M b hb S
  have h3 := m_is_served_by B.toBase (n + 2) M h.ok h.ne (by have := h.ln; omega) (by have := h.th; omega) b hb S
  rw [B.b44, W_eq]; simp [k95b44, h1, h2, h3]
theorem m_least_prices {m : Nat} (n : Nat) (M : Mk) (h : Mkt m M) (S : Store) : run P (n + 7) 45 [mk M] S = .ok (.tup ((List.range m).map fun t => .int (lp m M t))) S := by
  have h1 := m_check_market B.toBase n M h S
  have h2 := m_least_prices_by B (n + 1) M h.ok h.ne (by have := h.ln; omega) (by have := h.th; omega) S
  rw [B.b45, W_eq]; simp [k95b45, h1, h2]
end
end G
set_option maxHeartbeats 400000
namespace G
open PySem L2
/-! ### wishes -/
inductive Wish where
  | worth (n : Int)
  | price (j : Nat) (n : Int)
  | served (i : Nat)
def wD : Wish → D
  | .worth n => .tup [.str "worth", .int n]
  | .price j n => .tup [.str "price", .int j, .int n]
  | .served i => .tup [.str "served", .int i]
def wsD (Ws : List Wish) : D := .tup (Ws.map wD)
def srv (m : Nat) (M : Mk) (i : Nat) : Bool := (bestD m M).all fun d => decide (d.getD i none ≠ none)
def holds (m : Nat) (M : Mk) : Wish → Bool
  | .worth n => decide (n ≤ most m M)
  | .price j n => decide (lp m M j ≤ n)
  | .served i => decide (i < M.length) && srv m M i
/-- what is a wish about a market -/
def wok (m : Nat) (M : Mk) : Wish → Prop
  | .worth n => 0 ≤ n ∧ n ≤ 999
  | .price j n => j < m ∧ 0 ≤ n ∧ n ≤ 999
  | .served i => i < M.length
/-- what stays so -/
def wok' (m : Nat) : Wish → Prop
  | .price j n => j < m
  | _ => True
/-- which wishes do not hold -/
def brk (m : Nat) (M : Mk) (Ws : List Wish) : List Nat := (((List.range Ws.length).zip Ws).filter fun p => !holds m M p.2).map (·.1)
theorem pairs_eq {α : Type} (f : α → D) : ∀ (l : List Nat) (xs : List α), pairs (l.map fun i => .int (i : Nat)) (xs.map f) = (l.zip xs).map fun p => .tup [.int p.1, f p.2]
  | [], _ => by simp [pairs]
  | _ :: _, [] => by simp [pairs]
  | a :: l, x :: xs => by simp [pairs, pairs_eq f l xs]
theorem its_enum {α : Type} (f : α → D) (xs : List α) : itemsOf .enum [.tup (xs.map f)] = some (((List.range xs.length).zip xs).map fun p => .tup [.int p.1, f p.2]) := by
  simp only [itemsOf, seqI, Option.map_some, List.length_map, upto0, pairs_eq]
theorem strOk_worth : PyData.strOk "worth" = true := by decide +kernel
theorem strOk_price : PyData.strOk "price" = true := by decide +kernel
theorem strOk_served : PyData.strOk "served" = true := by decide +kernel
theorem wish_ne (S : Store) (w : Wish) : cmpop S .eq (wD w) (.tup []) = some false := by
  show pyEq (wD w) (.tup []) = _
  cases w <;> simp [wD, pyEq, toPy, toPys, fine, SeqAt.shaped, PyData.canLay0, PyData.canLayAll0, PyData.depth, PyData.depthAll, PyData.eqv, PyData.eqvAll, strOk_worth, strOk_price, strOk_served]
theorem lk_worth : List.lookup ("worth" : Str) (k95P.pg.tab 0) = some (D.int 2) := by
  show List.lookup _ [(("worth" : Str), D.int 2), ("price", .int 3), ("served", .int 2)] = _
  simp [List.lookup_cons]
theorem lk_price : List.lookup ("price" : Str) (k95P.pg.tab 0) = some (D.int 3) := by
  show List.lookup _ [(("worth" : Str), D.int 2), ("price", .int 3), ("served", .int 2)] = _
  simp [List.lookup_cons, show ((Str.ofString "price") == Str.ofString "worth") = false by decide +kernel]
theorem lk_served : List.lookup ("served" : Str) (k95P.pg.tab 0) = some (D.int 2) := by
  show List.lookup _ [(("worth" : Str), D.int 2), ("price", .int 3), ("served", .int 2)] = _
  simp [List.lookup_cons, show ((Str.ofString "served") == Str.ofString "worth") = false by decide +kernel, show ((Str.ofString "served") == Str.ofString "price") = false by decide +kernel]
section
variable {P : Pg} (B : Base P)
include B
theorem m_is_wish {m : Nat} (n : Nat) (M : Mk) (h : mkOk m M) (h1 : M ≠ []) (w : Wish) (hw : wok m M w) (S : Store) : run P (n + 4) 30 [mk M, wD w] S = .ok (.bl true) S := by
  rw [B.b30, W_eq]
  have hn := wish_ne S w
  cases w with
  | worth i =>
    simp [wD] at hn
    simp [wok] at hw
    simp [k95b30, wD, hn, B.tab, lk_worth, B.g6, B.g7, B.g4, m_is_between B, ixOf_last, hw]
  | price j i =>
    simp [wD] at hn
    simp [wok] at hw
    have h0 := m_is_thing B n M h h1 j S
    have : decide (0 ≤ (j : Int) ∧ (j : Int) ≤ (m : Int) - 1) = true := by simp; omega
    rw [this] at h0
    simp [k95b30, wD, hn, B.tab, lk_price, B.g6, B.g7, B.g4, m_is_between B, ixOf_last, hw, h0]
  | served j =>
    simp [wD] at hn
    simp [wok] at hw
    have h0 := m_is_buyer B n M j S
    have : decide (0 ≤ (j : Int) ∧ (j : Int) ≤ (M.length : Int) - 1) = true := by simp; omega
    rw [this] at h0
    simp [k95b30, wD, hn, B.tab, lk_served, B.g6, B.g7, B.g4, h0]
theorem m_holds_wish {m : Nat} (n : Nat) (M : Mk) (h : mkOk m M) (h1 : M ≠ []) (hl : M.length ≤ 5) (hm : 1 ≤ m ∧ m ≤ 6) (w : Wish) (hw : wok' m w) (S : Store) : run P (n + 5) 31 [mk M, wD w] S = .ok (.bl (holds m M w)) S := by
  rw [B.b31, W_eq]
  cases w with
  | worth i =>
    have h0 := m_best_worth_by B (n + 1) M h h1 (by omega) (by omega) S
    simp [k95b31, wD, B.g4, h0, holds]
  | price j i =>
    have h0 := m_least_price_by B n M h h1 (by omega) (by omega) j hw S
    simp [k95b31, wD, B.g4, B.g5, h0, holds]
  | served j =>
    have h0 := m_is_buyer B (n + 1) M j S
    simp [k95b31, wD, B.g4, B.g5, h0, holds]
    by_cases hj : j < M.length
    · have h2 := m_is_served_by B n M h h1 hl hm.2 j hj S
      have e : decide ((j : Int) ≤ (M.length : Int) - 1) = true := by simp; omega
      simp [e, h2, hj, srv]
    · have e : decide ((j : Int) ≤ (M.length : Int) - 1) = false := by simp; omega
      simp [e, hj]
theorem m_first_broken {m : Nat} (n : Nat) (M : Mk) (h : mkOk m M) (h1 : M ≠ []) (hl : M.length ≤ 5) (hm : 1 ≤ m ∧ m ≤ 6) (Ws : List Wish) (hw : ∀ w ∈ Ws, wok' m w) (hs : Ws.length ≤ 1000) (S : Store) : run P (n + 6) 32 [mk M, wsD Ws] S = .ok (.lst (((brk m M Ws).take 1).map fun i => .int (i : Nat))) S := by
  rw [B.b32, W_eq]
  simp [k95b32, wsD, its_enum]
  refine W_filter (fun p : Nat × Wish => .tup [.int p.1, wD p.2]) (fun p => .int p.1) (fun p => !holds m M p.2) ((List.range Ws.length).zip Ws) (by simp; omega) (fun p hp => ⟨_, rfl, ?_, by simp⟩) ?_
  · have h0 := m_holds_wish B n M h h1 hl hm p.2 (hw _ (List.of_mem_zip hp).2) S
    simp [h0]
  · have := cut_take (α := Nat) (List.map (fun p : Nat × Wish => D.int p.1) (((List.range Ws.length).zip Ws).filter fun p => !holds m M p.2)) 1
    simp [optB, slice_lst, brk]
    simp at this
    rw [this]
    simp [Function.comp_def]
end
end G
set_option maxHeartbeats 400000
namespace G
open PySem L2
/-! ### a site in the store -/
def siteO (past : List D) (M : Mk) (Ws : List Wish) : Cell := .obj 0 [("past", .tup (past ++ [.tup [mk M, wsD Ws]]))]
def SiteAt (S : Store) (q : Nat) (past : List D) (M : Mk) (Ws : List Wish) : Prop := S[q]? = some (siteO past M Ws)
/-- what keep makes -/
def kp (m : Nat) (S : Store) (q : Nat) (past : List D) (M : Mk) (Ws : List Wish) (M' : Mk) (Ws' : List Wish) : Out D := match brk m M' Ws' with
  | [] => .ok .non (S.set q (siteO (past ++ [.tup [mk M, wsD Ws]]) M' Ws'))
  | i :: _ => .ex 8 (some (.int i)) S
@[simp] theorem lk_past (d : D) : List.lookup ("past" : Str) [(("past" : Str), d)] = some d := by simp [List.lookup_cons]
@[simp] theorem putF_past (d e : D) : putF ("past" : Str) d [(("past" : Str), e)] = [(("past" : Str), d)] := by simp [putF]
theorem putF_nil (d : D) : putF ("past" : Str) d [] = [(("past" : Str), d)] := rfl
@[simp] theorem lkn_put (d : D) : List.lookup ("put" : Str) [(("past" : Str), d)] = none := by simp [List.lookup_cons, show ((Str.ofString "put") == Str.ofString "past") = false by decide +kernel]
@[simp] theorem lkn_come (d : D) : List.lookup ("come" : Str) [(("past" : Str), d)] = none := by simp [List.lookup_cons, show ((Str.ofString "come") == Str.ofString "past") = false by decide +kernel]
@[simp] theorem lkn_go (d : D) : List.lookup ("go" : Str) [(("past" : Str), d)] = none := by simp [List.lookup_cons, show ((Str.ofString "go") == Str.ofString "past") = false by decide +kernel]
@[simp] theorem lkn_keep (d : D) : List.lookup ("keep" : Str) [(("past" : Str), d)] = none := by simp [List.lookup_cons, show ((Str.ofString "keep") == Str.ofString "past") = false by decide +kernel]
@[simp] theorem lkn_wish (d : D) : List.lookup ("wish" : Str) [(("past" : Str), d)] = none := by simp [List.lookup_cons, show ((Str.ofString "wish") == Str.ofString "past") = false by decide +kernel]
@[simp] theorem lkn_lift (d : D) : List.lookup ("lift" : Str) [(("past" : Str), d)] = none := by simp [List.lookup_cons, show ((Str.ofString "lift") == Str.ofString "past") = false by decide +kernel]
@[simp] theorem lkn_undo (d : D) : List.lookup ("undo" : Str) [(("past" : Str), d)] = none := by simp [List.lookup_cons, show ((Str.ofString "undo") == Str.ofString "past") = false by decide +kernel]
theorem SiteAt.obj {S : Store} {q : Nat} {past : List D} {M : Mk} {Ws : List Wish} (h : SiteAt S q past M Ws) : objOf S 0 (.ref q) = some [(("past" : Str), D.tup (past ++ [.tup [mk M, wsD Ws]]))] := by
  unfold SiteAt at h
  simp [objOf, h, siteO]
theorem idx_last (S : Store) (xs : List D) (x : D) : index S (.tup (xs ++ [x])) (.int (-1)) = some x := by
  rw [index_tup, List.length_append, List.length_singleton, ixOf_last (by omega)]
  simp
@[simp] theorem shut_ok {α : Type} (a : α) (S : Store) : Out.shut (.ok a S) = .ok a S := rfl
section
variable {P : Pg} (B : Base P)
include B
theorem m_market (n : Nat) {S : Store} {q : Nat} {past : List D} {M : Mk} {Ws : List Wish} (h : SiteAt S q past M Ws) : run P (n + 1) 34 [.ref q] S = .ok (mk M) S := by
  have h0 := h.obj
  rw [B.b34, W_eq]; simp [k95b34, h0, ixOf_last]
theorem m_wishes (n : Nat) {S : Store} {q : Nat} {past : List D} {M : Mk} {Ws : List Wish} (h : SiteAt S q past M Ws) : run P (n + 1) 35 [.ref q] S = .ok (wsD Ws) S := by
  have h0 := h.obj
  rw [B.b35, W_eq]; simp [k95b35, h0, ixOf_last]
theorem m_init {m : Nat} (n : Nat) (M : Mk) (h : Mkt m M) (S : Store) (q : Nat) (hq : S[q]? = some (.obj 0 [])) : run P (n + 7) 33 [.ref q, mk M] S = .ok .non (S.set q (siteO [] M [])) := by
  have h1 := m_check_market B n M h S
  have h0 : objOf S 0 (.ref q) = some [] := by simp [objOf, hq]
  rw [B.b33, W_eq]; simp [k95b33, h1, h0, putF_nil, siteO, wsD]
theorem m_keep {m : Nat} (n : Nat) {S : Store} {q : Nat} {past : List D} {M : Mk} {Ws : List Wish} (h : SiteAt S q past M Ws) (hp : past.length ≤ 1000) (M' : Mk) (h' : Mkt m M') (Ws' : List Wish) (hw : ∀ w ∈ Ws', wok' m w) (hs : Ws'.length ≤ 1000) : run P (n + 7) 36 [.ref q, mk M', wsD Ws'] S = kp m S q past M Ws M' Ws' := by
  have h0 := h.obj
  have h1 := m_first_broken B n M' h'.ok h'.ne h'.ln.2 ⟨h'.th.1, by have := h'.th; omega⟩ Ws' hw hs S
  rw [B.b36]
  unfold kp
  cases hb : brk m M' Ws' with
  | nil =>
    rw [hb] at h1
    simp [k95b36, h1, loopF, h0, line_le (show past.length + 1 + 1 ≤ 1000000 by omega), line_le (show past.length + (1 + 1) ≤ 1000000 by omega), siteO]
  | cons i r =>
    rw [hb] at h1
    simp [k95b36, h1, loopF]
theorem m_put {m : Nat} (n : Nat) {S : Store} {q : Nat} {past : List D} {M : Mk} {Ws : List Wish} (h : SiteAt S q past M Ws) (hM : Mkt m M) (hp : past.length ≤ 1000) (hw : ∀ w ∈ Ws, wok' m w) (hs : Ws.length ≤ 1000) (b t : Nat) (w : Int) (hb : b < M.length) (ht : t < m) (hn : 0 ≤ w ∧ w ≤ 99) (h' : Mkt m (setM M b t w)) :
    run P (n + 8) 37 [.ref q, .int b, .int t, .int w] S = kp m S q past M Ws (setM M b t w) Ws := by
  have h0 := h.obj
  have h1 := m_market B (n + 6) h
  have h2 := m_wishes B (n + 6) h
  have h3 := m_with_worth B n M hM b t w hb ht hn S
  have h4 := m_keep B n h hp (setM M b t w) h' Ws hw hs
  rw [B.b37]
  simp [k95b37, h0, h1, h2, h3, h4]
  unfold kp
  cases hb : brk m (setM M b t w) Ws <;> simp
theorem m_come {m : Nat} (n : Nat) {S : Store} {q : Nat} {past : List D} {M : Mk} {Ws : List Wish} (h : SiteAt S q past M Ws) (hM : Mkt m M) (hp : past.length ≤ 1000) (hw : ∀ w ∈ Ws, wok' m w) (hs : Ws.length ≤ 1000) (r : List Int) (hr : rowOk m r) (hl : M.length < 5) (h' : Mkt m (M ++ [r])) :
    run P (n + 8) 38 [.ref q, mrow r] S = kp m S q past M Ws (M ++ [r]) Ws := by
  have h0 := h.obj
  have h1 := m_market B (n + 6) h
  have h2 := m_wishes B (n + 6) h
  have h3 := m_with_buyer B n M hM r hr hl S
  have h4 := m_keep B n h hp (M ++ [r]) h' Ws hw hs
  simp at h3
  rw [B.b38]
  simp [k95b38, h0, h1, h2, h3, h4]
  unfold kp
  cases hb : brk m (M ++ [r]) Ws <;> simp
theorem m_go {m : Nat} (n : Nat) {S : Store} {q : Nat} {past : List D} {M : Mk} {Ws : List Wish} (h : SiteAt S q past M Ws) (hM : Mkt m M) (hp : past.length ≤ 1000) (hw : ∀ w ∈ Ws, wok' m w) (hs : Ws.length ≤ 1000) (b : Nat) (hb : b < M.length) (hl : 1 < M.length) (h' : Mkt m (M.eraseIdx b)) :
    run P (n + 8) 39 [.ref q, .int b] S = kp m S q past M Ws (M.eraseIdx b) Ws := by
  have h0 := h.obj
  have h1 := m_market B (n + 6) h
  have h2 := m_wishes B (n + 6) h
  have h3 := m_without_buyer B n M hM b hb hl S
  have h4 := m_keep B n h hp (M.eraseIdx b) h' Ws hw hs
  rw [B.b39]
  simp [k95b39, h0, h1, h2, h3, h4]
  unfold kp
  cases hb : brk m (M.eraseIdx b) Ws <;> simp
omit B in
theorem wsD_snoc (Ws : List Wish) (w : Wish) : D.tup (Ws.map wD ++ [wD w]) = wsD (Ws ++ [w]) := by simp [wsD]
theorem m_wish {m : Nat} (n : Nat) {S : Store} {q : Nat} {past : List D} {M : Mk} {Ws : List Wish} (h : SiteAt S q past M Ws) (hM : Mkt m M) (hp : past.length ≤ 1000) (hw : ∀ w ∈ Ws, wok' m w) (hs : Ws.length < 1000) (w : Wish) (hv : wok m M w) :
    run P (n + 8) 40 [.ref q, wD w] S = kp m S q past M Ws M (Ws ++ [w]) := by
  have h0 := h.obj
  have h1 := m_market B (n + 6) h
  have h2 := m_wishes B (n + 6) h
  have h3 := m_is_wish B (n + 3) M hM.ok hM.ne w hv S
  have h4 := m_keep B n h hp M hM (Ws ++ [w]) (fun x hx => by
    rcases List.mem_append.mp hx with hx | hx
    · exact hw x hx
    · rw [List.mem_singleton.mp hx]; cases w <;> first | trivial | exact hv.1) (by simp; omega)
  have e : seqs S (wsD Ws) = some (Ws.map wD) := rfl
  rw [← wsD_snoc] at h4
  rw [B.b40]
  simp [k95b40, h0, h1, h2, h3, e, line_le (show Ws.length + 1 ≤ 1000000 by omega), h4]
  unfold kp
  cases hb : brk m M (Ws ++ [w]) <;> simp
theorem m_lift {m : Nat} (n : Nat) {S : Store} {q : Nat} {past : List D} {M : Mk} {Ws : List Wish} (h : SiteAt S q past M Ws) (hM : Mkt m M) (hp : past.length ≤ 1000) (hw : ∀ w ∈ Ws, wok' m w) (hs : Ws.length ≤ 1000) (k : Nat) (hk : k < Ws.length) :
    run P (n + 8) 41 [.ref q, .int k] S = kp m S q past M Ws M (Ws.eraseIdx k) := by
  have h0 := h.obj
  have h1 := m_market B (n + 6) h
  have h2 := m_wishes B (n + 6) h
  have h3 := m_check_number B (n + 4) k 0 ((Ws.length : Int) - 1) (by omega) S
  have h4 := m_keep B n h hp M hM (Ws.eraseIdx k) (fun x hx => hw x (List.mem_of_mem_eraseIdx hx)) (by
    have := List.length_eraseIdx_le Ws k; omega)
  have e : bfun S .len [wsD Ws] = some (.int Ws.length) := by simp [wsD]
  have e2 : slice S (wsD Ws) none (some (k : Int)) = some (.tup ((Ws.map wD).take k)) := by rw [wsD, slice_tup, cut_take (α := Nat)]
  have e3 : slice S (wsD Ws) (some ((k : Int) + 1)) none = some (.tup ((Ws.map wD).drop (k + 1))) := by rw [wsD, slice_tup, cut_drop1]
  have e4 : wsD (Ws.eraseIdx k) = .tup ((Ws.map wD).take k ++ (Ws.map wD).drop (k + 1)) := by
    rw [wsD, List.eraseIdx_eq_take_drop_succ, List.map_append, List.map_take, List.map_drop]
  rw [e4] at h4
  rw [B.b41]
  simp [k95b41, h0, h1, h2, h3, e, optB, e2, e3, line_le (show min k Ws.length + (Ws.length - (k + 1)) ≤ 1000000 by omega), h4]
  unfold kp
  cases hb : brk m M (Ws.eraseIdx k) <;> simp
theorem m_undo (n : Nat) {S : Store} {q : Nat} {past : List D} {M : Mk} {Ws : List Wish} (h : SiteAt S q past M Ws) (hp : 1 ≤ past.length) : run P (n + 1) 42 [.ref q] S = .ok .non (S.set q (.obj 0 [("past", .tup past)])) := by
  have h0 := h.obj
  rw [B.b42, W_eq]
  have e : cutD (past ++ [.tup [mk M, wsD Ws]]) none (some (-1)) = past := by rw [cut_init]; simp
  simp [k95b42, h0, show ¬ ((past.length : Int) + 1 = 1) by omega, optB, slice_tup, e]
end
end G
set_option maxHeartbeats 400000
namespace G
open PySem L2
/-! ### the pool -/
def PoolAt (S : Store) (p : Nat) : Prop := ∃ a b c : Int, S[p]? = some (.lst [.int a, .int b, .int c])
structure Pl (p : Nat) (S S' : Store) : Prop where
  ln : S'.length = S.length
  pool : PoolAt S' p
  same : ∀ q, q ≠ p → S'[q]? = S[q]?
theorem Pl.refl {p : Nat} {S : Store} (h : PoolAt S p) : Pl p S S := ⟨rfl, h, fun _ _ => rfl⟩
theorem Pl.trans {p : Nat} {S S1 S2 : Store} (a : Pl p S S1) (b : Pl p S1 S2) : Pl p S S2 := ⟨b.ln.trans a.ln, b.pool, fun q h => (b.same q h).trans (a.same q h)⟩
theorem PoolAt.lt {S : Store} {p : Nat} (h : PoolAt S p) : p < S.length := by
  obtain ⟨a, b, c, e⟩ := h
  exact (List.getElem?_eq_some_iff.mp e).1
theorem Pl.set {p : Nat} {S : Store} (h : PoolAt S p) (a b c : Int) : Pl p S (S.set p (.lst [.int a, .int b, .int c])) := ⟨by simp, ⟨a, b, c, by rw [List.getElem?_set_self h.lt]⟩, fun q hq => by rw [List.getElem?_set_ne (fun e => hq e.symm)]⟩
theorem index_ref {S : Store} {p : Nat} {xs : List D} (h : S[p]? = some (.lst xs)) (k : Int) : index S (.ref p) (.int k) = (ixOf xs.length k).bind fun j => xs[j]? := by
  simp [index, dctOf, h, seqs, seqOf]
theorem setCell_lst {S : Store} {p : Nat} {xs : List D} (h : S[p]? = some (.lst xs)) (k : Int) (d : D) : setCell S (.ref p) (.int k) d = (setAt xs k d).map fun ys => S.set p (.lst ys) := by
  simp [setCell, h]
@[simp] theorem setAt3_0 (a b c d : D) : setAt [a, b, c] 0 d = some [d, b, c] := by simp [setAt]
@[simp] theorem setAt3_1 (a b c d : D) : setAt [a, b, c] 1 d = some [a, d, c] := by simp [setAt]
@[simp] theorem setAt3_2 (a b c d : D) : setAt [a, b, c] 2 d = some [a, b, d] := by simp [setAt]
def belowB (c1 c2 c3 : Int) : List G.S := [.ife (.cmp .gt (.idx (.var 0) (.con (.int 0))) (.con (.int 0))) [.asg 3 (.bin .mod (.bi .int [.idx (.var 0) (.con (.int 0))]) (.var 1)), .setC (.var 0) (.con (.int 0)) (.bin .fdiv (.idx (.var 0) (.con (.int 0))) (.var 1)), .ret (.var 3)] [], .setC (.var 0) (.con (.int 2)) (.bin .add (.idx (.var 0) (.con (.int 2))) (.con (.int 1))), .asg 2 (.bin .mod (.bi .int [.bin .add (.bin .add (.bin .mul (.idx (.var 0) (.con (.int 1))) (.con (.int c1))) (.bin .mul (.idx (.var 0) (.con (.int 2))) (.con (.int c2)))) (.con (.int 5))]) (.con (.int 2147483647))), .setC (.var 0) (.con (.int 1)) (.bin .mod (.bi .int [.bin .add (.bin .mul (.var 2) (.bin .add (.bin .mod (.bi .int [.var 2]) (.con (.int 4093))) (.con (.int c3)))) (.idx (.var 0) (.con (.int 2)))]) (.con (.int 2147483563))), .ret (.bin .mod (.bi .int [.bin .fdiv (.idx (.var 0) (.con (.int 1))) (.con (.int 61))]) (.var 1))]
def poolB (c1 c2 c3 : Int) : List G.S := [.asg 2 (.ite (.cmp .lt (.var 1) (.bi .len [.var 0])) (.bi .int [.idx (.var 0) (.var 1)]) (.bin .add (.bin .mul (.con (.int c1)) (.var 1)) (.con (.int c2)))), .asg 3 (.bin .add (.con (.int c3)) (.bin .mul (.con (.int 7919)) (.var 1))), .for_ (.name 4) .over [.slc (.var 0) [] [.con (.int 63)]] [.asg 3 (.bin .mod (.bi .int [.bin .add (.bin .add (.bin .mul (.var 3) (.con (.int 48271))) (.bin .mod (.bi .int [.var 4]) (.con (.int 2147483629)))) (.con (.int 11))]) (.con (.int 2147483647)))], .asg 3 (.bin .mod (.bi .int [.bin .add (.bin .add (.bin .mul (.var 3) (.con (.int 69621))) (.bin .mul (.bin .mod (.bi .int [.var 2]) (.con (.int 2147483629))) (.con (.int 16807)))) (.con (.int 7))]) (.con (.int 2147483647))), .ret (.cell (.lst [.ite (.or (.cmp .lt (.var 2) (.con (.int 0))) (.cmp .ge (.var 2) (.bin .pow (.con (.int 10)) (.con (.int 18))))) (.bi .abs [.var 2]) (.con (.int 0)), .var 3, .con (.int 0)]))]
/-- alike; K: how a dict is walked -/
def alikeB (K : ItK) : List G.S := [.ife (.cmp .is_ (.var 1) (.con .non)) [.ret (.cmp .is_ (.var 0) (.con .non))] [], .ife (.isi [.bool] (.var 1)) [.ret (.and (.isi [.bool] (.var 0)) (.cmp .eq (.var 0) (.var 1)))] [], .ife (.isi [.int] (.var 1)) [.ret (.and (.isi [.int] (.var 0)) (.and (.not (.isi [.bool] (.var 0))) (.cmp .eq (.var 0) (.var 1))))] [], .ife (.isi [.str] (.var 1)) [.ret (.and (.isi [.str] (.var 0)) (.cmp .eq (.var 0) (.var 1)))] [], .ife (.isi [.dct] (.var 1)) [.ife (.or (.not (.isi [.dct] (.var 0))) (.cmp .ne (.bi .len [.var 0]) (.bi .len [.var 1]))) [.ret (.con (.bl false))] [], .ret (.bi .all [.lc [2] (.name 2) K [.var 1] [] (.and (.cmp .in_ (.var 2) (.var 0)) (.call 50 [.idx (.var 0) (.var 2), .idx (.var 1) (.var 2)]))])] [], .ife (.or (.cmp .ne (.isi [.tup] (.var 1)) (.isi [.tup] (.var 0))) (.cmp .ne (.isi [.lst] (.var 1)) (.isi [.lst] (.var 0)))) [.ret (.con (.bl false))] [], .ret (.and (.cmp .eq (.bi .len [.var 0]) (.bi .len [.var 1])) (.bi .all [.lc [3, 4] (.tup [3, 4]) .zip [.var 0, .var 1] [] (.call 50 [.var 3, .var 4])]))]
/-- the defs of a law on sites, numbered as in k95 -/
structure LawB (P : Pg) : Prop where
  pool : ∃ c1 c2 c3 : Int, P.fn 46 = some ⟨2, 5, poolB c1 c2 c3⟩
  below : ∃ c1 c2 c3 : Int, small c1 = true ∧ small c2 = true ∧ P.fn 53 = some ⟨2, 4, belowB c1 c2 c3⟩
  one : P.fn 54 = some ⟨2, 2, k95b54⟩
  most : P.fn 51 = some ⟨1, 8, k95b51⟩
  least : P.fn 52 = some ⟨1, 4, k95b52⟩
  alike : ∃ K : ItK, P.fn 50 = some ⟨2, 5, alikeB K⟩
  market : P.fn 47 = some ⟨4, 8, k95b47⟩
theorem fmod_nat {i : Int} {n : Nat} (h : 0 < n) : ∃ x : Nat, i.fmod (n : Int) = x ∧ x < n := by
  have h1 := Int.fmod_nonneg_of_pos i (show (0 : Int) < n by omega)
  have h2 := Int.fmod_lt_of_pos i (show (0 : Int) < n by omega)
  exact ⟨(i.fmod n).toNat, by omega, by omega⟩
section
variable {P : Pg} (L : LawB P)
include L
theorem m_below (n : Nat) {S : Store} {p : Nat} (h : PoolAt S p) (many : Nat) (hm : 0 < many ∧ many ≤ 1000) : ∃ (x : Nat) (S' : Store), run P (n + 1) 53 [.ref p, .int many] S = .ok (.int x) S' ∧ x < many ∧ Pl p S S' := by
  obtain ⟨c1, c2, c3, s1, s2, hb⟩ := L.below
  obtain ⟨a, b, c, e⟩ := h
  have h : PoolAt S p := ⟨a, b, c, e⟩
  have hW : W (run P (n + 1) 53 [.ref p, .int many] S) fun r S' => ∃ x : Nat, r = .int x ∧ x < many ∧ Pl p S S' := by
    rw [run_at hb rfl]
    have hi := fun k => index_ref e k
    have hs := fun k d => setCell_lst e k d
    simp [belowB, rho0, hi]
    by_cases ha : 0 < a
    · simp [ha, show ¬ ((many : Int) = 0) by omega, hi, hs, show many ≠ 0 by omega, okDiv_nat (n := many) (by omega)]
      obtain ⟨x, hx, hl⟩ := fmod_nat (i := a) hm.1
      exact ⟨x, by rw [hx], hl, Pl.set h _ _ _⟩
    · have hlt := h.lt
      have e1 : (S.set p (.lst [.int a, .int b, .int (c + 1)]))[p]? = some (.lst [.int a, .int b, .int (c + 1)]) := List.getElem?_set_self hlt
      have hi1 := fun k => index_ref e1 k
      have hs1 := fun k d => setCell_lst e1 k d
      obtain ⟨y, hy, hyl⟩ := fmod_nat (i := b * c1 + (c + 1) * c2 + 5) (n := 2147483647) (by omega)
      have sm : small (y : Int) = true := small_nat (by omega)
      simp at hy
      simp [ha, hi, hs, hi1, s1, s2, hy, sm, hs1]
      have e2 := fun z : Int => (List.getElem?_set_self (l := S) (i := p) (a := Cell.lst [.int a, .int z, .int (c + 1)]) hlt)
      have hi2 := fun z k => index_ref (e2 z) k
      simp [hi2, show many ≠ 0 by omega]
      obtain ⟨x, hx, hl⟩ := fmod_nat (i := ((y : Int) * (Int.fmod y 4093 + c3) + (c + 1)).fmod 2147483563 |>.fdiv 61) hm.1
      exact ⟨x, by rw [hx], hl, Pl.set h _ _ _⟩
  obtain ⟨r, S', e1, x, rfl, hx, pl⟩ := hW.out
  exact ⟨x, S', e1, hx, pl⟩
theorem m_one (n : Nat) {S : Store} {p : Nat} (h : PoolAt S p) (xs : List D) (d : D) (hd : d = .tup xs ∨ d = .lst xs) (hx : 0 < xs.length ∧ xs.length ≤ 1000) : ∃ (x : D) (S' : Store), run P (n + 2) 54 [.ref p, d] S = .ok x S' ∧ x ∈ xs ∧ Pl p S S' := by
  obtain ⟨x, S', e, hl, pl⟩ := m_below L n h xs.length hx
  refine ⟨xs[x], S', ?_, List.getElem_mem hl, pl⟩
  rw [run_at L.one rfl, W_eq]
  rcases hd with rfl | rfl <;> simp [k95b54, rho0, e, ixOf_nat, hl]
end
end G
set_option maxHeartbeats 400000
namespace G
open PySem L2
/-- a comprehension that draws -/
theorem compL_draw {α β : Type} {tg : Tg} {ρ : Rho} {T : Rho → Store → Out Bool} {F : Rho → Store → Out D} (enc : α → D) (eb : β → D) (R : Store → Prop) (G : β → Prop) : ∀ (zs : List α) (acc : List D) (S : Store), acc.length + zs.length ≤ 1000000 → R S →
    (∀ z ∈ zs, ∀ S, R S → ∃ ρ', putTg S ρ tg (enc z) = some ρ' ∧ T ρ' S = .ok true S ∧ W (F ρ' S) fun d S' => ∃ y, d = eb y ∧ G y ∧ R S') →
    ∃ (ys : List β) (S' : Store), compL tg ρ T F acc (zs.map enc) S = .ok (acc ++ ys.map eb) S' ∧ ys.length = zs.length ∧ (∀ y ∈ ys, G y) ∧ R S'
  | [], acc, S, _, r, _ => ⟨[], S, by simp [compL], rfl, by simp, r⟩
  | z :: zs, acc, S, hl, r, h => by
    obtain ⟨ρ', h1, h2, h3⟩ := h z List.mem_cons_self S r
    obtain ⟨d, S1, e, y, rfl, g, r1⟩ := h3.out
    simp only [List.length_cons] at hl
    obtain ⟨ys, S2, f1, f2, f3, f4⟩ := compL_draw enc eb R G zs (acc ++ [eb y]) S1 (by simp; omega) r1 (fun z hz => h z (List.mem_cons_of_mem _ hz))
    refine ⟨y :: ys, S2, ?_, by simp [f2], ?_, f4⟩
    · rw [List.map_cons]
      unfold compL
      rw [h1]
      have hn : line acc.length = true := line_le (by omega)
      simp only [h2, ob_ok, if_true, e, hn, f1]
      simp
    · intro x hx
      rcases List.mem_cons.mp hx with rfl | hx
      · exact g
      · exact f3 x hx
theorem W_draw {α β : Type} {tg : Tg} {ρ : Rho} {T : Rho → Store → Out Bool} {F : Rho → Store → Out D} {S : Store} {Q : List D → Store → Prop} (enc : α → D) (eb : β → D) (R : Store → Prop) (G : β → Prop) (zs : List α) (hl : zs.length ≤ 1000000) (r : R S)
    (h : ∀ z ∈ zs, ∀ S, R S → ∃ ρ', putTg S ρ tg (enc z) = some ρ' ∧ T ρ' S = .ok true S ∧ W (F ρ' S) fun d S' => ∃ y, d = eb y ∧ G y ∧ R S')
    (q : ∀ (ys : List β) S', ys.length = zs.length → (∀ y ∈ ys, G y) → R S' → Q (ys.map eb) S') : W (compL tg ρ T F [] (zs.map enc) S) Q := by
  obtain ⟨ys, S', e, h1, h2, h3⟩ := compL_draw enc eb R G zs [] S (by simpa using hl) r h
  rw [e, W_ok]
  exact q ys S' h1 h2 h3
@[simp] theorem cmp_eqB (S : Store) (a b : Bool) : cmpop S .eq (.bl a) (.bl b) = some (a == b) := (rfl)
@[simp] theorem cmp_neB (S : Store) (a b : Bool) : cmpop S .ne (.bl a) (.bl b) = some (!(a == b)) := (rfl)
section
variable {P : Pg} (L : LawB P)
include L
/-- a drawn market -/
theorem m_market_draw (n : Nat) {S : Store} {p : Nat} (h : PoolAt S p) (b m way : Nat) (hb : 1 ≤ b ∧ b ≤ 5) (hm : 1 ≤ m ∧ m ≤ 5) (hw : way < 5) : ∃ (M : Mk) (S' : Store), run P (n + 2) 47 [.ref p, .int b, .int m, .int way] S = .ok (mk M) S' ∧ Mkt m M ∧ M.length = b ∧ Pl p S S' := by
  have hW : W (run P (n + 2) 47 [.ref p, .int b, .int m, .int way] S) fun d S' => ∃ M : Mk, d = mk M ∧ Mkt m M ∧ M.length = b ∧ Pl p S S' := by
    rw [run_at L.market rfl]
    obtain ⟨top, htop, ht⟩ : ∃ top : Nat, index S (.tup [.int 4, .int 8, .int 100, .int 3, .int 12]) (.int way) = some (.int top) ∧ (0 < top ∧ top ≤ 100) := by
      have : way = 0 ∨ way = 1 ∨ way = 2 ∨ way = 3 ∨ way = 4 := by omega
      rcases this with rfl | rfl | rfl | rfl | rfl
      · exact ⟨4, rfl, by omega⟩
      · exact ⟨8, rfl, by omega⟩
      · exact ⟨100, rfl, by omega⟩
      · exact ⟨3, rfl, by omega⟩
      · exact ⟨12, rfl, by omega⟩
    simp [k95b47, rho0, -index_tup, htop, it_range1 b (by omega)]
    refine W_draw (fun i : Nat => D.int i) mrow (fun S' => Pl p S S') (rowOk m) (List.range b) (by simp; omega) (Pl.refl h) (fun z hz S1 r1 => ⟨_, rfl, by simp, ?_⟩) fun M S1 hM hG r1 => ?_
    · simp [it_range1 m (by omega)]
      refine W_draw (fun i : Nat => D.int i) D.int (fun S' => Pl p S S') (fun x => 0 ≤ x ∧ x ≤ 99) (List.range m) (by simp; omega) r1 (fun z hz S2 r2 => ⟨_, rfl, by simp, ?_⟩) fun r S2 hr hG r2 => ?_
      · obtain ⟨x, S3, e3, hx, p3⟩ := m_below L n r2.pool top (by omega)
        simp [e3]
        have sx : small (x : Int) = true := small_nat (by omega)
        by_cases hwy : way = 3
        · obtain ⟨y, S4, e4, hy, p4⟩ := m_below L n p3.pool 2 (by omega)
          simp at e4
          simp [hwy, e4, sx]
          exact ⟨by split <;> omega, r2.trans (p3.trans p4)⟩
        · have : ¬ (way : Int) = 3 := by omega
          simp [this, sx]
          exact ⟨by omega, r2.trans p3⟩
      · refine ⟨r, rfl, ⟨by simpa using hr, hG⟩, r2⟩
    · have hM' : M.length = b := by simpa using hM
      obtain ⟨r0, R, eM⟩ : ∃ r R, M = r :: R := by
        cases M with
        | nil => simp at hM'; omega
        | cons r R => exact ⟨r, R, rfl⟩
      by_cases h4 : way = 4 ∧ 1 < b
      · have h5 : (way : Int) = 4 := by omega
        have h6 : (1 : Int) < b := by omega
        subst eM
        simp at hM'
        have hse : setD (.ol (mrow r0 :: R.map mrow)) (.int (-1)) (mrow r0) = some (.ol ((mrow r0 :: R.map mrow).set R.length (mrow r0))) := by
          simp [setD, setAt, ixOf_last]
        simp at hse
        simp [h5, h6, hse]
        refine ⟨(r0 :: R).set R.length r0, ?_, ⟨fun x hx => ?_, by simp; omega, by omega⟩, by simp; omega, r1⟩
        · simp [mk_def, List.map_set]
        · rcases List.mem_or_eq_of_mem_set hx with hx | rfl
          · exact hG x hx
          · exact hG _ List.mem_cons_self
      · have : (decide ((way : Int) = 4) && decide ((1 : Int) < b)) = false := by
          simp; intro e; omega
        by_cases h5 : (way : Int) = 4
        · have h6 : ¬ (1 : Int) < b := by omega
          simp [h5, h6]
          exact ⟨M, rfl, ⟨hG, by omega, by omega⟩, hM', r1⟩
        · simp [h5]
          exact ⟨M, rfl, ⟨hG, by omega, by omega⟩, hM', r1⟩
  obtain ⟨d, S', e, M, rfl, h1, h2, h3⟩ := hW.out
  exact ⟨M, S', e, h1, h2, h3⟩
end
/-! ### alike -/
/-- plain things, so deep -/
def plD : Nat → D → Bool
  | 0, _ => false
  | k + 1, d => match d with
    | .non => true
    | .bl _ => true
    | .int _ => true
    | .str s => PyData.strOk s
    | .tup xs => xs.all (plD k) && decide (xs.length ≤ 100000)
    | .lst xs => xs.all (plD k) && decide (xs.length ≤ 100000)
    | _ => false
theorem pairs_self : ∀ xs : List D, pairs xs xs = xs.map fun x => .tup [x, x]
  | [] => rfl
  | x :: xs => by simp [pairs, pairs_self xs]
theorem it_zipTT (xs : List D) : itemsOf .zip [.tup xs, .tup xs] = some (xs.map fun x => .tup [x, x]) := by simp [itemsOf, seqI, pairs_self]
theorem it_zipLL (xs : List D) : itemsOf .zip [.lst xs, .lst xs] = some (xs.map fun x => .tup [x, x]) := by simp [itemsOf, seqI, pairs_self]
theorem m_alike {P : Pg} (L : LawB P) : ∀ (k n : Nat) (d : D) (S : Store), plD k d = true → run P (n + k) 50 [d, d] S = .ok (.bl true) S
  | 0, n, d, S, h => by cases h
  | k + 1, n, d, S, h => by
    obtain ⟨K, hK⟩ := L.alike
    rw [show n + (k + 1) = (n + k) + 1 from rfl, run_at hK rfl, W_eq]
    cases d with
    | non => simp [alikeB, rho0]
    | bl b => simp [alikeB, rho0]
    | int i => simp [alikeB, rho0]
    | str s =>
      have hs : PyData.strOk s = true := h
      have : cmpop S .eq (.str s) (.str s) = some true := by rw [cmp_eqS, hs]; simp
      simp [alikeB, rho0, this]
    | tup xs =>
      simp only [plD, Bool.and_eq_true, List.all_eq_true, decide_eq_true_eq] at h
      simp [alikeB, rho0, it_zipTT]
      refine W_map (fun x : D => .tup [x, x]) (fun x => .bl true) xs (by omega) (fun z hz => ⟨_, rfl, by simp, ?_⟩) ?_
      · have := m_alike L k n z S (h.1 z hz)
        simp [this]
      · have := b_all S (fun _ : D => true) xs
        rw [this]
        simp
    | lst xs =>
      simp only [plD, Bool.and_eq_true, List.all_eq_true, decide_eq_true_eq] at h
      simp [alikeB, rho0, it_zipLL]
      refine W_map (fun x : D => .tup [x, x]) (fun x => .bl true) xs (by omega) (fun z hz => ⟨_, rfl, by simp, ?_⟩) ?_
      · have := m_alike L k n z S (h.1 z hz)
        simp [this]
      · have := b_all S (fun _ : D => true) xs
        rw [this]
        simp
    | _ => cases h
theorem plD_market {k m : Nat} {M : Mk} (h : Mkt m M) : plD (k + 3) (mk M) = true := by
  have h1 := h.ln
  simp only [plD, mk, List.all_map, Bool.and_eq_true, List.all_eq_true, decide_eq_true_eq, Function.comp_apply, List.length_map]
  refine ⟨fun r hr => ?_, by omega⟩
  have h2 := (h.ok r hr).1
  have h3 := h.th
  simp only [mrow, plD, List.all_map, Bool.and_eq_true, List.all_eq_true, decide_eq_true_eq, Function.comp_apply, List.length_map]
  exact ⟨fun _ _ => trivial, by omega⟩
theorem plD_wishes {k : Nat} {Ws : List Wish} (h : Ws.length ≤ 1000) : plD (k + 3) (wsD Ws) = true := by
  simp only [plD, wsD, List.all_map, Bool.and_eq_true, List.all_eq_true, decide_eq_true_eq, Function.comp_apply, List.length_map]
  refine ⟨fun w _ => ?_, by omega⟩
  cases w <;> simp [wD, plD, strOk_worth, strOk_price, strOk_served]
theorem plD_state {k m : Nat} {M : Mk} {Ws : List Wish} (h : Mkt m M) (hs : Ws.length ≤ 1000) : plD (k + 4) (.tup [mk M, wsD Ws]) = true := by
  have h1 := plD_market (k := k) h
  have h2 := plD_wishes (k := k) hs
  show ([mk M, wsD Ws].all (plD (k + 3)) && _) = true
  simp [h1, h2]
end G
set_option maxHeartbeats 1000000
namespace G
open PySem L2
theorem exs_step {ev : Ev} {ρ ρ' : Rho} {S S' : Store} {s : G.S} {r : List G.S} {Q : Res → Store → Prop} (h : exec ev ρ s S = .ok (.nx ρ') S') (k : W (execs ev ρ' r S') Q) : W (execs ev ρ (s :: r) S) Q := by
  rw [exs_cons, h]; exact k
theorem exs_for1 {ev : Ev} {ρ : Rho} {S S1 : Store} {tg : Tg} {kk : ItK} {it : List E} {body r : List G.S} {ds xs : List D} {Q : Res → Store → Prop} (h : evalEs ev ρ it S = .ok ds S1) (h2 : itemsOf kk ds = some xs) (k : W (loopF tg (fun ρ' S' => execs ev ρ' body S') xs ρ S1) fun x S1 => W (match x with | .nx ρ' => execs ev ρ' r S1 | .rt d => .ok (.rt d) S1) Q) : W (execs ev ρ (.for_ tg kk it body :: r) S) Q := by
  rw [exs_cons, exs_for, h]
  simp only [ob_ok, h2, W_bind]
  exact k
theorem exs_end {ev : Ev} {ρ : Rho} {S : Store} {Q : Res → Store → Prop} (k : Q (.nx ρ) S) : W (execs ev ρ [] S) Q := by
  rw [exs_nil, W_ok]; exact k
theorem PoolAt.new (S : Store) (a b c : Int) : PoolAt (S ++ [.lst [.int a, .int b, .int c]]) S.length := ⟨a, b, c, by simp⟩
section
variable {P : Pg} (L : LawB P)
include L
theorem m_pool (n : Nat) (S : Store) (ns : List Int) (lap : Nat) (hl : lap ≤ 1000) : ∃ S', run P (n + 1) 46 [.kl (ns.map .int), .int lap] S = .ok (.ref S.length) S' ∧ PoolAt S' S.length := by
  obtain ⟨c1, c2, c3, hb⟩ := L.pool
  have hW : W (run P (n + 1) 46 [.kl (ns.map .int), .int lap] S) fun d S' => d = .ref S.length ∧ PoolAt S' S.length := by
    have hsm := small_nat (n := lap) (by omega)
    have k1 : small 7919 = true := small_nat (n := 7919) (by omega)
    have k2 : small 48271 = true := small_nat (n := 48271) (by omega)
    have k3 : small 69621 = true := small_nat (n := 69621) (by omega)
    have k4 : small 16807 = true := small_nat (n := 16807) (by omega)
    have k5 : binop S .pow (.int 10) (.int 18) = some (.int 1000000000000000000) := rfl
    have hsl : slice S (.kl (ns.map .int)) none (some 63) = some (.lst ((ns.take 63).map .int)) := by
      have := cut_take (α := Nat) (ns.map D.int) 63
      show some (D.lst (cutD (ns.map D.int) none (some 63))) = _
      rw [show cutD (ns.map D.int) none (some 63) = _ from this, List.map_take]
    have hcell : ∃ cell : Int, (if (decide ((lap : Int) < ns.length)) = true then (((ixOf ns.length (lap : Int)).bind fun j => (ns.map D.int)[j]?).bind fun d => bfun S .int [d]) else (some (D.int (c1 * lap + c2)))) = some (.int cell) := by
      by_cases h : lap < ns.length
      · refine ⟨ns[lap], ?_⟩
        simp [h, ixOf_nat]
      · exact ⟨c1 * lap + c2, by simp [h]⟩
    obtain ⟨cell, hcell⟩ := hcell
    rw [run_at hb rfl, W_fin]
    refine exs_step (ρ' := [.v (.kl (ns.map .int)), .v (.int lap), .v (.int cell), .no, .no]) (S' := S) ?_ ?_
    · by_cases h : lap < ns.length
      · simp [h, ixOf_nat] at hcell
        simp [poolB, rho0, h, ixOf_nat, hcell]
      · simp [h] at hcell
        simp [poolB, rho0, h, hsm, hcell]
    refine exs_step (ρ' := [.v (.kl (ns.map .int)), .v (.int lap), .v (.int cell), .v (.int (c3 + 7919 * lap)), .no]) (S' := S) (by simp [hsm]) ?_
    refine exs_for1 (S1 := S) (ds := [.lst ((ns.take 63).map .int)]) (xs := (ns.take 63).map .int) (by simp [optB, hsl]) rfl ?_
    refine W_loop D.int (fun pre ρ S' => S = S' ∧ ∃ (c : Int) (s4 : Sl), ρ = [.v (.kl (ns.map .int)), .v (.int lap), .v (.int cell), .v (.int c), s4]) (ns.take 63) [] ?_ _ _ ⟨rfl, _, _, rfl⟩ ?_
    · rintro pre x suf e ρ S' ⟨rfl, c, s4, rfl⟩
      refine ⟨_, rfl, ?_⟩
      simp [k2]
    · rintro ρ2 S2 ⟨rfl, c, s4, rfl⟩
      simp [k3, k4, k5]
      by_cases hc : cell < 0
      · simp [hc]
        exact PoolAt.new _ _ _ _
      · by_cases hc2 : 1000000000000000000 ≤ cell
        · simp [hc, hc2]
          exact PoolAt.new _ _ _ _
        · simp [hc, hc2]
          exact PoolAt.new _ _ _ _
  obtain ⟨d, S', e, rfl, h⟩ := hW.out
  exact ⟨S', e, h⟩
end
end G
set_option maxHeartbeats 400000
namespace G
open PySem L2
/-! ### the law's own count -/
def kT (k : List Nat) : D := .tup (k.map iD)
def sK (s : Sts) : List D := s.map fun p => kT p.1
def sV (s : Sts) : List D := s.map fun p => .int p.2
theorem dkeys_iD : ∀ k : List Nat, dkeys (k.map iD) = some (k.map fun i : Nat => .inl (i : Int))
  | [] => rfl
  | x :: k => by simp [dkeys, dkeys_iD k, iD, dkey]
theorem keq_kT (a b : List Nat) : keq (kT a) (kT b) = decide (a = b) := by
  simp only [kT, keq, dkeys_iD]
  have : ∀ (a b : List Nat), (a.map fun i : Nat => (Sum.inl (i : Int) : Key)) = (b.map fun i : Nat => .inl (i : Int)) ↔ a = b := by
    intro a
    induction a with
    | nil => intro b; cases b <;> simp
    | cons x a ih =>
      intro b
      cases b with
      | nil => simp
      | cons y b =>
        simp only [List.map_cons, List.cons.injEq, ih b, Sum.inl.injEq]
        constructor
        · rintro ⟨h, rfl⟩; exact ⟨by omega, rfl⟩
        · rintro ⟨rfl, rfl⟩; exact ⟨rfl, rfl⟩
  by_cases h : a = b
  · simp [h]
  · have h2 := fun z => h ((this a b).mp z)
    simp only [h, decide_false, decide_eq_false_iff_not]
    exact h2
@[simp] theorem isKey_kT (k : List Nat) : isKey true (kT k) = true := by
  simp [isKey, kT, dkeyT, dkeys_iD]
theorem dget_sD (k : List Nat) : ∀ s : Sts, dget (sK s) (sV s) (kT k) = (lget s k).map .int
  | [] => rfl
  | p :: s => by
    show (if keq (kT p.1) (kT k) then some (D.int p.2) else dget (sK s) (sV s) (kT k)) = _
    rw [keq_kT, dget_sD k s]
    by_cases h : p.1 = k <;> simp [lget, h]
theorem any_sD (k : List Nat) (s : Sts) : ((sK s).any fun j => keq j (kT k)) = s.any fun p => decide (p.1 = k) := by
  simp only [sK, List.any_map]
  congr 1
  funext p
  exact keq_kT _ _
theorem repV_sD (k : List Nat) (v : Int) : ∀ s : Sts, repV (sK s) (sV s) (kT k) (.int v) = sV (s.map fun p => (p.1, if p.1 = k then v else p.2))
  | [] => rfl
  | p :: s => by
    show (if keq (kT p.1) (kT k) = true then D.int v else .int p.2) :: repV (sK s) (sV s) (kT k) (.int v) = _
    rw [keq_kT, repV_sD k v s]
    by_cases h : p.1 = k <;> simp [sV, h]
theorem dput_sD (s : Sts) (k : List Nat) (v : Int) : dputK (sK s) (kT k) = sK (lput s k v) ∧ dputV (sK s) (sV s) (kT k) (.int v) = sV (lput s k v) := by
  unfold dputK dputV lput
  rw [any_sD]
  cases h : s.any fun p => decide (p.1 = k) with
  | true =>
    simp only [if_true]
    exact ⟨by simp [sK], repV_sD k v s⟩
  | false =>
    simp [sK, sV]
theorem sortI_iD : ∀ k : List Nat, sortI (k.map fun i : Nat => (i : Int)) = (sortN k).map fun i : Nat => (i : Int)
  | [] => rfl
  | x :: k => by
    have ins : ∀ (x : Nat) (l : List Nat), insI (x : Int) (l.map fun i : Nat => (i : Int)) = (insN x l).map fun i : Nat => (i : Int) := by
      intro x l
      induction l with
      | nil => rfl
      | cons y r ih =>
        simp only [List.map_cons, insI, insN]
        by_cases h : x ≤ y
        · simp [h]
        · simp [h, ih]
    simp only [List.map_cons, sortI, sortN, sortI_iD k, ins]
theorem sorted_kT (S : Store) (k : List Nat) : bfun S .sorted [kT k] = some (.lst ((sortN k).map iD)) := by
  simp only [bfun, bSorted, kT, seqs_tup, Option.bind_some]
  have : intsOf (k.map iD) = some (k.map fun i : Nat => (i : Int)) := intsOf_map' (fun i : Nat => (i : Int)) k
  rw [this, Option.map_some, sortI_iD]
  simp only [List.map_map]
  rfl
theorem flat_iD (k : List Nat) : (k.map iD).all flatD = true := by
  rw [List.all_map, List.all_eq_true]; intro x _; rfl
theorem nin_kT (S : Store) (t : Nat) (k : List Nat) : cmpop S .nin (.int t) (kT k) = some (!decide (t ∈ k)) := by
  simp only [cmpop, kT, dctOf_tup, seqOf_tup, Option.bind_some, pyIn, flat_iD]
  simp [flatD, eqF, iD, List.any_map, Function.comp_def]
  by_cases h : t ∈ k
  · simp [h]; exact ⟨t, h, rfl⟩
  · simp [h]; intro x hx; intro e; exact h (by rw [← show x = t by omega]; exact hx)
theorem sortN_len (l : List Nat) : (sortN l).length = l.length := by
  have ins : ∀ (x : Nat) (l : List Nat), (insN x l).length = l.length + 1 := by
    intro x l
    induction l with
    | nil => rfl
    | cons y r ih =>
      unfold insN
      split <;> simp [ih]
  induction l with
  | nil => rfl
  | cons x r ih => simp [sortN, ins, ih]
/-- how big -/
def Bd (B L : Nat) (s : Sts) : Prop := s.length ≤ B ∧ ∀ p ∈ s, p.1.length ≤ L
theorem Bd.put {B L : Nat} {s : Sts} {k : List Nat} {v : Int} (h : Bd B L s) (hk : k.length ≤ L) : Bd (B + 1) L (lput s k v) := by
  refine ⟨Nat.le_trans (lput_len s k v) (Nat.succ_le_succ h.1), fun p hp => ?_⟩
  rcases lput_keys hp with e | e
  · rw [e]; exact hk
  · obtain ⟨q, hq, e⟩ := List.mem_map.mp e
    rw [← e]; exact h.2 q hq
theorem Bd.inner {B L : Nat} {v : Int} {t : List Nat} {p : Nat × Int} {s : Sts} (h : Bd B L s) (ht : t.length < L) : Bd (B + 1) L (inner v t s p) := by
  unfold G.inner
  split
  · exact ⟨Nat.le_succ_of_le h.1, h.2⟩
  · exact h.put (by rw [sortN_len]; simp; omega)
theorem Bd.inners {L : Nat} {v : Int} {t : List Nat} (ht : t.length < L) : ∀ (ps : List (Nat × Int)) {B : Nat} {s : Sts}, Bd B L s → Bd (B + ps.length) L (ps.foldl (G.inner v t) s)
  | [], B, s, h => h
  | p :: ps, B, s, h => by
    have := Bd.inners (v := v) ht ps (h.inner (v := v) (p := p) ht)
    rw [List.foldl_cons, List.length_cons]
    rw [show B + (ps.length + 1) = B + 1 + ps.length by omega]
    exact this
theorem Bd.outer {B L : Nat} {st : Sts} {row : List Int} {t : List Nat} {s : Sts} (h : Bd B L s) (ht : t.length < L) : Bd (B + 1 + row.length) L (outer st row s t) := by
  unfold G.outer
  have := Bd.inners (v := (lget st t).getD 0) ht ((List.range row.length).zip row) (h.put (v := if (lget st t).getD 0 < (lget s t).getD 0 then (lget s t).getD 0 else (lget st t).getD 0) (show t.length ≤ L by omega))
  simp only [List.length_zip, List.length_range, Nat.min_self] at this
  exact this
theorem Bd.outers {L : Nat} {st : Sts} {row : List Int} : ∀ (ts : List (List Nat)) {B : Nat} {s : Sts}, (∀ t ∈ ts, t.length < L) → Bd B L s → Bd (B + ts.length * (1 + row.length)) L (ts.foldl (G.outer st row) s)
  | [], B, s, _, h => by simpa using h
  | t :: ts, B, s, ht, h => by
    have := Bd.outers (st := st) (row := row) ts (fun x hx => ht x (List.mem_cons_of_mem _ hx)) (h.outer (st := st) (row := row) (ht t List.mem_cons_self))
    rw [List.foldl_cons, List.length_cons, Nat.add_mul, Nat.one_mul]
    rw [show B + (ts.length * (1 + row.length) + (1 + row.length)) = B + 1 + row.length + ts.length * (1 + row.length) by omega]
    exact this
theorem Bd.row {B L : Nat} {st : Sts} {row : List Int} (h : Bd B L st) : Bd (B * (1 + row.length)) (L + 1) (rowStep st row) := by
  unfold rowStep
  have := Bd.outers (L := L + 1) (st := st) (row := row) (st.map (·.1)) (B := 0) (s := []) (fun t ht => by
    obtain ⟨p, hp, rfl⟩ := List.mem_map.mp ht
    exact Nat.lt_succ_of_le (h.2 p hp)) ⟨Nat.le_refl _, by simp⟩
  refine ⟨Nat.le_trans this.1 ?_, this.2⟩
  rw [Nat.zero_add, List.length_map]
  exact Nat.mul_le_mul_right _ h.1
theorem Bd.init : Bd 1 0 [(([] : List Nat), (0 : Int))] := ⟨Nat.le_refl _, by simp⟩
theorem Bd.rows {m : Nat} : ∀ (R : Mk) {B L : Nat} {s : Sts}, mkOk m R → Bd B L s → Bd (B * (1 + m) ^ R.length) (L + R.length) (R.foldl rowStep s)
  | [], B, L, s, _, h => by simpa using h
  | r :: R, B, L, s, hm, h => by
    have hr := (hm r List.mem_cons_self).1
    have := Bd.rows R (fun x hx => hm x (List.mem_cons_of_mem _ hx)) (h.row (row := r))
    rw [hr] at this
    rw [List.foldl_cons, List.length_cons, Nat.pow_succ]
    rw [show B * ((1 + m) ^ R.length * (1 + m)) = B * (1 + m) * (1 + m) ^ R.length by rw [Nat.mul_assoc, Nat.mul_comm ((1 + m) ^ _)], show L + (R.length + 1) = L + 1 + R.length by omega]
    exact this
theorem pref_rows {m : Nat} {R pre suf : Mk} (h : mkOk m R) (e : R = pre ++ suf) (hl : R.length ≤ 5) (hm : m ≤ 6) : Bd 16807 5 (stsOf pre) := by
  have hp : mkOk m pre := fun r hr => h r (by rw [e]; exact List.mem_append.mpr (.inl hr))
  have hpl : pre.length ≤ 5 := by have := congrArg List.length e; simp at this; omega
  have := Bd.rows pre hp Bd.init
  refine ⟨Nat.le_trans this.1 ?_, fun p hq => Nat.le_trans (this.2 p hq) (by omega)⟩
  rw [Nat.one_mul]
  exact Nat.le_trans (Nat.pow_le_pow_left (show 1 + m ≤ 7 by omega) _) (Nat.le_trans (Nat.pow_le_pow_right (by omega) hpl) (by omega))
end G
set_option maxHeartbeats 400000
namespace G
open PySem L2
def sD (s : Sts) : D := .dct true (sK s) (sV s)
theorem index_sD (S : Store) (s : Sts) (k : List Nat) (h : k ∈ s.map (·.1)) : index S (sD s) (kT k) = some (.int ((lget s k).getD 0)) := by
  obtain ⟨v, e⟩ := lget_of_mem h
  rw [sD, index_dct, isKey_kT, if_pos rfl, dget_sD, e]; rfl
theorem get2_sD (S : Store) (s : Sts) (k : List Nat) : metf S .get2 (.dct true (sK s) (sV s)) [kT k, .int 0] = some (.int ((lget s k).getD 0)) := by
  simp only [metf, dctOf_dct, isKey_kT, if_true, dget_sD]
  cases lget s k <;> rfl
@[simp] theorem setD_sD (s : Sts) (k : List Nat) (v : Int) (h : s.length ≤ 1000000) : setD (.od true (sK s) (sV s)) (kT k) (.int v) = some (.od true (sK (lput s k v)) (sV (lput s k v))) := by
  have h1 : line (sK s).length = true := line_le (by simpa [sK] using h)
  obtain ⟨e1, e2⟩ := dput_sD s k v
  simp only [setD, isKey_kT, h1, Bool.and_self, if_true, e1, e2]
theorem setD_nil (v : Int) : setD (.od true [] []) (.tup []) (.int v) = some (.od true [.tup []] [.int v]) := rfl
theorem it_enumR (r : List Int) : itemsOf .enum [.tup (r.map D.int)] = some (((List.range r.length).zip r).map fun p => .tup [.int (p.1 : Nat), .int p.2]) := its_enum D.int r
def rowsD (t : Bool) (M : Mk) : D := if t then .tup (M.map mrow) else .lst (M.map mrow)
theorem it_rows (t : Bool) (M : Mk) : itemsOf .over [rowsD t M] = some (M.map mrow) := by cases t <;> rfl
section
variable {P : Pg} (L : LawB P)
include L
theorem m_most {m : Nat} (n : Nat) (t : Bool) (M : Mk) (h : mkOk m M) (hl : M.length ≤ 5) (hm : m ≤ 6) (S : Store) : run P (n + 1) 51 [rowsD t M] S = .ok (.int (lawMost M)) S := by
  rw [run_at L.most rfl, W_eq]
  simp [k95b51, rho0, setD_nil, it_rows]
  refine W_loop mrow (fun pre ρ S' => S = S' ∧ ∃ s2 s3 s4 s5 s6 s7, ρ = [.v (rowsD t M), .v (sD (stsOf pre)), s2, s3, s4, s5, s6, s7]) M [] ?_ _ _ ⟨rfl, .no, .no, .no, .no, .no, .no, rfl⟩ ?_
  · rintro pre r suf e ρ S' ⟨rfl, s2, s3, s4, s5, s6, s7, rfl⟩
    rw [List.nil_append] at e
    have hr : rowOk m r := h r (by rw [e]; simp)
    have hpre : Bd 16807 5 (stsOf pre) := pref_rows h e hl hm
    have hpre1 : Bd 16807 5 (stsOf (pre ++ [r])) := pref_rows (suf := suf) h (by rw [e]; simp) hl hm
    have hp4 : Bd 16807 4 (stsOf pre) := by
      have hp : mkOk m pre := fun r hr => h r (by rw [e]; exact List.mem_append.mpr (.inl hr))
      have hpl : pre.length ≤ 4 := by have := congrArg List.length e; simp at this; omega
      exact ⟨hpre.1, fun p hq => Nat.le_trans ((Bd.rows pre hp Bd.init).2 p hq) (by omega)⟩
    refine ⟨_, rfl, ?_⟩
    simp [sD]
    show W (loopF _ _ (List.map (fun p => kT p.1) (stsOf pre)) _ _) _
    rw [show List.map (fun p : List Nat × Int => kT p.1) (stsOf pre) = ((stsOf pre).map (·.1)).map kT by simp]
    refine W_loop kT (fun ts ρ S' => S = S' ∧ ∃ s4 s5 s6 s7, ρ = [.v (rowsD t M), .v (.dct true (sK (stsOf pre)) (sV (stsOf pre))), .v (mrow r), .od true (sK (ts.foldl (outer (stsOf pre) r) [])) (sV (ts.foldl (outer (stsOf pre) r) [])), s4, s5, s6, s7]) ((stsOf pre).map (·.1)) [] ?_ _ _ ⟨rfl, s4, s5, s6, s7, rfl⟩ ?_
    · rintro ts tk tsuf e2 ρ S' ⟨rfl, s4, s5, s6, s7, rfl⟩
      rw [List.nil_append] at e2
      have htk : tk ∈ (stsOf pre).map (·.1) := by rw [e2]; simp
      have hlen : ∀ x ∈ ts ++ tk :: tsuf, x.length < 5 := fun x hx => by
        rw [← e2] at hx
        obtain ⟨p, hp, rfl⟩ := List.mem_map.mp hx
        exact Nat.lt_succ_of_le (hp4.2 p hp)
      have hB : Bd (0 + ts.length * (1 + r.length)) 5 (ts.foldl (outer (stsOf pre) r) []) := Bd.outers ts (fun x hx => hlen x (by simp [hx])) ⟨Nat.le_refl _, by simp⟩
      have htsl : ts.length ≤ 16807 := by
        have := congrArg List.length e2
        have h2 := hpre.1
        simp at this; omega
      have hrl := hr.1
      have hbig : ts.length * (1 + r.length) ≤ 16807 * 7 := Nat.mul_le_mul htsl (by omega)
      have hidx := index_sD S (stsOf pre) tk htk
      simp only [sD] at hidx
      refine ⟨_, rfl, ?_⟩
      have g1 := get2_sD S (ts.foldl (outer (stsOf pre) r) []) tk
      simp [-index_dct, hidx, g1, setD_sD _ _ _ (show (ts.foldl (outer (stsOf pre) r) []).length ≤ 1000000 by have := hB.1; omega), it_enumR]
      let v := (lget (stsOf pre) tk).getD 0
      let m0 := ts.foldl (outer (stsOf pre) r) []
      let m1 := lput m0 tk (if v < (lget m0 tk).getD 0 then (lget m0 tk).getD 0 else v)
      refine W_loop (fun p : Nat × Int => .tup [.int (p.1 : Nat), .int p.2]) (fun ps ρ S' => S = S' ∧ ∃ s5 s6 s7, ρ = [.v (rowsD t M), .v (.dct true (sK (stsOf pre)) (sV (stsOf pre))), .v (mrow r), .od true (sK (ps.foldl (inner v tk) m1)) (sV (ps.foldl (inner v tk) m1)), .v (kT tk), s5, s6, s7]) ((List.range r.length).zip r) [] ?_ _ _ ⟨rfl, s5, s6, s7, rfl⟩ ?_
      · rintro ps p psuf e3 ρ S' ⟨rfl, s5, s6, s7, rfl⟩
        rw [List.nil_append] at e3
        have hps : ps.length ≤ 7 := by
          have := congrArg List.length e3
          simp at this; omega
        have hB2 := Bd.inners (v := v) (hlen tk (by simp)) ps (hB.put (k := tk) (v := if v < (lget m0 tk).getD 0 then (lget m0 tk).getD 0 else v) (Nat.le_of_lt (hlen tk (by simp))))
        refine ⟨_, rfl, ?_⟩
        have hnin := nin_kT S p.1 tk
        simp [hnin]
        by_cases hz : p.1 ∈ tk
        · simp [hz, inner]
        · have hadd : binop S .add (kT tk) (.tup [.int (p.1 : Nat)]) = some (kT (tk ++ [p.1])) := by
            have := hlen tk (by simp)
            simp [kT, line_le (show tk.length + 1 ≤ 1000000 by omega), iD]
          have hso := sorted_kT S (tk ++ [p.1])
          have hfr : (D.tup ((sortN (tk ++ [p.1])).map iD)) = kT (sortN (tk ++ [p.1])) := rfl
          have g2 := get2_sD S (ps.foldl (inner v tk) m1) (sortN (tk ++ [p.1]))
          have hsz : (ps.foldl (inner v tk) m1).length ≤ 1000000 := Nat.le_trans hB2.1 (by omega)
          simp [-index_dct, hz, hadd, hso, hfr, hidx, g2, setD_sD _ _ _ hsz]
          simp only [inner, hz, if_false]
          exact ⟨rfl, rfl⟩
      · rintro ρ2 S2 ⟨rfl, s5, s6, s7, rfl⟩
        simp
        exact ⟨rfl, rfl⟩
    · rintro ρ2 S2 ⟨rfl, s4, s5, s6, s7, rfl⟩
      simp
      have : stsOf (pre ++ [r]) = ((stsOf pre).map (·.1)).foldl (outer (stsOf pre) r) [] := by
        simp only [stsOf, List.foldl_append, List.foldl_cons, List.foldl_nil]
        rfl
      rw [this]
      exact ⟨rfl, rfl⟩
  · rintro ρ2 S2 ⟨rfl, s2, s3, s4, s5, s6, s7, rfl⟩
    simp [sD]
    show W (compL _ _ _ _ [] (List.map (fun p => kT p.1) (stsOf M)) _) _
    refine W_map (fun p : List Nat × Int => kT p.1) (fun p => .int ((lget (stsOf M) p.1).getD 0)) (stsOf M) (by have := (pref_rows (pre := M) (suf := []) h (by simp) hl hm).1; omega) (fun p hp => ⟨_, rfl, by simp, ?_⟩) ?_
    · have hidx := index_sD S (stsOf M) p.1 (List.mem_map.mpr ⟨p, hp, rfl⟩)
      simp only [sD] at hidx
      simp [-index_dct, hidx]
    · have := b_max1 S (fun p : List Nat × Int => (lget (stsOf M) p.1).getD 0) (stsOf M) (stsOf_ne h)
      rw [this]
      simp [lawMost]
theorem m_mostT {m : Nat} (n : Nat) (M : Mk) (h : mkOk m M) (hl : M.length ≤ 5) (hm : m ≤ 6) (S : Store) : run P (n + 1) 51 [mk M] S = .ok (.int (most m M)) S := by
  have := m_most L n true M h hl hm S
  rw [lawMost_eq h] at this
  exact this
theorem m_mostL {m : Nat} (n : Nat) (M : Mk) (h : mkOk m M) (hl : M.length ≤ 5) (hm : m ≤ 6) (S : Store) : run P (n + 1) 51 [.lst (M.map mrow)] S = .ok (.int (most m M)) S := by
  have := m_most L n false M h hl hm S
  rw [lawMost_eq h] at this
  exact this
theorem m_least {m : Nat} (n : Nat) (M : Mk) (h : mkOk m M) (h1 : M ≠ []) (hl : M.length ≤ 5) (hm : m ≤ 5) (S : Store) : run P (n + 2) 52 [mk M] S = .ok (.tup ((List.range m).map fun t => .int (lp m M t))) S := by
  obtain ⟨r, R, eM⟩ : ∃ r R, M = r :: R := by cases M with
    | nil => exact absurd rfl h1
    | cons r R => exact ⟨r, R, rfl⟩
  have hr := (h r (by rw [eM]; simp)).1
  have e1 : index S (mk M) (.int 0) = some (mrow r) := by rw [eM]; simp [mk_def]
  have h0 := m_mostT L n M h hl (by omega) S
  rw [run_at L.least rfl, W_eq]
  simp [k95b52, rho0, h0, e1, hr, it_range1 m (by omega)]
  refine W_map (fun i : Nat => D.int i) (fun t => .int (lp m M t)) (List.range m) (by simp; omega) (fun t ht => ⟨_, rfl, by simp, ?_⟩) ?_
  · have ht := List.mem_range.mp ht
    rw [W_eq]
    simp [mk_def]
    refine W_map mrow (fun r => mrow (r ++ [r.getD t 0])) M (by omega) (fun z hz => ⟨_, rfl, by simp, ?_⟩) ?_
    · have hz := (h z hz).1
      simp [ixOf_nat, hz, ht, line_le (show m + 1 ≤ 1000000 by omega)]
    · have h2 := m_mostL L n (twc M t) (twc_ok h ht) (by simpa [twc] using hl) (by omega) S
      have e : (twc M t).map mrow = M.map fun r => mrow (r ++ [r.getD t 0]) := by simp [twc]
      rw [e] at h2
      rw [h2]
      simp [lp]
  · simp
end
end G
set_option maxHeartbeats 400000
namespace G
open PySem L2
/-! ### deeds -/
inductive Deed where
  | put (b t : Nat) (w : Int)
  | come (r : List Int)
  | go (b : Nat)
  | lift (k : Nat)
  | wish (w : Wish)
def deedD : Deed → D
  | .put b t w => .tup [.str "put", .int b, .int t, .int w]
  | .come r => .tup [.str "come", mrow r]
  | .go b => .tup [.str "go", .int b]
  | .lift k => .tup [.str "lift", .int k]
  | .wish w => .tup [.str "wish", wD w]
/-- what a drawn deed is -/
def dok (m : Nat) (M : Mk) (Ws : List Wish) : Deed → Prop
  | .put b t w => b < M.length ∧ t < m ∧ 0 ≤ w ∧ w ≤ 99
  | .come r => rowOk m r
  | .go b => b < M.length
  | .lift k => k < Ws.length
  | .wish w => wok m M w
theorem lp_nn {m : Nat} {M : Mk} (h : mkOk m M) (t : Nat) : 0 ≤ lp m M t := by
  have := most_app h fun r => r.getD t 0
  unfold lp twc
  omega
theorem lp_le {m : Nat} {M : Mk} (h : mkOk m M) {t : Nat} (ht : t < m) (hl : M.length ≤ 5) : lp m M t ≤ 495 := by
  have h1 := (most_bd (twc_ok h ht)).2
  have h2 := (most_bd h).1
  have : (twc M t).length = M.length := by simp [twc]
  unfold lp
  rw [this] at h1
  omega
theorem tupWs_ne (S : Store) (Ws : List Wish) : cmpop S .ne (wsD Ws) (.tup []) = some (decide (Ws ≠ [])) := by
  have h : ∀ Ws : List Wish, ∃ ps, toPys (Ws.map wD) = some ps ∧ ps.length = Ws.length ∧ PyData.canLayAll0 ps = true ∧ PyData.depthAll ps ≤ 10 := by
    intro Ws
    induction Ws with
    | nil => exact ⟨[], rfl, rfl, rfl, by simp [PyData.depthAll]⟩
    | cons w Ws ih =>
      obtain ⟨ps, h1, h2, h3, h4⟩ := ih
      cases w <;> simp [wD, toPys, toPy, h1, h2, PyData.canLayAll0, PyData.canLay0, PyData.depthAll, PyData.depth, strOk_worth, strOk_price, strOk_served, h3] <;> omega
  obtain ⟨ps, h1, h2, h3, h4⟩ := h Ws
  show (pyEq (wsD Ws) (.tup [])).map (!·) = _
  have hf : fine (.tuple ps) = true := by
    simp [fine, SeqAt.shaped, PyData.canLay0, PyData.depth, h3]; omega
  have hf0 : fine (.tuple []) = true := by simp [fine, SeqAt.shaped, PyData.canLay0, PyData.canLayAll0, PyData.depth, PyData.depthAll]
  simp only [pyEq, wsD, toPy, toPys, h1, Option.map_some, hf, hf0, Bool.and_self, if_true]
  cases ps with
  | nil =>
    have : Ws = [] := List.length_eq_zero_iff.mp h2.symm
    subst this
    simp [PyData.eqv, PyData.eqvAll]
  | cons p ps =>
    have : Ws ≠ [] := fun e => by subst e; simp at h2
    simp [PyData.eqv, PyData.eqvAll, this]
section
variable {P : Pg} (L : LawB P) (hd : P.fn 48 = some ⟨2, 12, k95b48⟩)
include L hd
theorem m_deed {m : Nat} (n : Nat) {S : Store} {p : Nat} (h : PoolAt S p) (M : Mk) (hM : Mkt m M) (Ws : List Wish) (hs : Ws.length ≤ 1000) : ∃ (d : Deed) (S' : Store), run P (n + 3) 48 [.ref p, .tup [mk M, wsD Ws]] S = .ok (deedD d) S' ∧ dok m M Ws d ∧ Pl p S S' := by
  have hW : W (run P (n + 3) 48 [.ref p, .tup [mk M, wsD Ws]] S) fun r S' => ∃ d : Deed, r = deedD d ∧ dok m M Ws d ∧ Pl p S S' := by
    have hln := hM.ln
    have hth := hM.th
    obtain ⟨r0, R, eM⟩ : ∃ r R, M = r :: R := by cases M with
      | nil => exact absurd rfl hM.ne
      | cons r R => exact ⟨r, R, rfl⟩
    have hr0 := (hM.ok r0 (by rw [eM]; simp)).1
    have e1 : ∀ S, index S (mk M) (.int 0) = some (mrow r0) := fun S => by rw [eM]; simp [mk_def]
    have e2 : ∀ S, bfun S .len [mk M] = some (.int M.length) := fun S => by simp [mk_def]
    have e3 : ∀ S, bfun S .len [wsD Ws] = some (.int Ws.length) := fun S => by simp [wsD]
    obtain ⟨way, S1, f1, hway, p1⟩ := m_below L (n + 1) h 10 (by omega)
    obtain ⟨b, S2, f2, hb, p2⟩ := m_below L (n + 1) p1.pool M.length (by omega)
    obtain ⟨t, S3, f3, ht, p3⟩ := m_below L (n + 1) p2.pool m (by omega)
    have p123 : Pl p S S3 := p1.trans (p2.trans p3)
    have hrow : rowOk m M[b] := hM.ok _ (List.getElem_mem hb)
    have ei : index S3 (mk M) (.int b) = some (mrow M[b]) := by
      rw [mk_def, index_tup, List.length_map, ixOf_nat hb]
      simp [hb]
    simp at f1
    rw [run_at hd rfl]
    simp [k95b48, rho0, e1, e2, hr0, f1, f2, f3]
    have hb1 := hrow.1
    have ht1 : t < M[b].length := by omega
    have hx := hrow.2 _ (List.getElem_mem ht1)
    by_cases w4 : way < 4
    · obtain ⟨x9, S4, f4, hx9, p4⟩ := m_below L (n + 1) p123.pool 9 (by omega)
      obtain ⟨x, S5, f5, hx5, p5⟩ := m_one L n p4.pool [.int 0, .int (if M[b][t] + 1 < 99 then M[b][t] + 1 else 99), .int x9, .int 99] _ (.inl rfl) (by simp)
      simp at f4
      simp [show (way : Int) < 4 by omega, ei, ixOf_nat, ht1, f4, f5]
      have hw : ∃ w : Int, x = .int w ∧ 0 ≤ w ∧ w ≤ 99 := by
        simp only [List.mem_cons, List.not_mem_nil, or_false] at hx5
        rcases hx5 with rfl | rfl | rfl | rfl
        · exact ⟨_, rfl, by omega, by omega⟩
        · exact ⟨_, rfl, by split <;> omega, by split <;> omega⟩
        · exact ⟨_, rfl, by omega, by omega⟩
        · exact ⟨_, rfl, by omega, by omega⟩
      obtain ⟨w, rfl, hw⟩ := hw
      exact ⟨.put b t w, rfl, ⟨hb, ht, hw⟩, p123.trans (p4.trans p5)⟩
    by_cases w5 : way = 4
    · subst w5
      simp [it_range1 m (by omega)]
      refine W_draw (fun i : Nat => D.int i) D.int (fun S' => Pl p S S') (fun x => 0 ≤ x ∧ x ≤ 99) (List.range m) (by simp; omega) p123 (fun z hz S4 r4 => ⟨_, rfl, by simp, ?_⟩) fun r S4 hr hG r4 => ?_
      · obtain ⟨x, S5, f5, hx5, p5⟩ := m_below L (n + 1) r4.pool 9 (by omega)
        simp at f5
        simp [f5]
        exact ⟨by omega, r4.trans p5⟩
      · exact ⟨.come r, rfl, ⟨by simpa using hr, hG⟩, r4⟩
    by_cases w6 : way = 5
    · subst w6
      simp
      exact ⟨.go b, rfl, hb, p123⟩
    by_cases w7 : way = 6 ∧ Ws ≠ []
    · obtain ⟨rfl, hW⟩ := w7
      have hl : 0 < Ws.length := List.length_pos_iff.mpr hW
      obtain ⟨k, S4, f4, hk, p4⟩ := m_below L (n + 1) p123.pool Ws.length (by omega)
      simp [tupWs_ne, hW, e3, f4]
      exact ⟨.lift k, rfl, hk, p123.trans p4⟩
    · have hmb := most_bd hM.ok
      have hlp := lp_nn hM.ok t
      have hlq := lp_le hM.ok ht hln.2
      have g1 := m_mostT L (n + 1) M hM.ok hln.2 (by omega) S3
      have g2 := m_least L n M hM.ok hM.ne hln.2 hth.2 S3
      obtain ⟨x3, S4, f4, hx4, p4⟩ := m_below L (n + 1) p123.pool 3 (by omega)
      obtain ⟨y4, S5, f5, hy5, p5⟩ := m_below L (n + 1) (p123.trans p4).pool 4 (by omega)
      obtain ⟨x, S6, f6, hx6, p6⟩ := m_one L n p5.pool [.tup [.str "worth", .int (most m M)], .tup [.str "worth", .int (if 0 < most m M - 2 then most m M - 2 else 0)], .tup [.str "worth", .int (most m M + 1)], .tup [.str "price", .int t, .int (lp m M t + x3)], .tup [.str "price", .int t, .int y4], .tup [.str "served", .int b]] _ (.inr rfl) (by simp)
      simp at f4 f5 f6
      have n4 : ¬ (way : Int) < 4 := by omega
      have n5 : ¬ (way : Int) = 4 := by omega
      have n6 : ¬ (way : Int) = 5 := by omega
      have hx : ∃ w : Wish, x = wD w ∧ wok m M w := by
        simp only [List.mem_cons, List.not_mem_nil, or_false] at hx6
        rcases hx6 with rfl | rfl | rfl | rfl | rfl | rfl
        · exact ⟨.worth _, rfl, by simp only [wok]; omega⟩
        · refine ⟨.worth _, rfl, ?_⟩
          simp only [wok]
          split <;> omega
        · exact ⟨.worth _, rfl, by simp only [wok]; omega⟩
        · exact ⟨.price t _, rfl, by simp only [wok]; omega⟩
        · exact ⟨.price t _, rfl, by simp only [wok]; omega⟩
        · exact ⟨.served b, rfl, hb⟩
      obtain ⟨w, rfl, hw⟩ := hx
      by_cases h6 : way = 6
      · have h7 : Ws = [] := by
          by_cases z : Ws = []
          · exact z
          · exact absurd ⟨h6, z⟩ w7
        subst h6
        simp [tupWs_ne, h7, g1, g2, ixOf_nat, ht, f4, f5, f6]
        exact ⟨.wish w, rfl, hw, p123.trans (p4.trans (p5.trans p6))⟩
      · have n7 : ¬ (way : Int) = 6 := by omega
        simp [n4, n5, n6, n7, w4, w5, w6, h6, g1, g2, ixOf_nat, ht, f4, f5, f6]
        exact ⟨.wish w, rfl, hw, p123.trans (p4.trans (p5.trans p6))⟩
  obtain ⟨r, S', e, d, rfl, h1, h2⟩ := hW.out
  exact ⟨d, S', e, h1, h2⟩
end
end G
set_option maxHeartbeats 400000
namespace G
open PySem L2
/-- what is there behind a deed -/
def nxt : Deed → Mk → List Wish → Mk × List Wish
  | .put b t w, M, Ws => (setM M b t w, Ws)
  | .come r, M, Ws => (M ++ [r], Ws)
  | .go b, M, Ws => (M.eraseIdx b, Ws)
  | .lift k, M, Ws => (M, Ws.eraseIdx k)
  | .wish w, M, Ws => (M, Ws ++ [w])
/-- a deed that is about somebody, and for which there is room -/
def dok2 (m : Nat) (M : Mk) (Ws : List Wish) (d : Deed) : Prop := dok m M Ws d ∧ (∀ r, d = .come r → M.length < 5) ∧ (∀ b, d = .go b → 1 < M.length)
theorem setM_ok {m : Nat} {M : Mk} (h : Mkt m M) {b t : Nat} {w : Int} (hb : b < M.length) (hw : 0 ≤ w ∧ w ≤ 99) : Mkt m (setM M b t w) := by
  refine ⟨fun r hr => ?_, by have := h.ln; simpa [setM] using this, h.th⟩
  rcases List.mem_or_eq_of_mem_set hr with hr | rfl
  · exact h.ok r hr
  · have hq : M.getD b [] = M[b] := by rw [List.getD_eq_getElem?_getD, List.getElem?_eq_getElem hb]; rfl
    rw [hq]
    obtain ⟨h1, h2⟩ := h.ok _ (List.getElem_mem hb)
    refine ⟨by simpa using h1, fun x hx => ?_⟩
    rcases List.mem_or_eq_of_mem_set hx with hx | rfl
    · exact h2 x hx
    · exact hw
theorem nxt_ok {m : Nat} {M : Mk} {Ws : List Wish} (h : Mkt m M) (hw : ∀ w ∈ Ws, wok' m w) {d : Deed} (hd : dok2 m M Ws d) : Mkt m (nxt d M Ws).1 ∧ (∀ w ∈ (nxt d M Ws).2, wok' m w) ∧ (nxt d M Ws).2.length ≤ Ws.length + 1 := by
  have hln := h.ln
  obtain ⟨h1, h2, h3⟩ := hd
  cases d with
  | put b t w => exact ⟨setM_ok h h1.1 h1.2.2, hw, by simp [nxt]⟩
  | come r =>
    have h4 := h2 r rfl
    refine ⟨⟨fun x hx => ?_, by simp [nxt]; omega, h.th⟩, hw, by simp [nxt]⟩
    rcases List.mem_append.mp hx with hx | hx
    · exact h.ok x hx
    · rw [List.mem_singleton.mp hx]; exact h1
  | go b =>
    have h4 := h3 b rfl
    have h5 : b < M.length := h1
    refine ⟨⟨fun x hx => h.ok x (List.mem_of_mem_eraseIdx hx), ?_, h.th⟩, hw, by simp [nxt]⟩
    show 1 ≤ (M.eraseIdx b).length ∧ (M.eraseIdx b).length ≤ 5
    rw [List.length_eraseIdx, if_pos h5]; omega
  | lift k =>
    refine ⟨h, fun w hx => hw w (List.mem_of_mem_eraseIdx hx), ?_⟩
    have := List.length_eraseIdx_le Ws k
    show (Ws.eraseIdx k).length ≤ _; omega
  | wish w =>
    refine ⟨h, fun x hx => ?_, by simp [nxt]⟩
    rcases List.mem_append.mp hx with hx | hx
    · exact hw x hx
    · rw [List.mem_singleton.mp hx]
      have h1 : wok m M w := h1
      cases w <;> first | trivial | exact h1.1
/-- what is told -/
def tD : List Nat → D
  | [] => .non
  | i :: _ => .tup [.str "broken", .int i]
/-- the store behind a deed -/
def tS2 (S : Store) (q : Nat) (past : List D) (M : Mk) (Ws : List Wish) (M' : Mk) (Ws' : List Wish) : List Nat → Store
  | [] => S.set q (siteO (past ++ [.tup [mk M, wsD Ws]]) M' Ws')
  | _ :: _ => S
theorem kp_tD (m : Nat) (S : Store) (q : Nat) (past : List D) (M : Mk) (Ws : List Wish) (M' : Mk) (Ws' : List Wish) : kp m S q past M Ws M' Ws' = match brk m M' Ws' with
  | [] => .ok .non (tS2 S q past M Ws M' Ws' [])
  | i :: _ => .ex 8 (some (.int i)) S := by
  unfold kp tS2
  cases brk m M' Ws' <;> rfl
@[simp] theorem heval_nil (p : Option D) : heval p [] = some [] := rfl
section
variable {P : Pg} (B : Base P) (hp : P.fn 49 = some ⟨3, 5, k95b49⟩) (hsub : ∀ a b v, k95P.pg.sub a b = some v → P.sub a b = some v)
include B hp hsub
theorem m_play {m : Nat} (n : Nat) {S : Store} {q : Nat} {past : List D} {M : Mk} {Ws : List Wish} (h : SiteAt S q past M Ws) (hM : Mkt m M) (hpl : past.length ≤ 1000) (hw : ∀ w ∈ Ws, wok' m w) (hs : Ws.length < 1000) (d : Deed) (hd : dok2 m M Ws d) (nm : Bool) :
    run P (n + 9) 49 [.ref q, deedD d, .bl nm] S = .ok (tD (brk m (nxt d M Ws).1 (nxt d M Ws).2)) (tS2 S q past M Ws (nxt d M Ws).1 (nxt d M Ws).2 (brk m (nxt d M Ws).1 (nxt d M Ws).2)) := by
  have h0 := h.obj
  have hn := nxt_ok hM hw hd
  have s84 : P.sub 8 4 = some false := hsub _ _ _ rfl
  have s86 : P.sub 8 6 = some false := hsub _ _ _ rfl
  have s85 : P.sub 8 5 = some false := hsub _ _ _ rfl
  have s87 : P.sub 8 7 = some false := hsub _ _ _ rfl
  have s88 : P.sub 8 8 = some true := hsub _ _ _ rfl
  rw [run_at hp rfl]
  obtain ⟨h1, h2, h3⟩ := hd
  cases d with
  | put b t w =>
    have hr := m_put B n h hM hpl hw (by omega) b t w h1.1 h1.2.1 h1.2.2 hn.1
    rw [kp_tD] at hr
    simp only [nxt] at *
    simp only [k95b49, rho0, deedD]
    cases hb : brk m (setM M b t w) Ws with
    | nil =>
      rw [hb] at hr
      cases nm <;> simp [h0, hr, tD]
    | cons i r =>
      rw [hb] at hr
      cases nm <;> simp [h0, hr, tD, tS2, tryH, s84, s86, s85, s87, s88, heval]
  | come r =>
    have hr := m_come B n h hM hpl hw (by omega) r h1 (h2 r rfl) hn.1
    rw [kp_tD] at hr
    simp only [nxt] at *
    simp only [k95b49, rho0, deedD]
    simp at hr
    cases hb : brk m (M ++ [r]) Ws with
    | nil =>
      rw [hb] at hr
      cases nm <;> simp [h0, hr, tD]
    | cons i r =>
      rw [hb] at hr
      cases nm <;> simp [h0, hr, tD, tS2, tryH, s84, s86, s85, s87, s88, heval]
  | go b =>
    have hr := m_go B n h hM hpl hw (by omega) b h1 (h3 b rfl) hn.1
    rw [kp_tD] at hr
    simp only [nxt] at *
    simp only [k95b49, rho0, deedD]
    cases hb : brk m (M.eraseIdx b) Ws with
    | nil =>
      rw [hb] at hr
      cases nm <;> simp [h0, hr, tD]
    | cons i r =>
      rw [hb] at hr
      cases nm <;> simp [h0, hr, tD, tS2, tryH, s84, s86, s85, s87, s88, heval]
  | lift k =>
    have hr := m_lift B n h hM hpl hw (by omega) k h1
    rw [kp_tD] at hr
    simp only [nxt] at *
    simp only [k95b49, rho0, deedD]
    cases hb : brk m M (Ws.eraseIdx k) with
    | nil =>
      rw [hb] at hr
      cases nm <;> simp [h0, hr, tD]
    | cons i r =>
      rw [hb] at hr
      cases nm <;> simp [h0, hr, tD, tS2, tryH, s84, s86, s85, s87, s88, heval]
  | wish w =>
    have hr := m_wish B n h hM hpl hw (by omega) w h1
    rw [kp_tD] at hr
    simp only [nxt] at *
    simp only [k95b49, rho0, deedD]
    cases hb : brk m M (Ws ++ [w]) with
    | nil =>
      rw [hb] at hr
      cases nm <;> simp [h0, hr, tD]
    | cons i r =>
      rw [hb] at hr
      cases nm <;> simp [h0, hr, tD, tS2, tryH, s84, s86, s85, s87, s88, heval]
theorem m_play_undo (n : Nat) {S : Store} {q : Nat} {past : List D} {M : Mk} {Ws : List Wish} (h : SiteAt S q past M Ws) (hpl : 1 ≤ past.length) : run P (n + 2) 49 [.ref q, .tup [.str "undo"], .bl false] S = .ok .non (S.set q (.obj 0 [("past", .tup past)])) := by
  have h0 := h.obj
  have hr := m_undo B n h hpl
  rw [run_at hp rfl, W_eq]
  simp [k95b49, rho0, h0, hr]
end
end G
set_option maxHeartbeats 400000
namespace G
/-! ### plain: the best deals, told two ways -/
def mks : Nat → Dl → Nat
  | k, [] => k
  | k, c :: d => mks (mw k c) d
theorem mks_snoc (c : Option Nat) : ∀ (d : Dl) (k : Nat), mks k (d ++ [c]) = mw (mks k d) c
  | [], k => rfl
  | b :: d, k => mks_snoc c d (mw k b)
theorem okD_app (m : Nat) : ∀ (d e : Dl) (k : Nat), okD m k (d ++ e) ↔ okD m k d ∧ okD m (mks k d) e
  | [], e, k => by simp [okD, mks]
  | c :: d, e, k => by
    show (c ∈ chs k m ∧ okD m (mw k c) (d ++ e)) ↔ (c ∈ chs k m ∧ okD m (mw k c) d) ∧ _
    rw [okD_app m d e (mw k c), and_assoc]; rfl
theorem worthD_append : ∀ (R R2 : Mk) (d e : Dl), d.length = R.length → worthD (R ++ R2) (d ++ e) = worthD R d + worthD R2 e
  | [], R2, [], e, _ => by simp [worthD]
  | [], _, _ :: _, _, h => by simp at h
  | _ :: _, _, [], _, h => by simp at h
  | r :: R, R2, c :: d, e, h => by
    simp only [List.cons_append, worthD, worthD_append R R2 d e (by simpa using h)]
    omega
theorem bdN_iff {m : Nat} {M : Mk} : ∀ b, b ≤ M.length → ∀ d k, (d, k) ∈ bdN m M b ↔ (d.length = b ∧ okD m 0 d ∧ k = mks 0 d ∧ worthD (M.take b) d + rest m (M.drop b) k = rest m M 0)
  | 0, _, d, k => by
    simp only [bdN, List.mem_singleton, Prod.mk.injEq, List.take_zero, List.drop_zero]
    constructor
    · rintro ⟨rfl, rfl⟩; exact ⟨rfl, trivial, rfl, by simp [worthD]⟩
    · rintro ⟨h1, h2, h3, h4⟩
      have : d = [] := List.length_eq_zero_iff.mp h1
      subst this; exact ⟨rfl, h3⟩
  | b + 1, hb, d, k => by
    have hbl : b < M.length := hb
    have ih := bdN_iff (m := m) (M := M) b (by omega)
    have hdr := drop_cons (M := M) hbl
    have htk : M.take (b + 1) = M.take b ++ [M.getD b []] := by
      rw [List.take_succ_eq_append_getElem hbl, List.getD_eq_getElem?_getD, List.getElem?_eq_getElem hbl]; rfl
    have hlen : (M.take b).length = b := by simp; omega
    constructor
    · intro h
      obtain ⟨q, hq, hp⟩ := List.mem_flatMap.mp h
      obtain ⟨c, hc, e⟩ := List.mem_map.mp hp
      obtain ⟨c1, c2⟩ := List.mem_filter.mp hc
      simp only [decide_eq_true_eq] at c2
      cases e
      obtain ⟨h1, h2, h3, h4⟩ := (ih q.1 q.2).mp hq
      refine ⟨by simp [h1], (okD_app m q.1 [c] 0).mpr ⟨h2, by rw [← h3]; exact ⟨c1, trivial⟩⟩, by rw [mks_snoc, ← h3], ?_⟩
      rw [htk, worthD_append _ _ _ _ (by rw [hlen, h1])]
      have hw : worthD [M.getD b []] [c] = wt (M.getD b []) c := by simp [worthD]
      rw [hw]
      rw [hdr] at h4
      omega
    · rintro ⟨h1, h2, h3, h4⟩
      rcases List.eq_nil_or_concat d with rfl | ⟨d', c, rfl⟩
      · simp at h1
      · rw [List.concat_eq_append] at *
        have h1' : d'.length = b := by simpa using h1
        obtain ⟨o1, o2⟩ := (okD_app m d' [c] 0).mp h2
        have o2 : c ∈ chs (mks 0 d') m := o2.1
        rw [mks_snoc] at h3
        rw [htk, worthD_append _ _ _ _ (by rw [hlen, h1'])] at h4
        have hw : worthD [M.getD b []] [c] = wt (M.getD b []) c := by simp [worthD]
        rw [hw, h3] at h4
        have hle1 : wt (M.getD b []) c + rest m (M.drop (b + 1)) (mw (mks 0 d') c) ≤ rest m (M.getD b [] :: M.drop (b + 1)) (mks 0 d') := le_mx (List.mem_map.mpr ⟨c, o2, rfl⟩)
        obtain ⟨e, e1, e2, e3⟩ := rest_some m (M.drop b) (mks 0 d')
        have hle2 : worthD (M.take b) d' + rest m (M.drop b) (mks 0 d') ≤ rest m M 0 := by
          rw [← e3, ← worthD_append _ _ _ _ (by rw [hlen, h1']), List.take_append_drop]
          refine rest_most m M 0 _ ((okD_app m d' e 0).mpr ⟨o1, e2⟩) ?_
          rw [List.length_append, h1', e1, List.length_drop]; omega
        rw [hdr] at hle2
        refine List.mem_flatMap.mpr ⟨(d', mks 0 d'), (ih _ _).mpr ⟨h1', o1, rfl, ?_⟩, List.mem_map.mpr ⟨c, List.mem_filter.mpr ⟨o2, ?_⟩, ?_⟩⟩
        · rw [hdr]; omega
        · simp only [decide_eq_true_eq]; omega
        · rw [h3]
theorem bestD_iff {m : Nat} {M : Mk} {d : Dl} : d ∈ bestD m M ↔ (d.length = M.length ∧ okT m d ∧ worthD M d = most m M) := by
  unfold bestD
  rw [List.mem_map]
  constructor
  · rintro ⟨p, hp, rfl⟩
    obtain ⟨h1, h2, h3, h4⟩ := (bdN_iff M.length (Nat.le_refl _) p.1 p.2).mp hp
    rw [List.take_length, List.drop_length] at h4
    exact ⟨h1, okD_zero.mp h2, by simpa [rest, most] using h4⟩
  · rintro ⟨h1, h2, h3⟩
    refine ⟨(d, mks 0 d), (bdN_iff M.length (Nat.le_refl _) _ _).mpr ⟨h1, okD_zero.mpr h2, rfl, ?_⟩, rfl⟩
    rw [List.take_length, List.drop_length]
    simpa [rest, most] using h3
/-- the law's own: all deals -/
def ldN (m : Nat) : Nat → List Dl
  | 0 => [[]]
  | b + 1 => (ldN m b).flatMap fun d => ((none :: (List.range m).map some).filter fun c => c == none || !decide (c ∈ d)).map fun c => d ++ [c]
theorem mem_thg {d : Dl} {t : Nat} : t ∈ thg d ↔ some t ∈ d := by
  simp [thg]
theorem ldN_iff {m : Nat} : ∀ b d, d ∈ ldN m b ↔ (d.length = b ∧ okT m d)
  | 0, d => by
    simp only [ldN, List.mem_singleton]
    constructor
    · rintro rfl; exact ⟨rfl, by simp [okT, thg]⟩
    · rintro ⟨h, _⟩; exact List.length_eq_zero_iff.mp h
  | b + 1, d => by
    constructor
    · intro h
      obtain ⟨q, hq, hp⟩ := List.mem_flatMap.mp h
      obtain ⟨c, hc, rfl⟩ := List.mem_map.mp hp
      obtain ⟨c1, c2⟩ := List.mem_filter.mp hc
      obtain ⟨h1, h2⟩ := (ldN_iff b q).mp hq
      refine ⟨by simp [h1], ?_⟩
      cases c with
      | none => unfold okT; rw [thg_snoc_none]; exact h2
      | some t =>
        simp at c1 c2
        unfold okT
        rw [thg_snoc_some, List.nodup_append]
        refine ⟨⟨h2.1, by simp, fun x hx y hy e => ?_⟩, fun x hx => ?_⟩
        · rw [List.mem_singleton] at hy
          exact c2 (mem_thg.mp (hy ▸ e ▸ hx))
        · rcases List.mem_append.mp hx with hx | hx
          · exact h2.2 x hx
          · rw [List.mem_singleton.mp hx]; exact c1
    · rintro ⟨h1, h2⟩
      rcases List.eq_nil_or_concat d with rfl | ⟨d', c, rfl⟩
      · simp at h1
      · rw [List.concat_eq_append] at *
        obtain ⟨o1, o2⟩ := okT_init h2
        refine List.mem_flatMap.mpr ⟨d', (ldN_iff b d').mpr ⟨by simpa using h1, o1⟩, List.mem_map.mpr ⟨c, List.mem_filter.mpr ⟨?_, ?_⟩, rfl⟩⟩
        · cases c with
          | none => simp
          | some t => simp; exact (o2 t rfl).1
        · cases c with
          | none => rfl
          | some t => simp; exact fun z => (o2 t rfl).2 (mem_thg.mpr z)
theorem ldN_len (m : Nat) : ∀ b, (ldN m b).length ≤ (m + 1) ^ b
  | 0 => by simp [ldN]
  | b + 1 => by
    refine Nat.le_trans (flatMap_len _ (m + 1) _ fun x hx => ?_) ?_
    · rw [List.length_map]
      exact Nat.le_trans (List.length_filter_le _ _) (by simp)
    · rw [Nat.pow_succ]
      exact Nat.mul_le_mul_right _ (ldN_len m b)
theorem ldN_most (m : Nat) (M : Mk) : ldN m M.length ≠ [] ∧ mx ((ldN m M.length).map (worthD M)) = most m M := by
  obtain ⟨d, h1, h2, h3⟩ := most_some m M
  have hd : d ∈ ldN m M.length := (ldN_iff _ _).mpr ⟨h1, h2⟩
  refine ⟨fun e => (by rw [e] at hd; cases hd), mx_eq (List.mem_map.mpr ⟨d, hd, h3⟩) fun y hy => ?_⟩
  obtain ⟨e, he, rfl⟩ := List.mem_map.mp hy
  obtain ⟨e1, e2⟩ := (ldN_iff _ _).mp he
  exact most_le e2 e1
/-- the law's own: the best ones -/
def lbest (m : Nat) (M : Mk) : List Dl := (ldN m M.length).filter fun d => decide (worthD M d = most m M)
theorem lbest_iff {m : Nat} {M : Mk} {d : Dl} : d ∈ lbest m M ↔ d ∈ bestD m M := by
  unfold lbest
  rw [List.mem_filter, ldN_iff, bestD_iff, decide_eq_true_eq, and_assoc]
theorem lbest_srv (m : Nat) (M : Mk) (i : Nat) : ((lbest m M).all fun d => decide (d.getD i none ≠ none)) = srv m M i := by
  unfold srv
  apply Bool.eq_iff_iff.mpr
  rw [List.all_eq_true (l := lbest m M), List.all_eq_true (l := bestD m M)]
  exact ⟨fun h d hd => h d (lbest_iff.mpr hd), fun h d hd => h d (lbest_iff.mp hd)⟩
end G
set_option maxHeartbeats 1000000
namespace G
open PySem L2
def ownb21 : List G.S := [.asgT [3, 4] (.var 0), .ife (.cmp .eq (.idx (.var 1) (.con (.int 0))) (.con (.str "put"))) [.par3 6 7 8 (.idx (.var 1) (.con (.int 1))) (.idx (.var 1) (.con (.int 2))) (.idx (.var 1) (.con (.int 3))), .asg 5 (.bin .add (.bin .add (.slc (.var 3) [] [.var 6]) (.tup [.bin .add (.bin .add (.slc (.idx (.var 3) (.var 6)) [] [.var 7]) (.tup [.var 8])) (.slc (.idx (.var 3) (.var 6)) [.bin .add (.var 7) (.con (.int 1))] [])])) (.slc (.var 3) [.bin .add (.var 6) (.con (.int 1))] []))] [.ife (.cmp .eq (.idx (.var 1) (.con (.int 0))) (.con (.str "come"))) [.ife (.cmp .eq (.bi .len [.var 3]) (.con (.int 5))) [.ret (.tup [.var 0, .tup [.con (.str "many"), .con .non]])] [], .asg 5 (.bin .add (.var 3) (.tup [.idx (.var 1) (.con (.int 1))]))] [.ife (.cmp .eq (.idx (.var 1) (.con (.int 0))) (.con (.str "go"))) [.ife (.cmp .eq (.bi .len [.var 3]) (.con (.int 1))) [.ret (.tup [.var 0, .tup [.con (.str "now"), .idx (.var 1) (.con (.int 1))]])] [], .asg 5 (.bin .add (.slc (.var 3) [] [.idx (.var 1) (.con (.int 1))]) (.slc (.var 3) [.bin .add (.idx (.var 1) (.con (.int 1))) (.con (.int 1))] []))] [.ife (.cmp .eq (.idx (.var 1) (.con (.int 0))) (.con (.str "wish"))) [.ret (.ite (.call 43 [.var 3, .idx (.var 1) (.con (.int 1))]) (.tup [.tup [.var 3, .bin .add (.var 4) (.tup [.idx (.var 1) (.con (.int 1))])], .con .non]) (.tup [.var 0, .tup [.con (.str "broken"), .bi .len [.var 4]]]))] [.ret (.tup [.tup [.var 3, .bin .add (.slc (.var 4) [] [.idx (.var 1) (.con (.int 1))]) (.slc (.var 4) [.bin .add (.idx (.var 1) (.con (.int 1))) (.con (.int 1))] [])], .con .non])]]]], .asg 2 (.call 44 [.var 5, .var 4]), .ret (.ite (.cmp .is_ (.var 2) (.con .non)) (.tup [.tup [.var 5, .var 4], .con .non]) (.tup [.var 0, .tup [.con (.str "broken"), .var 2]]))]
def ownb43 : List G.S := [.ife (.cmp .eq (.idx (.var 1) (.con (.int 0))) (.con (.str "worth"))) [.ret (.cmp .ge (.call 51 [.var 0]) (.idx (.var 1) (.con (.int 1))))] [], .ife (.cmp .eq (.idx (.var 1) (.con (.int 0))) (.con (.str "price"))) [.ret (.cmp .le (.idx (.call 52 [.var 0]) (.idx (.var 1) (.con (.int 1)))) (.idx (.var 1) (.con (.int 2))))] [], .ret (.and (.cmp .lt (.idx (.var 1) (.con (.int 1))) (.bi .len [.var 0])) (.bi .all [.lc [2] (.name 2) .over [.idx (.call 45 [.var 0]) (.con (.int 1))] [] (.cmp .isn (.idx (.var 2) (.idx (.var 1) (.con (.int 1)))) (.con .non))]))]
def ownb44 : List G.S := [.asg 2 (.lc [3, 4] (.tup [3, 4]) .enum [.var 1] [.not (.call 43 [.var 0, .var 4])] (.var 3)), .ret (.ite (.cmp .ne (.var 2) (.lst [])) (.idx (.var 2) (.con (.int 0))) (.con .non))]
def ownb45 : List G.S := [.asg 1 (.call 55 [.bi .len [.var 0], .bi .len [.idx (.var 0) (.con (.int 0))]]), .asg 2 (.bi .max1 [.lc [3] (.name 3) .over [.var 1] [] (.call 56 [.var 0, .var 3])]), .ret (.tup [.var 2, .lc [3] (.name 3) .over [.var 1] [.cmp .eq (.call 56 [.var 0, .var 3]) (.var 2)] (.var 3)])]
def ownb55 : List G.S := [.asg 2 (.lst [.tup []]), .for_ (.name 3) .range1 [.var 0] [.asg 4 (.lst []), .for_ (.name 5) .over [.var 2] [.asg 4 (.bin .add (.var 4) (.lc [6] (.name 6) .over [.bin .add (.lst [.con .non]) (.lrg [.var 1])] [.or (.cmp .is_ (.var 6) (.con .non)) (.cmp .nin (.var 6) (.var 5))] (.bin .add (.var 5) (.tup [.var 6]))))], .asg 2 (.var 4)], .ret (.var 2)]
def ownb56 : List G.S := [.ret (.bi .sum [.lc [2, 3] (.tup [2, 3]) .enum [.var 1] [.cmp .isn (.var 3) (.con .non)] (.idx (.idx (.var 0) (.var 2)) (.var 3))])]
/-- a law's own book, numbered as in k81 -/
structure OwnB (P : Pg) : Prop extends LawB P where
  o21 : P.fn 21 = some ⟨2, 9, ownb21⟩
  o43 : P.fn 43 = some ⟨2, 3, ownb43⟩
  o44 : P.fn 44 = some ⟨2, 5, ownb44⟩
  o45 : P.fn 45 = some ⟨1, 4, ownb45⟩
  o55 : P.fn 55 = some ⟨2, 7, ownb55⟩
  o56 : P.fn 56 = some ⟨2, 4, ownb56⟩
/-! ### what a deal is worth -/
theorem worth_sum (M : Mk) : ∀ (d : Dl) (k : Nat), M.length = k + d.length → ((((List.range' k d.length).zip d).filter fun p => decide (p.2 ≠ none)).map fun p => wt (M.getD p.1 []) p.2).sum = worthD (M.drop k) d
  | [], k, h => by
    simp at h
    subst h
    simp [worthD]
  | c :: d, k, h => by
    have hk : k < M.length := by simp at h; omega
    have ih := worth_sum M d (k + 1) (by simp at h; omega)
    rw [drop_cons hk]
    simp only [List.length_cons, List.range'_succ, List.zip_cons_cons, List.filter_cons, worthD]
    cases c with
    | none => simp only [ne_eq, not_true, decide_false, Bool.false_eq_true, if_false]; rw [ih]; simp [wt]
    | some t => simp only [ne_eq, reduceCtorEq, not_false_eq_true, decide_true, if_true, List.map_cons, List.sum_cons]; rw [ih]
theorem b_sum {α : Type} (S : Store) (f : α → Int) (xs : List α) : bfun S .sum [.lst (xs.map fun x => D.int (f x))] = some (.int (xs.map f).sum) := by
  simp only [bfun, bSum, lseq_lst, Option.bind_some, intsOf_map', Option.map_some]
theorem isn_eo (S : Store) (c : Option Nat) : cmpop S .isn (eo c) .non = some (decide (c ≠ none)) := by cases c <;> rfl
theorem is_eo (S : Store) (c : Option Nat) : cmpop S .is_ (eo c) .non = some (c == none) := by cases c <;> rfl
theorem nin_eo (S : Store) (t : Nat) (d : Dl) : cmpop S .nin (.int t) (dlD d) = some (!decide (some t ∈ d)) := by
  have hf : (d.map eo).all flatD = true := by
    rw [List.all_map, List.all_eq_true]; intro x _; cases x <;> rfl
  have he : ((d.map eo).any fun y => eqF y (.int t)) = decide (some t ∈ d) := by
    rw [List.any_map]
    induction d with
    | nil => rfl
    | cons c d ih =>
      rw [List.any_cons, ih (by rw [List.all_map, List.all_eq_true]; intro x _; cases x <;> rfl)]
      cases c with
      | none => simp [eqF, eo]
      | some u =>
        by_cases h : u = t
        · simp [eqF, eo, h]
        · have h2 : ¬ t = u := fun e => h e.symm
          simp [eqF, eo, h, h2]
          intro e; omega
  simp only [cmpop, dlD, dctOf_tup, seqOf_tup, Option.bind_some, pyIn, hf]
  simp only [flatD, Bool.and_self, if_true, Option.map_some, he]
section
variable {P : Pg} (O : OwnB P)
include O
theorem m_lworth {m : Nat} (n : Nat) (M : Mk) (h : mkOk m M) (hl : M.length ≤ 1000) (d : Dl) (hd : d.length = M.length) (ho : okT m d) (S : Store) : run P (n + 1) 56 [mk M, dlD d] S = .ok (.int (worthD M d)) S := by
  rw [run_at O.o56 rfl, W_eq]
  simp [ownb56, rho0, dlD, its_enum]
  refine W_filter (fun p : Nat × Option Nat => .tup [.int p.1, eo p.2]) (fun p => .int (wt (M.getD p.1 []) p.2)) (fun p => decide (p.2 ≠ none)) ((List.range d.length).zip d) (by simp; omega) (fun p hp => ⟨_, rfl, ?_, fun hne => ?_⟩) ?_
  · simp [isn_eo]
  · obtain ⟨b, c⟩ := p
    obtain ⟨hb, hc⟩ := List.of_mem_zip hp
    have hb' : b < M.length := by rw [← hd]; exact List.mem_range.mp hb
    cases c with
    | none => simp at hne
    | some t =>
      have ht : t < m := ho.2 t (mem_thg.mpr hc)
      have hr := (h _ (List.getElem_mem hb')).1
      simp [mk_def, ixOf_nat, hb', hr, ht, wt]
  · rw [b_sum S (fun p : Nat × Option Nat => wt (M.getD p.1 []) p.2)]
    have := worth_sum M d 0 (by omega)
    rw [List.drop_zero, ← List.range_eq_range'] at this
    simp only [Wo_some, and_true]
    rw [this]
theorem m_ldeals (n b m : Nat) (hb : b ≤ 5) (hm : m ≤ 6) (S : Store) : run P (n + 1) 55 [.int b, .int m] S = .ok (.lst ((ldN m b).map dlD)) S := by
  have hcap : ∀ k, k ≤ b → (ldN m k).length ≤ 16807 := fun k hk => Nat.le_trans (ldN_len m k) (Nat.le_trans (Nat.pow_le_pow_left (show m + 1 ≤ 7 by omega) k) (Nat.le_trans (Nat.pow_le_pow_right (by omega) (show k ≤ 5 by omega)) (by omega)))
  rw [run_at O.o55 rfl, W_eq]
  simp [ownb55, rho0, it_range1 b (by omega)]
  refine W_loop (fun i : Nat => D.int i) (fun pre ρ S' => S = S' ∧ ∃ s3 s4 s5 s6, ρ = [.v (.int b), .v (.int m), .v (.lst ((ldN m pre.length).map dlD)), s3, s4, s5, s6]) (List.range b) [] ?_ _ _ ⟨rfl, .no, .no, .no, .no, rfl⟩ ?_
  · rintro pre k suf e ρ S' ⟨rfl, s3, s4, s5, s6, rfl⟩
    rw [List.nil_append] at e
    obtain ⟨ek, hk⟩ := range_split e
    refine ⟨_, rfl, ?_⟩
    simp
    let con : Dl → List Dl := fun d => ((none :: (List.range m).map some).filter fun c => c == none || !decide (c ∈ d)).map fun c => d ++ [c]
    have hcap1 := hcap (pre.length + 1) (by omega)
    refine W_loop dlD (fun pr ρ S' => S = S' ∧ ∃ s5 s6, ρ = [.v (.int b), .v (.int m), .v (.lst ((ldN m pre.length).map dlD)), .v (.int k), .v (.lst ((pr.flatMap con).map dlD)), s5, s6]) (ldN m pre.length) [] ?_ _ _ ⟨rfl, s5, s6, rfl⟩ ?_
    · rintro pr d sf e2 ρ S' ⟨rfl, s5, s6, rfl⟩
      rw [List.nil_append] at e2
      have hd := ((ldN_iff _ d).mp (by rw [e2]; simp)).1
      refine ⟨_, rfl, ?_⟩
      have hlen : ((pr ++ d :: sf).flatMap con).length ≤ 16807 := by rw [← e2]; exact hcap1
      have hlen2 : (pr.flatMap con).length + (con d).length ≤ 16807 := by
        refine Nat.le_trans ?_ hlen
        rw [List.flatMap_append, List.length_append, List.flatMap_cons, List.length_append]
        omega
      simp [rgl_nat m (by omega), line_le (show 1 + m ≤ 1000000 by omega)]
      rw [show (D.non :: List.map (fun i : Nat => D.int i) (List.range m)) = (none :: (List.range m).map some).map eo by simp [Function.comp_def]]
      refine W_filter eo (fun c => dlD (d ++ [c])) (fun c => c == none || !decide (c ∈ d)) (none :: (List.range m).map some) (by simp; omega) (fun c hc => ⟨_, rfl, ?_, fun _ => ?_⟩) ?_
      · cases c with
        | none => simp
        | some t =>
          have := nin_eo S t d
          simp [this]
      · simp [dlD, line_le (show d.length + 1 ≤ 1000000 by omega)]
      · have hc2 : (List.filter (fun c : Option Nat => c == none || !decide (c ∈ d)) (none :: List.map some (List.range m))).length = (con d).length := by simp only [con, List.length_map]
        have hl1 : line ((pr.flatMap con).length + (con d).length) = true := line_le (by omega)
        simp only [bin_addL, List.length_map, hc2, hl1, if_true, W_ok, Wo_some]
        exact ⟨by rw [← List.length_flatMap]; exact hl1, trivial, by simp only [con, List.map_map]; rfl⟩
    · rintro ρ2 S2 ⟨rfl, s5, s6, rfl⟩
      simp
      rfl
  · rintro ρ2 S2 ⟨rfl, s3, s4, s5, s6, rfl⟩
    simp
end
end G
set_option maxHeartbeats 1000000
namespace G
open PySem L2
/-! ### the law's own book -/
/-- what is due, the state behind -/
def dueX (m : Nat) (M : Mk) (Ws : List Wish) (d : Deed) : D := match d with
  | .come r => if M.length = 5 then .tup [.str "many", .non] else tD (brk m (nxt d M Ws).1 (nxt d M Ws).2)
  | .go b => if M.length = 1 then .tup [.str "now", .int b] else tD (brk m (nxt d M Ws).1 (nxt d M Ws).2)
  | d => tD (brk m (nxt d M Ws).1 (nxt d M Ws).2)
def barred (M : Mk) (d : Deed) : Bool := match d with
  | .come _ => decide (M.length = 5)
  | .go _ => decide (M.length = 1)
  | _ => false
/-- done -/
def goes (m : Nat) (M : Mk) (Ws : List Wish) (d : Deed) : Bool := !barred M d && decide (brk m (nxt d M Ws).1 (nxt d M Ws).2 = [])
def nxtX (m : Nat) (M : Mk) (Ws : List Wish) (d : Deed) : Mk × List Wish := if goes m M Ws d then nxt d M Ws else (M, Ws)
theorem brk_hd (S : Store) (br : List Nat) : (match br with | [] => D.non | i :: _ => .int (i : Nat)) = match br.head? with | none => D.non | some i => .int (i : Nat) := by cases br <;> rfl
def hdD (br : List Nat) : D := match br with
  | [] => .non
  | i :: _ => .int i
theorem is_hdD (S : Store) (br : List Nat) : cmpop S .is_ (hdD br) .non = some (decide (br = [])) := by cases br <;> rfl
theorem ne_nilL' (S : Store) (br : List Nat) : cmpop S .ne (.lst (br.map fun i => .int (i : Nat))) (.lst []) = some (decide (br ≠ [])) := by
  have h : ∀ br : List Nat, ∃ ps, toPys (br.map fun i => .int (i : Nat)) = some ps ∧ ps.length = br.length ∧ PyData.canLayAll0 ps = true ∧ PyData.depthAll ps ≤ 10 := by
    intro br
    induction br with
    | nil => exact ⟨[], rfl, rfl, rfl, by simp [PyData.depthAll]⟩
    | cons w Ws ih =>
      obtain ⟨ps, h1, h2, h3, h4⟩ := ih
      simp [toPys, toPy, h1, h2, PyData.canLayAll0, PyData.canLay0, PyData.depthAll, PyData.depth, h3]; omega
  obtain ⟨ps, h1, h2, h3, h4⟩ := h br
  show (pyEq (.lst (br.map fun i => .int (i : Nat))) (.lst [])).map (!·) = _
  have hf : fine (.list ps) = true := by
    simp [fine, SeqAt.shaped, PyData.canLay0, PyData.depth, h3]; omega
  have hf0 : fine (.list []) = true := by simp [fine, SeqAt.shaped, PyData.canLay0, PyData.canLayAll0, PyData.depth, PyData.depthAll]
  simp only [pyEq, toPy, toPys, h1, Option.map_some, hf, hf0, Bool.and_self, if_true]
  cases ps with
  | nil =>
    have : br = [] := List.length_eq_zero_iff.mp h2.symm
    subst this
    simp [PyData.eqv, PyData.eqvAll]
  | cons p ps =>
    have : br ≠ [] := fun e => by subst e; simp at h2
    simp [PyData.eqv, PyData.eqvAll, this]
theorem brk_nil_iff {m : Nat} {M : Mk} {Ws : List Wish} : brk m M Ws = [] ↔ ∀ w ∈ Ws, holds m M w = true := by
  unfold brk
  rw [List.map_eq_nil_iff, List.filter_eq_nil_iff]
  constructor
  · intro h w hw
    obtain ⟨i, hi, e⟩ := List.mem_iff_getElem.mp hw
    have := h (i, Ws[i]) (List.mem_iff_getElem.mpr ⟨i, by simpa using hi, by simp⟩)
    simp at this
    rw [e] at this; exact this
  · intro h p hp
    have := h _ (List.of_mem_zip hp).2
    simp [this]
theorem brk_snoc' {m : Nat} {M : Mk} {Ws : List Wish} {w : Wish} (h : brk m M Ws = []) : brk m M (Ws ++ [w]) = if holds m M w then [] else [Ws.length] := by
  have h0 := h
  unfold brk at h ⊢
  rw [List.length_append, List.length_singleton, List.range_succ, List.zip_append (by simp), List.filter_append, List.map_append]
  rw [h, List.nil_append]
  cases e : holds m M w <;> simp [e]
section
variable {P : Pg} (O : OwnB P)
include O
theorem m_lbest {m : Nat} (n : Nat) (M : Mk) (h : mkOk m M) (h1 : M ≠ []) (hl : M.length ≤ 5) (hm : m ≤ 6) (S : Store) : run P (n + 2) 45 [mk M] S = .ok (.tup [.int (most m M), .lst ((lbest m M).map dlD)]) S := by
  obtain ⟨r, R, eM⟩ : ∃ r R, M = r :: R := by cases M with
    | nil => exact absurd rfl h1
    | cons r R => exact ⟨r, R, rfl⟩
  have hr := (h r (by rw [eM]; simp)).1
  have e1 : index S (mk M) (.int 0) = some (mrow r) := by rw [eM]; simp [mk_def]
  have e2 : bfun S .len [mk M] = some (.int M.length) := by simp [mk_def]
  have hd := m_ldeals O n M.length m hl hm S
  obtain ⟨hne, hmx⟩ := ldN_most m M
  have hcap : (ldN m M.length).length ≤ 16807 := Nat.le_trans (ldN_len m _) (Nat.le_trans (Nat.pow_le_pow_left (show m + 1 ≤ 7 by omega) _) (Nat.le_trans (Nat.pow_le_pow_right (by omega) hl) (by omega)))
  have hlw : ∀ d ∈ ldN m M.length, run P (n + 1) 56 [mk M, dlD d] S = .ok (.int (worthD M d)) S := fun d hd => by
    obtain ⟨o1, o2⟩ := (ldN_iff _ _).mp hd
    exact m_lworth O n M h (by omega) d o1 o2 S
  rw [run_at O.o45 rfl, W_eq]
  simp [ownb45, rho0, e1, e2, hr, hd]
  refine W_map dlD (fun d => .int (worthD M d)) (ldN m M.length) (by omega) (fun d hd => ⟨_, rfl, by simp, by simp [hlw d hd]⟩) ?_
  have hb := b_max1 S (worthD M) (ldN m M.length) hne
  rw [hmx] at hb
  simp [hb]
  refine W_filter dlD dlD (fun d => decide (worthD M d = most m M)) (ldN m M.length) (by omega) (fun d hd => ⟨_, rfl, by simp [hlw d hd], fun _ => by simp⟩) ?_
  simp [lbest]
theorem m_lholds {m : Nat} (n : Nat) (M : Mk) (h : mkOk m M) (h1 : M ≠ []) (hl : M.length ≤ 5) (hm : m ≤ 5) (w : Wish) (hw : wok' m w) (S : Store) : run P (n + 3) 43 [mk M, wD w] S = .ok (.bl (holds m M w)) S := by
  rw [run_at O.o43 rfl, W_eq]
  have e2 : bfun S .len [mk M] = some (.int M.length) := by simp [mk_def]
  cases w with
  | worth i =>
    have h0 := m_mostT O.toLawB (n + 1) M h hl (by omega) S
    simp [ownb43, rho0, wD, h0, holds]
  | price j i =>
    have h0 := m_least O.toLawB n M h h1 hl hm S
    have hj : j < m := hw
    simp [ownb43, rho0, wD, h0, holds, ixOf_nat, hj]
  | served j =>
    by_cases hj : j < M.length
    · have h0 := m_lbest O n M h h1 hl (by omega) S
      simp [ownb43, rho0, wD, e2, hj, h0, holds]
      have hcap : (lbest m M).length ≤ 16807 := by
        refine Nat.le_trans (List.length_filter_le _ _) (Nat.le_trans (ldN_len m _) (Nat.le_trans (Nat.pow_le_pow_left (show m + 1 ≤ 7 by omega) _) (Nat.le_trans (Nat.pow_le_pow_right (by omega) hl) (by omega))))
      refine W_map dlD (fun d => .bl (decide (d.getD j none ≠ none))) (lbest m M) (by omega) (fun d hd => ⟨_, rfl, by simp, ?_⟩) ?_
      · have e := ((bestD_iff.mp (lbest_iff.mp hd)).1)
        simp [dlD, ixOf_nat, e, hj]
        cases hc : d[j] <;> simp [hc]
      · rw [b_all S (fun d : Dl => decide (d.getD j none ≠ none)) (lbest m M), lbest_srv]
        simp
    · simp [ownb43, rho0, wD, e2, hj, holds]
theorem m_lfirst {m : Nat} (n : Nat) (M : Mk) (h : Mkt m M) (Ws : List Wish) (hw : ∀ w ∈ Ws, wok' m w) (hs : Ws.length ≤ 1000) (S : Store) : run P (n + 4) 44 [mk M, wsD Ws] S = .ok (hdD (brk m M Ws)) S := by
  rw [run_at O.o44 rfl, W_eq]
  simp [ownb44, rho0, wsD, its_enum]
  refine W_filter (fun p : Nat × Wish => .tup [.int p.1, wD p.2]) (fun p => .int p.1) (fun p => !holds m M p.2) ((List.range Ws.length).zip Ws) (by simp; omega) (fun p hp => ⟨_, rfl, ?_, by simp⟩) ?_
  · have h0 := m_lholds O n M h.ok h.ne h.ln.2 h.th.2 p.2 (hw _ (List.of_mem_zip hp).2) S
    simp [h0]
  · have e : (List.map (fun p : Nat × Wish => D.int p.1) (((List.range Ws.length).zip Ws).filter fun p => !holds m M p.2)) = (brk m M Ws).map fun i => .int (i : Nat) := by simp [brk, Function.comp_def]
    rw [e]
    have hn := ne_nilL' S (brk m M Ws)
    cases hb : brk m M Ws with
    | nil => rw [hb] at hn; simp at hn; simp [hn, hdD]
    | cons i r => rw [hb] at hn; simp at hn; simp [hn, hdD]
theorem m_done {m : Nat} (n : Nat) (M : Mk) (h : Mkt m M) (Ws : List Wish) (hw : ∀ w ∈ Ws, wok' m w) (hs : Ws.length < 1000) (hb0 : brk m M Ws = []) (d : Deed) (hd : dok m M Ws d) (S : Store) : run P (n + 5) 21 [.tup [mk M, wsD Ws], deedD d] S = .ok (.tup [.tup [mk (nxtX m M Ws d).1, wsD (nxtX m M Ws d).2], dueX m M Ws d]) S := by
  have e2 : bfun S .len [mk M] = some (.int M.length) := by simp [mk_def]
  have e7 : bfun S .len [wsD Ws] = some (.int Ws.length) := by simp [wsD]
  have hln := h.ln
  have hth := h.th
  have fin : ∀ (d : Deed), dok2 m M Ws d → barred M d = false → (nxt d M Ws).2 = Ws → run P (n + 4) 44 [mk (nxt d M Ws).1, wsD Ws] S = .ok (hdD (brk m (nxt d M Ws).1 Ws)) S := fun d hd _ e => by
    obtain ⟨k1, k2, k3⟩ := nxt_ok h hw hd
    exact m_lfirst O n _ k1 Ws hw (by omega) S
  rw [run_at O.o21 rfl, W_eq]
  cases d with
  | put b t w =>
    obtain ⟨hb, ht, hn⟩ := hd
    have hf := fin (.put b t w) ⟨⟨hb, ht, hn⟩, by simp, by simp⟩ rfl rfl
    have hr := (h.ok M[b] (List.getElem_mem hb)).1
    have ei : index S (mk M) (.int b) = some (mrow M[b]) := by
      rw [mk_def, index_tup, List.length_map, ixOf_nat hb]
      simp [hb]
    have s1 : slice S (mk M) none (some (b : Int)) = some (.tup ((M.map mrow).take b)) := by rw [mk_def, slice_tup, cut_take (α := Nat)]
    have s2 : slice S (mk M) (some ((b : Int) + 1)) none = some (.tup ((M.map mrow).drop (b + 1))) := by rw [mk_def, slice_tup, cut_drop1]
    have e : setM M b t w = M.take b ++ (M[b].take t ++ w :: M[b].drop (t + 1)) :: M.drop (b + 1) := by
      unfold setM
      rw [List.getD_eq_getElem?_getD, List.getElem?_eq_getElem hb, Option.getD_some]
      rw [List.set_eq_take_append_cons_drop, if_pos hb, List.set_eq_take_append_cons_drop, if_pos (by omega)]
    have hmk : mk (setM M b t w) = .tup (List.take b (List.map mrow M) ++ D.tup (List.take t (List.map D.int M[b]) ++ D.int w :: List.drop (t + 1) (List.map D.int M[b])) :: List.drop (b + 1) (List.map mrow M)) := by
      rw [mk_def, e]; simp [List.map_take, List.map_drop]
    simp only [nxt] at hf
    rw [hmk] at hf
    simp [ownb21, rho0, deedD, ei, optB, s1, s2, slice_tup, cut_take (α := Nat), cut_drop1, hr, line_le (show min t m + 1 ≤ 1000000 by omega), line_le (show min t m + 1 + (m - (t + 1)) ≤ 1000000 by omega), line_le (show min b M.length + 1 ≤ 1000000 by omega), line_le (show min b M.length + 1 + (M.length - (b + 1)) ≤ 1000000 by omega), hf, is_hdD]
    cases hbr : brk m (setM M b t w) Ws with
    | nil => simp [hdD, nxtX, goes, barred, nxt, hbr, dueX, tD, hmk]
    | cons i r => simp [hdD, nxtX, goes, barred, nxt, hbr, dueX, tD]
  | come r =>
    by_cases h5 : M.length = 5
    · simp [ownb21, rho0, deedD, e2, h5, nxtX, goes, barred, dueX]
    · have hf := fin (.come r) ⟨hd, fun _ _ => by omega, by simp⟩ (by simp [barred, h5]) rfl
      have h6 : ¬ (M.length : Int) = 5 := by omega
      have hmk : mk (M ++ [r]) = .tup (M.map mrow ++ [.tup (r.map .int)]) := by simp [mk_def]
      simp only [nxt] at hf
      rw [hmk] at hf
      have ea : binop S .add (mk M) (.tup [.tup (r.map .int)]) = some (.tup (M.map mrow ++ [.tup (r.map .int)])) := by
        rw [mk_def, bin_addT]; simp [line_le (show M.length + 1 ≤ 1000000 by omega)]
      simp [ownb21, rho0, deedD, e2, h6, ea, hf, is_hdD]
      cases hbr : brk m (M ++ [r]) Ws with
      | nil => simp [hdD, nxtX, goes, barred, h5, nxt, hbr, dueX, tD, hmk]
      | cons i r' => simp [hdD, nxtX, goes, barred, h5, nxt, hbr, dueX, tD]
  | go b =>
    by_cases h5 : M.length = 1
    · simp [ownb21, rho0, deedD, e2, h5, nxtX, goes, barred, dueX]
    · have hf := fin (.go b) ⟨hd, by simp, fun _ _ => by omega⟩ (by simp [barred, h5]) rfl
      have h6 : ¬ (M.length : Int) = 1 := by omega
      have hb : b < M.length := hd
      have s1 : slice S (mk M) none (some (b : Int)) = some (.tup ((M.map mrow).take b)) := by rw [mk_def, slice_tup, cut_take (α := Nat)]
      have s2 : slice S (mk M) (some ((b : Int) + 1)) none = some (.tup ((M.map mrow).drop (b + 1))) := by rw [mk_def, slice_tup, cut_drop1]
      have hmk : mk (M.eraseIdx b) = .tup ((M.map mrow).take b ++ (M.map mrow).drop (b + 1)) := by
        rw [mk_def, List.eraseIdx_eq_take_drop_succ, List.map_append, List.map_take, List.map_drop]
      simp only [nxt] at hf
      rw [hmk] at hf
      simp [ownb21, rho0, deedD, e2, h6, optB, s1, s2, line_le (show min b M.length + (M.length - (b + 1)) ≤ 1000000 by omega), hf, is_hdD]
      cases hbr : brk m (M.eraseIdx b) Ws with
      | nil => simp [hdD, nxtX, goes, barred, h5, nxt, hbr, dueX, tD, hmk]
      | cons i r' => simp [hdD, nxtX, goes, barred, h5, nxt, hbr, dueX, tD]
  | lift k =>
    have hk : k < Ws.length := hd
    have s1 : slice S (wsD Ws) none (some (k : Int)) = some (.tup ((Ws.map wD).take k)) := by rw [wsD, slice_tup, cut_take (α := Nat)]
    have s2 : slice S (wsD Ws) (some ((k : Int) + 1)) none = some (.tup ((Ws.map wD).drop (k + 1))) := by rw [wsD, slice_tup, cut_drop1]
    have hbe : brk m M (Ws.eraseIdx k) = [] := by
      rw [brk_nil_iff] at hb0 ⊢
      exact fun w hw => hb0 w (List.mem_of_mem_eraseIdx hw)
    have hws : wsD (Ws.eraseIdx k) = .tup ((Ws.map wD).take k ++ (Ws.map wD).drop (k + 1)) := by
      rw [wsD, List.eraseIdx_eq_take_drop_succ, List.map_append, List.map_take, List.map_drop]
    simp [ownb21, rho0, deedD, optB, s1, s2, line_le (show min k Ws.length + (Ws.length - (k + 1)) ≤ 1000000 by omega)]
    simp [nxtX, goes, barred, nxt, hbe, dueX, tD, hws]
  | wish w =>
    have hst := m_lholds O (n + 1) M h.ok h.ne h.ln.2 h.th.2 w (by cases w <;> first | trivial | exact hd.1) S
    have hbs := brk_snoc' (w := w) hb0
    have ea : binop S .add (wsD Ws) (.tup [wD w]) = some (wsD (Ws ++ [w])) := by
      rw [wsD, bin_addT]; simp [line_le (show Ws.length + 1 ≤ 1000000 by omega), wsD]
    cases hh : holds m M w with
    | true =>
      rw [hh] at hst hbs
      simp [ownb21, rho0, deedD, hst, ea, nxtX, goes, barred, nxt, hbs, dueX, tD]
    | false =>
      rw [hh] at hst hbs
      simp [ownb21, rho0, deedD, hst, e7, nxtX, goes, barred, nxt, hbs, dueX, tD]
end
end G
set_option maxHeartbeats 1000000
namespace G
open PySem L2
/-- the store behind a deed that is played -/
def playS (m : Nat) (S : Store) (q : Nat) (past : List D) (M : Mk) (Ws : List Wish) (d : Deed) : Store := if goes m M Ws d then S.set q (siteO (past ++ [.tup [mk M, wsD Ws]]) (nxt d M Ws).1 (nxt d M Ws).2) else S
theorem dok2_of {m : Nat} {M : Mk} {Ws : List Wish} (hM : Mkt m M) {d : Deed} (hd : dok m M Ws d) (hb : barred M d = false) : dok2 m M Ws d := by
  have hln := hM.ln
  refine ⟨hd, fun r e => ?_, fun b e => ?_⟩
  · subst e
    simp [barred] at hb; omega
  · subst e
    simp [barred] at hb; omega
section
variable {P : Pg} (B : Base P) (hp : P.fn 49 = some ⟨3, 5, k95b49⟩) (hsub : ∀ a b v, k95P.pg.sub a b = some v → P.sub a b = some v)
include B hp hsub
theorem m_playX {m : Nat} (n : Nat) {S : Store} {q : Nat} {past : List D} {M : Mk} {Ws : List Wish} (h : SiteAt S q past M Ws) (hM : Mkt m M) (hpl : past.length ≤ 1000) (hw : ∀ w ∈ Ws, wok' m w) (hs : Ws.length < 1000) (d : Deed) (hd : dok m M Ws d) (nm : Bool) :
    run P (n + 9) 49 [.ref q, deedD d, .bl nm] S = .ok (dueX m M Ws d) (playS m S q past M Ws d) := by
  cases hb : barred M d with
  | false =>
    have := m_play B hp hsub n h hM hpl hw hs d (dok2_of hM hd hb) nm
    rw [this]
    have e1 : dueX m M Ws d = tD (brk m (nxt d M Ws).1 (nxt d M Ws).2) := by
      cases d with
      | come r => simp [barred] at hb; simp [dueX, hb]
      | go b => simp [barred] at hb; simp [dueX, hb]
      | _ => rfl
    rw [e1]
    congr 1
    unfold playS goes
    rw [hb]
    cases brk m (nxt d M Ws).1 (nxt d M Ws).2 <;> simp [tS2]
  | true =>
    have hg : goes m M Ws d = false := by unfold goes; rw [hb]; rfl
    unfold playS
    rw [hg]
    have h0 := h.obj
    have h1 := m_market B (n + 6) h
    have h2 := m_wishes B (n + 6) h
    have e2 : bfun S .len [mk M] = some (.int M.length) := by simp [mk_def]
    have c1 := m_check_market B n M hM S
    have s34 : P.sub 3 4 = some false := hsub _ _ _ rfl
    have s36 : P.sub 3 6 = some false := hsub _ _ _ rfl
    have s35 : P.sub 3 5 = some false := hsub _ _ _ rfl
    have s37 : P.sub 3 7 = some false := hsub _ _ _ rfl
    have s38 : P.sub 3 8 = some false := hsub _ _ _ rfl
    have s33 : P.sub 3 3 = some true := hsub _ _ _ rfl
    have s94 : P.sub 9 4 = some false := hsub _ _ _ rfl
    have s96 : P.sub 9 6 = some false := hsub _ _ _ rfl
    have s95 : P.sub 9 5 = some false := hsub _ _ _ rfl
    have s97 : P.sub 9 7 = some false := hsub _ _ _ rfl
    have s98 : P.sub 9 8 = some false := hsub _ _ _ rfl
    have s93 : P.sub 9 3 = some false := hsub _ _ _ rfl
    have s99 : P.sub 9 9 = some true := hsub _ _ _ rfl
    rw [run_at hp rfl]
    cases d with
    | come r =>
      simp only [barred, decide_eq_true_eq] at hb
      have c2 := m_check_row B (n + 1) M hM.ok hM.ne (by have := hM.th; omega) r hd S
      simp at c2
      have f28 : run P (n + 7) 28 [mk M, .tup (r.map .int)] S = .ex 9 none S := by
        rw [B.b28]
        simp [k95b28, c1, c2, e2, hb, B.g1]
      have f38 : run P (n + 8) 38 [.ref q, .tup (r.map .int)] S = .ex 9 none S := by
        rw [B.b38]
        simp [k95b38, h0, h1, h2, f28]
      simp only [k95b49, rho0, deedD]
      cases nm <;> simp [h0, f38, tryH, s94, s96, s95, s97, s98, s93, s99, heval, dueX, hb]
    | go b =>
      simp only [barred, decide_eq_true_eq] at hb
      have c2 := m_check_buyer B (n + 2) M b hd S
      have f29 : run P (n + 7) 29 [mk M, .int b] S = .ex 3 (some (.int b)) S := by
        rw [B.b29]
        simp [k95b29, c1, c2, e2, hb]
      have f39 : run P (n + 8) 39 [.ref q, .int b] S = .ex 3 (some (.int b)) S := by
        rw [B.b39]
        simp [k95b39, h0, h1, h2, f29]
      simp only [k95b49, rho0, deedD]
      cases nm <;> simp [h0, f39, tryH, s34, s36, s35, s37, s38, s33, heval, dueX, hb]
    | put _ _ _ => simp [barred] at hb
    | lift _ => simp [barred] at hb
    | wish _ => simp [barred] at hb
end
theorem strOk_many : PyData.strOk "many" = true := by decide +kernel
theorem strOk_now : PyData.strOk "now" = true := by decide +kernel
theorem strOk_broken' : PyData.strOk "broken" = true := by decide +kernel
theorem plD_tD' (br : List Nat) : plD 3 (tD br) = true := by
  cases br with
  | nil => rfl
  | cons i r => simp [tD, plD, strOk_broken']
theorem plD_due (m : Nat) (M : Mk) (Ws : List Wish) (d : Deed) : plD 3 (dueX m M Ws d) = true := by
  cases d with
  | come r =>
    simp only [dueX]
    split
    · simp [plD, strOk_many]
    · exact plD_tD' _
  | go b =>
    simp only [dueX]
    split
    · simp [plD, strOk_now]
    · exact plD_tD' _
  | _ => exact plD_tD' _
theorem playS_site {m : Nat} {S : Store} {q : Nat} {past : List D} {M : Mk} {Ws : List Wish} (h : SiteAt S q past M Ws) (d : Deed) : SiteAt (playS m S q past M Ws d) q (if goes m M Ws d then past ++ [.tup [mk M, wsD Ws]] else past) (nxtX m M Ws d).1 (nxtX m M Ws d).2 := by
  unfold playS nxtX
  cases hg : goes m M Ws d with
  | true =>
    have hq : q < S.length := (List.getElem?_eq_some_iff.mp h).1
    simp [SiteAt, hq]
  | false => simpa using h
theorem playS_pool {m : Nat} {S : Store} {q p : Nat} (hp : PoolAt S p) (hq : q ≠ p) (past : List D) (M : Mk) (Ws : List Wish) (d : Deed) : PoolAt (playS m S q past M Ws d) p := by
  unfold playS
  split
  · obtain ⟨a, b, c, e⟩ := hp
    exact ⟨a, b, c, by rw [List.getElem?_set_ne hq]; exact e⟩
  · exact hp
theorem nxtX_ok {m : Nat} {M : Mk} {Ws : List Wish} (h : Mkt m M) (hw : ∀ w ∈ Ws, wok' m w) (hb : brk m M Ws = []) {d : Deed} (hd : dok m M Ws d) : Mkt m (nxtX m M Ws d).1 ∧ (∀ w ∈ (nxtX m M Ws d).2, wok' m w) ∧ (nxtX m M Ws d).2.length ≤ Ws.length + 1 ∧ brk m (nxtX m M Ws d).1 (nxtX m M Ws d).2 = [] := by
  unfold nxtX
  cases hg : goes m M Ws d with
  | true =>
    unfold goes at hg
    simp only [Bool.and_eq_true, Bool.not_eq_true', decide_eq_true_eq] at hg
    obtain ⟨k1, k2, k3⟩ := nxt_ok h hw (dok2_of h hd hg.1)
    exact ⟨k1, k2, k3, hg.2⟩
  | false => exact ⟨h, hw, by simp, hb⟩
end G
set_option maxHeartbeats 1000000
namespace G
open PySem L2
/-- the law's end, from what one world gives -/
theorem law_of {P : Pg} (L : LawB P) {i r : Nat} (hl : P.fn i = some ⟨1, 2, [.ret (.bi .all [.lc [1] (.name 1) .range1 [.bi .max2 [.con (.int 1), .bi .min2 [.bi .len [.var 0], .con (.int 2)]]] [] (.call r [.call 46 [.var 0, .var 1]])])]⟩) (n : Nat) (hr : ∀ (S : Store) (p : Nat), PoolAt S p → ∃ S', run P (n + 1) r [.ref p] S = .ok (.bl true) S') (ns : List Int) : ∃ S', run P (n + 2) i [.kl (ns.map .int)] [] = .ok (.bl true) S' := by
  have hW : W (run P (n + 2) i [.kl (ns.map .int)] []) fun d _ => d = .bl true := by
    rw [run_at hl rfl]
    obtain ⟨k, hk, hk2⟩ : ∃ k : Nat, (if (1 : Int) < (if (2 : Int) < ns.length then 2 else (ns.length : Int)) then (if (2 : Int) < ns.length then 2 else (ns.length : Int)) else 1) = (k : Int) ∧ k ≤ 2 := by
      by_cases h : ns.length ≤ 1
      · refine ⟨1, ?_, by omega⟩
        rw [if_neg (by split <;> omega)]; rfl
      · refine ⟨2, ?_, by omega⟩
        rw [if_pos (by split <;> omega)]
        split <;> omega
    have hrg := it_range1 k (by omega)
    rw [← hk] at hrg
    simp [rho0]
    rw [hrg]
    simp
    refine W_draw (fun i : Nat => D.int i) (fun b : Bool => .bl b) (fun _ => True) (fun b => b = true) (List.range k) (by simp; omega) trivial (fun lap hlap S1 _ => ⟨_, rfl, by simp, ?_⟩) fun bs S1 _ hG _ => ?_
    · have hlap := List.mem_range.mp hlap
      obtain ⟨S2, f1, hp⟩ := m_pool L n S1 ns lap (by omega)
      obtain ⟨S3, f2⟩ := hr S2 _ hp
      simp [f1, f2]
    · have := b_all S1 (fun b : Bool => b) bs
      rw [this]
      simp
      exact fun z => by have := hG _ z; cases this
  obtain ⟨d, S', e, rfl⟩ := hW.out
  exact ⟨S', e⟩
end G
set_option maxHeartbeats 1000000
namespace G
open PySem L2
theorem toPy_pl : ∀ (k : Nat) (d : D), plD k d = true → ∃ p, toPy d = some p ∧ PyData.canLay0 p = true ∧ PyData.depth p ≤ k
  | 0, _, h => by cases h
  | k + 1, d, h => by
    have lst : ∀ xs : List D, (∀ x ∈ xs, plD k x = true) → ∃ ps, toPys xs = some ps ∧ ps.length = xs.length ∧ PyData.canLayAll0 ps = true ∧ PyData.depthAll ps ≤ k := by
      intro xs
      induction xs with
      | nil => intro _; exact ⟨[], rfl, rfl, rfl, by simp [PyData.depthAll]⟩
      | cons x xs ih =>
        intro hx
        obtain ⟨ps, a1, a2, a3, a4⟩ := ih fun y hy => hx y (List.mem_cons_of_mem _ hy)
        obtain ⟨p, b1, b2, b3⟩ := toPy_pl k x (hx x List.mem_cons_self)
        exact ⟨p :: ps, by simp [toPys, a1, b1], by simp [a2], by simp [PyData.canLayAll0, a3, b2], by simp [PyData.depthAll]; omega⟩
    cases d with
    | non => exact ⟨_, rfl, rfl, by simp [PyData.depth]⟩
    | bl b => exact ⟨_, rfl, rfl, by simp [PyData.depth]⟩
    | int i => exact ⟨_, rfl, rfl, by simp [PyData.depth]⟩
    | str s => exact ⟨_, rfl, h, by simp [PyData.depth]⟩
    | tup xs =>
      simp only [plD, Bool.and_eq_true, List.all_eq_true, decide_eq_true_eq] at h
      obtain ⟨ps, a1, a2, a3, a4⟩ := lst xs h.1
      exact ⟨.tuple ps, by simp [toPy, a1], by simpa [PyData.canLay0] using a3, by simp [PyData.depth]; omega⟩
    | lst xs =>
      simp only [plD, Bool.and_eq_true, List.all_eq_true, decide_eq_true_eq] at h
      obtain ⟨ps, a1, a2, a3, a4⟩ := lst xs h.1
      exact ⟨.list ps, by simp [toPy, a1], by simpa [PyData.canLay0] using a3, by simp [PyData.depth]; omega⟩
    | _ => cases h
theorem ne_nilP (S : Store) (xs : List D) (h : plD 9 (.lst xs) = true) : cmpop S .ne (.lst xs) (.lst []) = some (decide (xs ≠ [])) := by
  obtain ⟨p, h1, h2, h3⟩ := toPy_pl 9 (.lst xs) h
  have hl : ∃ ps, toPys xs = some ps ∧ p = .list ps := by
    simp only [toPy, Option.map_eq_some_iff] at h1
    obtain ⟨ps, a, b⟩ := h1
    exact ⟨ps, a, b.symm⟩
  obtain ⟨ps, hps, rfl⟩ := hl
  have hlen : ∀ (xs : List D) (ps : List PyData), toPys xs = some ps → ps.length = xs.length := by
    intro xs
    induction xs with
    | nil => intro ps e; cases e; rfl
    | cons x xs ih =>
      intro ps e
      simp only [toPys] at e
      split at e
      · rename_i q qs e1 e2
        cases e
        simp [ih _ e2]
      · cases e
  have h4 := hlen xs ps hps
  show (pyEq (.lst xs) (.lst [])).map (!·) = _
  have hf : fine (.list ps) = true := by
    simp only [fine, SeqAt.shaped, h2, Bool.true_and, decide_eq_true_eq]; omega
  have hf0 : fine (.list []) = true := by simp [fine, SeqAt.shaped, PyData.canLay0, PyData.canLayAll0, PyData.depth, PyData.depthAll]
  simp only [pyEq, toPy, toPys, hps, Option.map_some, hf, hf0, Bool.and_self, if_true]
  cases ps with
  | nil =>
    have : xs = [] := List.length_eq_zero_iff.mp h4.symm
    subst this
    simp [PyData.eqv, PyData.eqvAll]
  | cons p ps =>
    have : xs ≠ [] := fun e => by subst e; simp at h4
    simp [PyData.eqv, PyData.eqvAll, this]
def stD (x : Mk × List Wish) : D := .tup [mk x.1, wsD x.2]
def nothD : D := .tup [.str "nothing", .non]
theorem strOk_nothing : PyData.strOk "nothing" = true := by decide +kernel
theorem plD_noth : plD 3 nothD = true := by simp [nothD, plD, strOk_nothing]
section
variable {P : Pg} (B : Base P) (hp : P.fn 49 = some ⟨3, 5, k95b49⟩) (hsub : ∀ a b v, k95P.pg.sub a b = some v → P.sub a b = some v)
include B hp hsub
theorem m_play_undo0 (n : Nat) {S : Store} {q : Nat} {M : Mk} {Ws : List Wish} (h : SiteAt S q [] M Ws) : run P (n + 2) 49 [.ref q, .tup [.str "undo"], .bl false] S = .ok nothD S := by
  have h0 := h.obj
  have s4 : P.sub 10 4 = some false := hsub _ _ _ rfl
  have s6 : P.sub 10 6 = some false := hsub _ _ _ rfl
  have s5 : P.sub 10 5 = some false := hsub _ _ _ rfl
  have s7 : P.sub 10 7 = some false := hsub _ _ _ rfl
  have s8 : P.sub 10 8 = some false := hsub _ _ _ rfl
  have s3 : P.sub 10 3 = some false := hsub _ _ _ rfl
  have s9 : P.sub 10 9 = some false := hsub _ _ _ rfl
  have s10 : P.sub 10 10 = some true := hsub _ _ _ rfl
  have f42 : run P (n + 1) 42 [.ref q] S = .ex 10 none S := by
    rw [B.b42]
    simp [k95b42, h0]
  rw [run_at hp rfl]
  simp only [k95b49, rho0]
  simp [h0, f42, tryH, s4, s6, s5, s7, s8, s3, s9, s10, heval, nothD]
end
theorem head_app {α : Type} (l : List α) (x : α) (h : l ≠ []) : (l ++ [x]).head? = l.head? := by
  cases l with
  | nil => exact absurd rfl h
  | cons => rfl
theorem exs_ife1 {ev : Ev} {ρ : Rho} {S S1 : Store} {c : E} {A B r : List G.S} {b : Bool} {Q R : Res → Store → Prop} (h : evalE ev ρ c S = .ok (.bl b) S1) (k : W (execs ev ρ (if b then A else B) S1) R) (kr : ∀ x S2, R x S2 → ∃ ρ', x = .nx ρ' ∧ W (execs ev ρ' r S2) Q) : W (execs ev ρ (.ife c A B :: r) S) Q := by
  have hk : W (exec ev ρ (.ife c A B) S) R := by
    rw [ex_ife, h, ob_ok]
    cases b <;> exact k
  rw [exs_cons, W_bind]
  refine W.imp hk fun x S2 hx => ?_
  obtain ⟨ρ', rfl, hw⟩ := kr x S2 hx
  exact hw
theorem exs_for3 {ev : Ev} {ρ : Rho} {S S1 : Store} {tg : Tg} {kk : ItK} {it : List E} {body r : List G.S} {ds xs : List D} {Q R : Res → Store → Prop} (h : evalEs ev ρ it S = .ok ds S1) (h2 : itemsOf kk ds = some xs) (k : W (loopF tg (fun ρ' S' => execs ev ρ' body S') xs ρ S1) R) (kr : ∀ x S2, R x S2 → ∃ ρ', x = .nx ρ' ∧ W (execs ev ρ' r S2) Q) : W (execs ev ρ (.for_ tg kk it body :: r) S) Q := by
  rw [exs_cons, exs_for, h]
  simp only [ob_ok, h2, W_bind]
  refine W.imp k fun x S2 hx => ?_
  obtain ⟨ρ', rfl, hw⟩ := kr x S2 hx
  exact hw
end G
set_option maxHeartbeats 1000000
namespace G
open PySem L2
/-! ### things of any kind: what the program's checks say of them -/
/-- a plain value: nothing that changes, no def -/
def pk : D → Bool
  | .non => true
  | .bl _ => true
  | .int _ => true
  | .str _ => true
  | .tup _ => true
  | .lst _ => true
  | .dct false _ _ => true
  | _ => false
@[simp] theorem isTy_d0 (ks vs) : isTy .int (.dct false ks vs) = some false := (rfl)
@[simp] theorem isTy_d1 (ks vs) : isTy .tup (.dct false ks vs) = some false := (rfl)
@[simp] theorem isTy_d2 (ks vs) : isTy .lst (.dct false ks vs) = some false := (rfl)
@[simp] theorem isTy_d3 (ks vs) : isTy .str (.dct false ks vs) = some false := (rfl)
@[simp] theorem isTy_d4 (ks vs) : isTy .bool (.dct false ks vs) = some false := (rfl)
@[simp] theorem isTy_d5 (ks vs) : isTy .dct (.dct false ks vs) = some true := (rfl)
theorem W_mapI {tg : Tg} {ρ : Rho} {T : Rho → Store → Out Bool} {F : Rho → Store → Out D} {S1 : Store} {Q : List D → Store → Prop} (v : D → D) (zs : List D) (hl : zs.length ≤ 1000000) (h : ∀ z ∈ zs, ∃ ρ', putTg S1 ρ tg z = some ρ' ∧ T ρ' S1 = .ok true S1 ∧ F ρ' S1 = .ok (v z) S1) (q : Q (zs.map v) S1) :
    W (compL tg ρ T F [] zs S1) Q := by
  have := W_map (fun x : D => x) v zs hl h q
  rwa [List.map_id'] at this
def isI : D → Bool
  | .int _ => true
  | _ => false
def btw (l h : Int) : D → Bool
  | .int i => decide (l ≤ i ∧ i ≤ h)
  | _ => false
def tupN (k : Int) : D → Bool
  | .tup xs => decide ((xs.length : Int) = k)
  | _ => false
def isRow (k : Int) : D → Bool
  | .tup xs => decide ((xs.length : Int) = k) && xs.all (btw 0 99)
  | _ => false
/-- a row, looked at -/
def okRow : D → Bool
  | .tup xs => decide (xs.length ≤ 1000) && xs.all pk
  | d => pk d
section
variable {P : Pg} (B : Base P)
include B
theorem g_is_whole (n : Nat) (d : D) (hd : pk d = true) (S : Store) : run P (n + 1) 0 [d] S = .ok (.bl (isI d)) S := by
  rw [B.b0, W_eq]
  cases d with
  | dct t _ _ =>
    cases t with
    | false => simp [k95b0, isI]
    | true => cases hd
  | kt _ => cases hd
  | kl _ => cases hd
  | ref _ => cases hd
  | fn _ => cases hd
  | _ => simp [k95b0, isI]
theorem g_is_between (n : Nat) (d : D) (hd : pk d = true) (l h : Int) (S : Store) : run P (n + 2) 1 [d, .int l, .int h] S = .ok (.bl (btw l h d)) S := by
  have h0 := g_is_whole B n d hd S
  cases d <;> (try (cases hd; done)) <;> first
    | exact m_is_between B n _ l h S
    | (rw [B.b1, W_eq]; simp only [isI] at h0; simp [k95b1, h0, btw])
theorem g_is_tuple_of (n : Nat) (d : D) (hd : pk d = true) (k : Int) (S : Store) : run P (n + 1) 2 [d, .int k] S = .ok (.bl (tupN k d)) S := by
  cases d with
  | tup xs => exact m_is_tuple_of B n _ k S
  | dct t _ _ =>
    cases t with
    | false => rw [B.b2, W_eq]; simp [k95b2, tupN]
    | true => cases hd
  | kt _ => cases hd
  | kl _ => cases hd
  | ref _ => cases hd
  | fn _ => cases hd
  | _ => rw [B.b2, W_eq]; simp [k95b2, tupN]
theorem g_is_worth (n : Nat) (d : D) (hd : pk d = true) (S : Store) : run P (n + 3) 3 [d] S = .ok (.bl (btw 0 99 d)) S := by
  rw [B.b3, W_eq]; simp [k95b3, B.g3, g_is_between B n d hd 0 99 S]
theorem g_is_row (n : Nat) (k : Int) (d : D) (hd : okRow d = true) (S : Store) : run P (n + 4) 4 [.int k, d] S = .ok (.bl (isRow k d)) S := by
  have hp : pk d = true := by cases d <;> first | exact hd | rfl
  have h0 := g_is_tuple_of B (n + 2) d hp k S
  rw [B.b4, W_eq]
  cases d with
  | tup xs =>
    simp only [okRow, Bool.and_eq_true, decide_eq_true_eq, List.all_eq_true] at hd
    simp only [tupN] at h0
    by_cases hl : (xs.length : Int) = k
    · rw [decide_eq_true hl] at h0
      simp [k95b4, h0]
      refine W_mapI (tg := .name 2) (fun x => .bl (btw 0 99 x)) xs (by omega) (fun z hz => ⟨_, rfl, by simp, by simp [g_is_worth B n z (hd.2 z hz)]⟩) ?_
      simp [isRow, hl]
    · rw [decide_eq_false hl] at h0
      simp [k95b4, h0, hl, isRow]
  | kt _ => cases hd
  | kl _ => cases hd
  | ref _ => cases hd
  | fn _ => cases hd
  | _ => simp only [tupN] at h0; simp [k95b4, h0, isRow]
theorem g_is_thing {m : Nat} (n : Nat) (M : Mk) (h : mkOk m M) (h1 : M ≠ []) (d : D) (hd : pk d = true) (S : Store) : run P (n + 3) 11 [mk M, d] S = .ok (.bl (btw 0 ((m : Int) - 1) d)) S := by
  obtain ⟨r, R, rfl, hr⟩ := idx0 B h h1
  rw [B.b11, W_eq]; simp [k95b11, mk_def, hr, g_is_between B n d hd]
theorem g_is_buyer (n : Nat) (M : Mk) (d : D) (hd : pk d = true) (S : Store) : run P (n + 3) 12 [mk M, d] S = .ok (.bl (btw 0 ((M.length : Int) - 1) d)) S := by
  rw [B.b12, W_eq]; simp [k95b12, mk_def, g_is_between B n d hd]
theorem g_check_buyer (n : Nat) (M : Mk) (d : D) (hd : pk d = true) (hb : btw 0 ((M.length : Int) - 1) d = false) (S : Store) : run P (n + 4) 23 [mk M, d] S = .ex 4 (some d) S := by
  have h0 := g_is_buyer B n M d hd S
  rw [hb] at h0
  rw [B.b23]; simp [k95b23, h0]
theorem g_check_thing {m : Nat} (n : Nat) (M : Mk) (h : mkOk m M) (h1 : M ≠ []) (d : D) (hd : pk d = true) (hb : btw 0 ((m : Int) - 1) d = false) (S : Store) : run P (n + 4) 24 [mk M, d] S = .ex 4 (some d) S := by
  have h0 := g_is_thing B n M h h1 d hd S
  rw [hb] at h0
  rw [B.b24]; simp [k95b24, h0]
theorem g_check_row {m : Nat} (n : Nat) (M : Mk) (h : mkOk m M) (h1 : M ≠ []) (d : D) (hd : okRow d = true) (hb : isRow m d = false) (S : Store) : run P (n + 5) 25 [mk M, d] S = .ex 5 (some d) S := by
  obtain ⟨q, R, e, hq⟩ := idx0 B h h1
  have e1 : index S (mk M) (.int 0) = some (mrow q) := by rw [e]; simp [mk_def]
  have h0 := g_is_row B n m d hd S
  rw [hb] at h0
  rw [B.b25]; simp [k95b25, e1, hq, h0]
theorem g_check_number (n : Nat) (d : D) (hd : pk d = true) (l h : Int) (hb : btw l h d = false) (S : Store) : run P (n + 3) 26 [d, .int l, .int h] S = .ex 6 (some d) S := by
  have h0 := g_is_between B n d hd l h S
  rw [hb] at h0
  rw [B.b26]; simp [k95b26, h0]
end
end G
set_option maxHeartbeats 1000000
namespace G
open PySem L2
def isMktD : D → Bool
  | .tup (.tup r :: R) => decide (R.length + 1 ≤ 5) && (decide (1 ≤ r.length ∧ r.length ≤ 5) && (D.tup r :: R).all (isRow r.length))
  | _ => false
/-- a market, looked at -/
def okMkt : D → Bool
  | .tup xs => decide (xs.length ≤ 1000) && xs.all okRow
  | d => pk d
theorem okRow_pk {d : D} (h : okRow d = true) : pk d = true := by cases d <;> first | exact h | rfl
theorem isTy_tup_pk {d : D} (h : pk d = true) (hn : ∀ xs, d ≠ .tup xs) : isTy .tup d = some false := by
  cases d with
  | tup xs => exact absurd rfl (hn xs)
  | dct t _ _ =>
    cases t with
    | false => rfl
    | true => cases h
  | kt _ => cases h
  | kl _ => cases h
  | ref _ => cases h
  | fn _ => cases h
  | _ => rfl
section
variable {P : Pg} (B : Base P)
include B
theorem g_is_market (n : Nat) (d : D) (hd : okMkt d = true) (S : Store) : run P (n + 5) 5 [d] S = .ok (.bl (isMktD d)) S := by
  by_cases ht : ∃ xs, d = .tup xs
  · obtain ⟨xs, rfl⟩ := ht
    simp only [okMkt, Bool.and_eq_true, decide_eq_true_eq, List.all_eq_true] at hd
    cases xs with
    | nil => rw [B.b5, W_eq]; simp [k95b5, B.g1, isMktD]
    | cons x R =>
      have hx := hd.2 x List.mem_cons_self
      have hlen : R.length + 1 ≤ 1000 := hd.1
      by_cases hR : R.length + 1 ≤ 5
      · have c1 : ((1 : Int) ≤ (R.length : Int) + 1) := by omega
        have c2 : ((R.length : Int) + 1 ≤ 5) := by omega
        by_cases hr : ∃ r, x = .tup r
        · obtain ⟨r, rfl⟩ := hr
          by_cases hl : 1 ≤ r.length ∧ r.length ≤ 5
          · have c3 : ((1 : Int) ≤ (r.length : Int)) := by omega
            have c4 : ((r.length : Int) ≤ 5) := by omega
            rw [B.b5, W_eq]
            simp [k95b5, B.g1, B.g2, c1, c2, c3, c4]
            refine W_mapI (tg := .name 2) (fun z => .bl (isRow r.length z)) (D.tup r :: R) (by simp; omega) (fun z hz => ⟨_, rfl, by simp, by simp [g_is_row B n r.length z (hd.2 z hz)]⟩) ?_
            have := b_all S (fun z => isRow r.length z) (D.tup r :: R)
            simp at this
            simp [isMktD, hR, hl, this]
          · rw [B.b5, W_eq]
            have : decide (1 ≤ r.length ∧ r.length ≤ 5) = false := by simpa using hl
            simp only [isMktD, this]
            by_cases c3 : (1 : Int) ≤ (r.length : Int)
            · have c4 : ¬ ((r.length : Int) ≤ 5) := by omega
              simp [k95b5, B.g1, B.g2, c1, c2, c3, c4]
            · simp [k95b5, B.g1, B.g2, c1, c2, c3]
        · have e := isTy_tup_pk (okRow_pk hx) (fun r h => hr ⟨r, h⟩)
          have e2 : isMktD (.tup (x :: R)) = false := by
            cases x <;> first | rfl | exact absurd ⟨_, rfl⟩ hr
          rw [e2, B.b5, W_eq]
          simp [k95b5, B.g1, B.g2, c1, c2, e]
      · have c2 : ¬ ((R.length : Int) + 1 ≤ 5) := by omega
        have e2 : isMktD (.tup (x :: R)) = false := by
          cases x <;> simp [isMktD]
          omega
        have c1 : ((1 : Int) ≤ (R.length : Int) + 1) := by omega
        rw [e2, B.b5, W_eq]
        simp [k95b5, B.g1, B.g2, c1, c2]
  · have hp : pk d = true := by
      cases d <;> first | exact hd | exact absurd ⟨_, rfl⟩ ht
    have e := isTy_tup_pk hp (fun r h => ht ⟨r, h⟩)
    have e2 : isMktD d = false := by
      cases d <;> first | rfl | exact absurd ⟨_, rfl⟩ ht
    rw [e2, B.b5, W_eq]
    simp [k95b5, e]
theorem g_check_market (n : Nat) (d : D) (hd : okMkt d = true) (hb : isMktD d = false) (S : Store) : run P (n + 6) 22 [d] S = .ex 2 (some d) S := by
  have h0 := g_is_market B n d hd S
  rw [hb] at h0
  rw [B.b22]; simp [k95b22, h0]
theorem g_init (n : Nat) (d : D) (hd : okMkt d = true) (hb : isMktD d = false) (S : Store) (q : Nat) : run P (n + 7) 33 [.ref q, d] S = .ex 2 (some d) S := by
  have h0 := g_check_market B n d hd hb S
  rw [B.b33]; simp [k95b33, h0]
end
end G
set_option maxHeartbeats 1000000
namespace G
open PySem L2
section
variable {P : Pg} (B : Base P)
include B
/-! ### deeds with a wrong argument -/
theorem g_put_b {m : Nat} (n : Nat) {S : Store} {q : Nat} {past : List D} {M : Mk} {Ws : List Wish} (h : SiteAt S q past M Ws) (hM : Mkt m M) (b t w : D) (hb : pk b = true) (hb' : btw 0 ((M.length : Int) - 1) b = false) :
    run P (n + 8) 37 [.ref q, b, t, w] S = .ex 4 (some b) S := by
  have h0 := h.obj
  have h1 := m_market B (n + 6) h
  have c1 := m_check_market B n M hM S
  have c2 := g_check_buyer B (n + 2) M b hb hb' S
  have h3 : run P (n + 7) 27 [mk M, b, t, w] S = .ex 4 (some b) S := by
    rw [B.b27]; simp [k95b27, c1, c2]
  rw [B.b37]
  simp [k95b37, h0, h1, h3]
theorem g_put_t {m : Nat} (n : Nat) {S : Store} {q : Nat} {past : List D} {M : Mk} {Ws : List Wish} (h : SiteAt S q past M Ws) (hM : Mkt m M) (b : Nat) (t w : D) (hb : b < M.length) (ht : pk t = true) (ht' : btw 0 ((m : Int) - 1) t = false) :
    run P (n + 8) 37 [.ref q, .int b, t, w] S = .ex 4 (some t) S := by
  have h0 := h.obj
  have h1 := m_market B (n + 6) h
  have c1 := m_check_market B n M hM S
  have c2 := m_check_buyer B (n + 2) M b hb S
  have c3 := g_check_thing B (n + 2) M hM.ok hM.ne t ht ht' S
  have h3 : run P (n + 7) 27 [mk M, .int b, t, w] S = .ex 4 (some t) S := by
    rw [B.b27]; simp [k95b27, c1, c2, c3]
  rw [B.b37]
  simp [k95b37, h0, h1, h3]
theorem g_put_n {m : Nat} (n : Nat) {S : Store} {q : Nat} {past : List D} {M : Mk} {Ws : List Wish} (h : SiteAt S q past M Ws) (hM : Mkt m M) (b t : Nat) (w : D) (hb : b < M.length) (ht : t < m) (hw : pk w = true) (hw' : btw 0 99 w = false) :
    run P (n + 8) 37 [.ref q, .int b, .int t, w] S = .ex 6 (some w) S := by
  have h0 := h.obj
  have h1 := m_market B (n + 6) h
  have c1 := m_check_market B n M hM S
  have c2 := m_check_buyer B (n + 2) M b hb S
  have c3 := m_check_thing B (n + 2) M hM.ok hM.ne t ht S
  have c4 := g_check_number B (n + 3) w hw 0 99 hw' S
  have h3 : run P (n + 7) 27 [mk M, .int b, .int t, w] S = .ex 6 (some w) S := by
    rw [B.b27]; simp [k95b27, c1, c2, c3, c4, B.g3]
  rw [B.b37]
  simp [k95b37, h0, h1, h3]
theorem g_come {m : Nat} (n : Nat) {S : Store} {q : Nat} {past : List D} {M : Mk} {Ws : List Wish} (h : SiteAt S q past M Ws) (hM : Mkt m M) (r : D) (hr : okRow r = true) (hr' : isRow m r = false) :
    run P (n + 8) 38 [.ref q, r] S = .ex 5 (some r) S := by
  have h0 := h.obj
  have h1 := m_market B (n + 6) h
  have c1 := m_check_market B n M hM S
  have c2 := g_check_row B (n + 1) M hM.ok hM.ne r hr hr' S
  have h3 : run P (n + 7) 28 [mk M, r] S = .ex 5 (some r) S := by
    rw [B.b28]; simp [k95b28, c1, c2]
  rw [B.b38]
  simp [k95b38, h0, h1, h3]
theorem g_go {m : Nat} (n : Nat) {S : Store} {q : Nat} {past : List D} {M : Mk} {Ws : List Wish} (h : SiteAt S q past M Ws) (hM : Mkt m M) (b : D) (hb : pk b = true) (hb' : btw 0 ((M.length : Int) - 1) b = false) :
    run P (n + 8) 39 [.ref q, b] S = .ex 4 (some b) S := by
  have h0 := h.obj
  have h1 := m_market B (n + 6) h
  have c1 := m_check_market B n M hM S
  have c2 := g_check_buyer B (n + 2) M b hb hb' S
  have h3 : run P (n + 7) 29 [mk M, b] S = .ex 4 (some b) S := by
    rw [B.b29]; simp [k95b29, c1, c2]
  rw [B.b39]
  simp [k95b39, h0, h1, h3]
theorem g_wish (n : Nat) {S : Store} {q : Nat} {past : List D} {M : Mk} {Ws : List Wish} (h : SiteAt S q past M Ws) (w : D) (hw : run P (n + 7) 30 [mk M, w] S = .ok (.bl false) S) :
    run P (n + 8) 40 [.ref q, w] S = .ex 7 (some w) S := by
  have h0 := h.obj
  have h1 := m_market B (n + 6) h
  rw [B.b40]
  simp [k95b40, h0, h1, hw]
theorem g_lift (n : Nat) {S : Store} {q : Nat} {past : List D} {M : Mk} {Ws : List Wish} (h : SiteAt S q past M Ws) (k : D) (hk : pk k = true) (hk' : btw 0 ((Ws.length : Int) - 1) k = false) :
    run P (n + 8) 41 [.ref q, k] S = .ex 6 (some k) S := by
  have h0 := h.obj
  have h2 := m_wishes B (n + 6) h
  have h3 := g_check_number B (n + 4) k hk 0 ((Ws.length : Int) - 1) hk' S
  have e : bfun S .len [wsD Ws] = some (.int Ws.length) := by simp [wsD]
  rw [B.b41]
  simp [k95b41, h0, h2, h3, e]
end
end G
set_option maxHeartbeats 1000000
namespace G
open PySem L2
section
variable {P : Pg} (B : Base P) (hp : P.fn 49 = some ⟨3, 5, k95b49⟩) (hsub : ∀ a b v, k95P.pg.sub a b = some v → P.sub a b = some v)
include B hp hsub
/-! ### what a site tells of a wrong deed -/
theorem p_put_b {m : Nat} (n : Nat) {S : Store} {q : Nat} {past : List D} {M : Mk} {Ws : List Wish} (h : SiteAt S q past M Ws) (hM : Mkt m M) (b t w : D) (hb : pk b = true) (hb' : btw 0 ((M.length : Int) - 1) b = false) (nm : Bool) :
    run P (n + 9) 49 [.ref q, .tup [.str "put", b, t, w], .bl nm] S = .ok (.tup [.str "index", b]) S := by
  have h0 := h.obj
  have hr := g_put_b B n h hM b t w hb hb'
  have s44 : P.sub 4 4 = some true := hsub _ _ _ rfl
  rw [run_at hp rfl]
  simp only [k95b49, rho0]
  cases nm <;> simp [h0, hr, tryH, s44, heval]
theorem p_put_t {m : Nat} (n : Nat) {S : Store} {q : Nat} {past : List D} {M : Mk} {Ws : List Wish} (h : SiteAt S q past M Ws) (hM : Mkt m M) (b : Nat) (t w : D) (hb : b < M.length) (ht : pk t = true) (ht' : btw 0 ((m : Int) - 1) t = false) (nm : Bool) :
    run P (n + 9) 49 [.ref q, .tup [.str "put", .int b, t, w], .bl nm] S = .ok (.tup [.str "index", t]) S := by
  have h0 := h.obj
  have hr := g_put_t B n h hM b t w hb ht ht'
  have s44 : P.sub 4 4 = some true := hsub _ _ _ rfl
  rw [run_at hp rfl]
  simp only [k95b49, rho0]
  cases nm <;> simp [h0, hr, tryH, s44, heval]
theorem p_put_n {m : Nat} (n : Nat) {S : Store} {q : Nat} {past : List D} {M : Mk} {Ws : List Wish} (h : SiteAt S q past M Ws) (hM : Mkt m M) (b t : Nat) (w : D) (hb : b < M.length) (ht : t < m) (hw : pk w = true) (hw' : btw 0 99 w = false) (nm : Bool) :
    run P (n + 9) 49 [.ref q, .tup [.str "put", .int b, .int t, w], .bl nm] S = .ok (.tup [.str "number", w]) S := by
  have h0 := h.obj
  have hr := g_put_n B n h hM b t w hb ht hw hw'
  have s64 : P.sub 6 4 = some false := hsub _ _ _ rfl
  have s66 : P.sub 6 6 = some true := hsub _ _ _ rfl
  rw [run_at hp rfl]
  simp only [k95b49, rho0]
  cases nm <;> simp [h0, hr, tryH, s64, s66, heval]
theorem p_come {m : Nat} (n : Nat) {S : Store} {q : Nat} {past : List D} {M : Mk} {Ws : List Wish} (h : SiteAt S q past M Ws) (hM : Mkt m M) (r : D) (hr : okRow r = true) (hr' : isRow m r = false) (nm : Bool) :
    run P (n + 9) 49 [.ref q, .tup [.str "come", r], .bl nm] S = .ok (.tup [.str "row", r]) S := by
  have h0 := h.obj
  have hr := g_come B n h hM r hr hr'
  have s54 : P.sub 5 4 = some false := hsub _ _ _ rfl
  have s56 : P.sub 5 6 = some false := hsub _ _ _ rfl
  have s55 : P.sub 5 5 = some true := hsub _ _ _ rfl
  rw [run_at hp rfl]
  simp only [k95b49, rho0]
  cases nm <;> simp [h0, hr, tryH, s54, s56, s55, heval]
theorem p_go {m : Nat} (n : Nat) {S : Store} {q : Nat} {past : List D} {M : Mk} {Ws : List Wish} (h : SiteAt S q past M Ws) (hM : Mkt m M) (b : D) (hb : pk b = true) (hb' : btw 0 ((M.length : Int) - 1) b = false) (nm : Bool) :
    run P (n + 9) 49 [.ref q, .tup [.str "go", b], .bl nm] S = .ok (.tup [.str "index", b]) S := by
  have h0 := h.obj
  have hr := g_go B n h hM b hb hb'
  have s44 : P.sub 4 4 = some true := hsub _ _ _ rfl
  rw [run_at hp rfl]
  simp only [k95b49, rho0]
  cases nm <;> simp [h0, hr, tryH, s44, heval]
theorem p_wish {m : Nat} (n : Nat) {S : Store} {q : Nat} {past : List D} {M : Mk} {Ws : List Wish} (h : SiteAt S q past M Ws) (hM : Mkt m M) (w : D) (hw : run P (n + 7) 30 [mk M, w] S = .ok (.bl false) S) (nm : Bool) :
    run P (n + 9) 49 [.ref q, .tup [.str "wish", w], .bl nm] S = .ok (.tup [.str "wish", w]) S := by
  have h0 := h.obj
  have hr := g_wish B n h w hw
  have s74 : P.sub 7 4 = some false := hsub _ _ _ rfl
  have s76 : P.sub 7 6 = some false := hsub _ _ _ rfl
  have s75 : P.sub 7 5 = some false := hsub _ _ _ rfl
  have s77 : P.sub 7 7 = some true := hsub _ _ _ rfl
  rw [run_at hp rfl]
  simp only [k95b49, rho0]
  cases nm <;> simp [h0, hr, tryH, s74, s76, s75, s77, heval]
theorem p_lift {m : Nat} (n : Nat) {S : Store} {q : Nat} {past : List D} {M : Mk} {Ws : List Wish} (h : SiteAt S q past M Ws) (hM : Mkt m M) (k : D) (hk : pk k = true) (hk' : btw 0 ((Ws.length : Int) - 1) k = false) (nm : Bool) :
    run P (n + 9) 49 [.ref q, .tup [.str "lift", k], .bl nm] S = .ok (.tup [.str "number", k]) S := by
  have h0 := h.obj
  have hr := g_lift B n h k hk hk'
  have s64 : P.sub 6 4 = some false := hsub _ _ _ rfl
  have s66 : P.sub 6 6 = some true := hsub _ _ _ rfl
  rw [run_at hp rfl]
  simp only [k95b49, rho0]
  cases nm <;> simp [h0, hr, tryH, s64, s66, heval]
end
end G
set_option maxHeartbeats 1000000
namespace G
open PySem L2
theorem toPy_pg : ∀ (k : Nat) (d : D), plD k d = true → ∃ p, toPy d = some p ∧ PyData.canLay0 p = true ∧ PyData.depth p ≤ k
  | 0, _, h => by cases h
  | k + 1, d, h => by
    have lst : ∀ xs : List D, (∀ x ∈ xs, plD k x = true) → ∃ ps, toPys xs = some ps ∧ ps.length = xs.length ∧ PyData.canLayAll0 ps = true ∧ PyData.depthAll ps ≤ k := by
      intro xs
      induction xs with
      | nil => intro _; exact ⟨[], rfl, rfl, rfl, by simp [PyData.depthAll]⟩
      | cons x xs ih =>
        intro hx
        obtain ⟨ps, a1, a2, a3, a4⟩ := ih fun y hy => hx y (List.mem_cons_of_mem _ hy)
        obtain ⟨p, b1, b2, b3⟩ := toPy_pg k x (hx x List.mem_cons_self)
        exact ⟨p :: ps, by simp [toPys, a1, b1], by simp [a2], by simp [PyData.canLayAll0, a3, b2], by simp [PyData.depthAll]; omega⟩
    cases d with
    | non => exact ⟨_, rfl, rfl, by simp [PyData.depth]⟩
    | bl b => exact ⟨_, rfl, rfl, by simp [PyData.depth]⟩
    | int i => exact ⟨_, rfl, rfl, by simp [PyData.depth]⟩
    | str s => exact ⟨_, rfl, h, by simp [PyData.depth]⟩
    | tup xs =>
      simp only [plD, Bool.and_eq_true, List.all_eq_true, decide_eq_true_eq] at h
      obtain ⟨ps, a1, a2, a3, a4⟩ := lst xs h.1
      exact ⟨.tuple ps, by simp [toPy, a1], by simpa [PyData.canLay0] using a3, by simp [PyData.depth]; omega⟩
    | lst xs =>
      simp only [plD, Bool.and_eq_true, List.all_eq_true, decide_eq_true_eq] at h
      obtain ⟨ps, a1, a2, a3, a4⟩ := lst xs h.1
      exact ⟨.list ps, by simp [toPy, a1], by simpa [PyData.canLay0] using a3, by simp [PyData.depth]; omega⟩
    | _ => cases h
theorem ne_nilG (S : Store) (x : D) (xs : List D) (h : plD 9 (.tup (x :: xs)) = true) : cmpop S .eq (.tup (x :: xs)) (.tup []) = some false := by
  obtain ⟨p, h1, h2, h3⟩ := toPy_pg 9 (.tup (x :: xs)) h
  have hl : ∃ p0 ps, toPy x = some p0 ∧ toPys xs = some ps ∧ p = .tuple (p0 :: ps) := by
    simp only [toPy, Option.map_eq_some_iff] at h1
    obtain ⟨qs, a, b⟩ := h1
    simp only [toPys] at a
    split at a
    · rename_i q qs e1 e2
      cases a
      exact ⟨q, qs, e1, e2, b.symm⟩
    · cases a
  obtain ⟨p0, ps, e0, hps, rfl⟩ := hl
  show pyEq (.tup (x :: xs)) (.tup []) = _
  have hf : fine (.tuple (p0 :: ps)) = true := by
    simp only [fine, SeqAt.shaped, h2, Bool.true_and, decide_eq_true_eq]; omega
  have hf0 : fine (.tuple []) = true := by simp [fine, SeqAt.shaped, PyData.canLay0, PyData.canLayAll0, PyData.depth, PyData.depthAll]
  simp only [pyEq, toPy, toPys, e0, hps, Option.map_some, hf, hf0, Bool.and_self, if_true]
  simp [PyData.eqv, PyData.eqvAll]
section
variable {P : Pg} (B : Base P)
include B
/-! ### what is no wish -/
theorem w_not_tup (n : Nat) (M : Mk) (d : D) (hd : pk d = true) (hn : ∀ xs, d ≠ .tup xs) (S : Store) : run P (n + 4) 30 [mk M, d] S = .ok (.bl false) S := by
  have e := isTy_tup_pk hd hn
  rw [B.b30, W_eq]
  simp [k95b30, e]
theorem w_nil (n : Nat) (M : Mk) (S : Store) : run P (n + 4) 30 [mk M, .tup []] S = .ok (.bl false) S := by
  have e : cmpop S .eq (.tup []) (.tup []) = some true := by
    show pyEq (.tup []) (.tup []) = _
    simp [pyEq, toPy, toPys, fine, SeqAt.shaped, PyData.canLay0, PyData.canLayAll0, PyData.depth, PyData.depthAll, PyData.eqv, PyData.eqvAll]
  rw [B.b30, W_eq]
  simp [k95b30, e]
theorem w_nstr (n : Nat) (M : Mk) (x : D) (xs : List D) (h : plD 9 (.tup (x :: xs)) = true) (hx : isTy .str x = some false) (S : Store) : run P (n + 4) 30 [mk M, .tup (x :: xs)] S = .ok (.bl false) S := by
  have e := ne_nilG S x xs h
  rw [B.b30, W_eq]
  simp [k95b30, e, hx]
theorem w_word (n : Nat) (M : Mk) (s : Str) (xs : List D) (h : plD 9 (.tup (.str s :: xs)) = true) (hs : List.lookup s (k95P.pg.tab 0) = none) (S : Store) : run P (n + 4) 30 [mk M, .tup (.str s :: xs)] S = .ok (.bl false) S := by
  have e := ne_nilG S _ xs h
  rw [B.b30, W_eq]
  simp [k95b30, e, B.tab, hs]
theorem w_len (n : Nat) (M : Mk) (s : Str) (xs : List D) (k : Int) (h : plD 9 (.tup (.str s :: xs)) = true) (hs : List.lookup s (k95P.pg.tab 0) = some (.int k)) (hk : ((xs.length : Int) + 1) ≠ k) (S : Store) : run P (n + 4) 30 [mk M, .tup (.str s :: xs)] S = .ok (.bl false) S := by
  have e := ne_nilG S _ xs h
  rw [B.b30, W_eq]
  simp [k95b30, e, B.tab, hs, hk]
theorem w_served (n : Nat) (M : Mk) (d : D) (hd : pk d = true) (h : plD 9 (.tup [.str "served", d]) = true) (hb : btw 0 ((M.length : Int) - 1) d = false) (S : Store) : run P (n + 4) 30 [mk M, .tup [.str "served", d]] S = .ok (.bl false) S := by
  have e := ne_nilG S _ _ h
  have h0 := g_is_buyer B n M d hd S
  rw [hb] at h0
  rw [B.b30, W_eq]
  simp [k95b30, e, B.tab, lk_served, B.g6, B.g7, B.g4, h0]
theorem w_worth (n : Nat) (M : Mk) (d : D) (hd : pk d = true) (h : plD 9 (.tup [.str "worth", d]) = true) (hb : btw 0 999 d = false) (S : Store) : run P (n + 4) 30 [mk M, .tup [.str "worth", d]] S = .ok (.bl false) S := by
  have e := ne_nilG S _ _ h
  have h0 := g_is_between B (n + 1) d hd 0 999 S
  rw [hb] at h0
  rw [B.b30, W_eq]
  simp [k95b30, e, B.tab, lk_worth, B.g6, B.g7, B.g4, ixOf_last, h0]
theorem w_price (n : Nat) (M : Mk) (t d : D) (hd : pk d = true) (h : plD 9 (.tup [.str "price", t, d]) = true) (hb : btw 0 999 d = false) (S : Store) : run P (n + 4) 30 [mk M, .tup [.str "price", t, d]] S = .ok (.bl false) S := by
  have e := ne_nilG S _ _ h
  have h0 := g_is_between B (n + 1) d hd 0 999 S
  rw [hb] at h0
  rw [B.b30, W_eq]
  simp [k95b30, e, B.tab, lk_price, B.g6, B.g7, B.g4, ixOf_last, h0]
theorem w_price_t {m : Nat} (n : Nat) (M : Mk) (hM : mkOk m M) (h1 : M ≠ []) (t : D) (i : Int) (hi : 0 ≤ i ∧ i ≤ 999) (ht : pk t = true) (h : plD 9 (.tup [.str "price", t, .int i]) = true) (hb : btw 0 ((m : Int) - 1) t = false) (S : Store) : run P (n + 4) 30 [mk M, .tup [.str "price", t, .int i]] S = .ok (.bl false) S := by
  have e := ne_nilG S _ _ h
  have h0 := m_is_between B (n + 1) i 0 999 S
  rw [decide_eq_true hi] at h0
  have h2 := g_is_thing B n M hM h1 t ht S
  rw [hb] at h2
  rw [B.b30, W_eq]
  simp [k95b30, e, B.tab, lk_price, B.g6, B.g7, B.g4, ixOf_last, h0, h2]
end
end G
set_option maxHeartbeats 1000000
namespace G
open PySem L2
/-- plain things, also dicts of none or one entry -/
def plG : Nat → D → Bool
  | 0, _ => false
  | _ + 1, .non => true
  | _ + 1, .bl _ => true
  | _ + 1, .int _ => true
  | _ + 1, .str s => PyData.strOk s
  | k + 1, .tup xs => xs.all (plG k) && decide (xs.length ≤ 100000)
  | k + 1, .lst xs => xs.all (plG k) && decide (xs.length ≤ 100000)
  | _ + 1, .dct false [] [] => true
  | k + 1, .dct false [.str s] [v] => PyData.strOk s && plG k v
  | _, _ => false
@[simp] theorem len_dct (S : Store) (ks vs : List D) : bfun S .len [.dct false ks vs] = some (.int ks.length) := (rfl)
@[simp] theorem it_keys (t : Bool) (ks vs : List D) : itemsOf .keys [.dct t ks vs] = some ks := (rfl)
@[simp] theorem is_dct (S : Store) (ks vs : List D) : cmpop S .is_ (.dct false ks vs) .non = some false := (rfl)
theorem in_one (S : Store) (s : Str) (v : D) : cmpop S .in_ (.str s) (.dct false [.str s] [v]) = some true := by
  have h : cmpop S .in_ (.str s) (.dct false [.str s] [v]) = if (isKey false (.str s)) = true then some (dget [.str s] [v] (.str s)).isSome else none := rfl
  rw [h, show isKey false (.str s) = true from rfl]
  simp [dget, keq]
theorem get_one (s : Str) (v : D) : dget [.str s] [v] (.str s) = some v := by
  simp [dget, keq]
@[simp] theorem key_str (s : Str) : isKey false (.str s) = true := (rfl)
theorem m_alikeG {P : Pg} (hK : P.fn 50 = some ⟨2, 5, alikeB .keys⟩) : ∀ (k n : Nat) (d : D) (S : Store), plG k d = true → run P (n + k) 50 [d, d] S = .ok (.bl true) S
  | 0, n, d, S, h => by cases h
  | k + 1, n, d, S, h => by
    rw [show n + (k + 1) = (n + k) + 1 from rfl, run_at hK rfl, W_eq]
    cases d with
    | non => simp [alikeB, rho0]
    | bl b => simp [alikeB, rho0]
    | int i => simp [alikeB, rho0]
    | str s =>
      have hs : PyData.strOk s = true := h
      have : cmpop S .eq (.str s) (.str s) = some true := by rw [cmp_eqS, hs]; simp
      simp [alikeB, rho0, this]
    | tup xs =>
      simp only [plG, Bool.and_eq_true, List.all_eq_true, decide_eq_true_eq] at h
      simp [alikeB, rho0, it_zipTT]
      refine W_map (fun x : D => .tup [x, x]) (fun x => .bl true) xs (by omega) (fun z hz => ⟨_, rfl, by simp, ?_⟩) ?_
      · have := m_alikeG hK k n z S (h.1 z hz)
        simp [this]
      · have := b_all S (fun _ : D => true) xs
        rw [this]
        simp
    | lst xs =>
      simp only [plG, Bool.and_eq_true, List.all_eq_true, decide_eq_true_eq] at h
      simp [alikeB, rho0, it_zipLL]
      refine W_map (fun x : D => .tup [x, x]) (fun x => .bl true) xs (by omega) (fun z hz => ⟨_, rfl, by simp, ?_⟩) ?_
      · have := m_alikeG hK k n z S (h.1 z hz)
        simp [this]
      · have := b_all S (fun _ : D => true) xs
        rw [this]
        simp
    | dct t ks vs =>
      have hd : t = false ∧ ((ks = [] ∧ vs = []) ∨ ∃ s v, ks = [.str s] ∧ vs = [v] ∧ plG k v = true) := by
        unfold plG at h
        split at h <;> first
          | (cases h; done)
          | (rename_i e; cases e; done)
          | (rename_i e; cases e; exact ⟨rfl, .inl ⟨rfl, rfl⟩⟩)
          | (rename_i e1 e2; cases e1; cases e2; simp only [Bool.and_eq_true] at h; exact ⟨rfl, .inr ⟨_, _, rfl, rfl, h.2⟩⟩)
      obtain ⟨rfl, ⟨rfl, rfl⟩ | ⟨s, v, rfl, rfl, hv⟩⟩ := hd
      · simp [alikeB, rho0]
        refine W_mapI (tg := .name 2) (fun x => .bl true) [] (by simp) (fun z hz => by cases hz) ?_
        have := b_all S (fun _ : D => true) []
        simp at this
        simp [this]
      · have h1 := m_alikeG hK k n v S hv
        simp [alikeB, rho0]
        refine W_mapI (tg := .name 2) (fun x => .bl true) [.str s] (by simp) (fun z hz => ?_) ?_
        · rw [List.mem_singleton.mp hz]
          exact ⟨_, rfl, by simp, by simp [in_one, get_one, h1]⟩
        · have := b_all S (fun _ : D => true) [.str s]
          simp at this
          simp [this]
    | _ => cases h
end G
namespace G
open PySem
def k80b0 : List G.S := [.ret (.and (.isi [.int] (.var 0)) (.not (.isi [.bool] (.var 0))))]
/-- is_whole -/
def k80d0 : FnD := ⟨28, ["value"], 1, k80b0⟩
def k80b1 : List G.S := [.ret (.and (.call 0 [.var 0]) (.chn .le .le (.var 1) (.var 0) (.var 2)))]
/-- is_between -/
def k80d1 : FnD := ⟨35, ["value", "low", "high"], 3, k80b1⟩
def k80b2 : List G.S := [.ret (.and (.isi [.tup] (.var 0)) (.cmp .eq (.bi .len [.var 0]) (.var 1)))]
/-- is_tuple_of -/
def k80d2 : FnD := ⟨42, ["value", "many"], 2, k80b2⟩
def k80b3 : List G.S := [.ret (.call 1 [.var 0, .con (.int 0), .glo 3])]
/-- is_worth -/
def k80d3 : FnD := ⟨49, ["value"], 1, k80b3⟩
def k80b4 : List G.S := [.ret (.and (.call 2 [.var 1, .var 0]) (.bi .all [.lc [2] (.name 2) .over [.var 1] [] (.call 3 [.var 2])]))]
/-- is_row_by -/
def k80d4 : FnD := ⟨54, ["many", "value", "each"], 2, k80b4⟩
def k80b5 : List G.S := [.ife (.or (.not (.isi [.tup] (.var 0))) (.or (.not (.chn .le .le (.con (.int 1)) (.bi .len [.var 0]) (.glo 1))) (.not (.isi [.tup] (.idx (.var 0) (.con (.int 0))))))) [.ret (.con (.bl false))] [], .asg 1 (.bi .len [.idx (.var 0) (.con (.int 0))]), .ret (.and (.chn .le .le (.con (.int 1)) (.var 1) (.glo 2)) (.bi .all [.lc [2] (.name 2) .over [.var 0] [] (.call 4 [.var 1, .var 2])]))]
/-- is_market_by -/
def k80d5 : FnD := ⟨59, ["value", "many", "row"], 1, k80b5⟩
def k80b6 : List G.S := [.ret (.lrg [.bi .len [.idx (.var 0) (.con (.int 0))]])]
/-- things_of -/
def k80d6 : FnD := ⟨66, ["market"], 1, k80b6⟩
def k80b7 : List G.S := [.ret (.lrg [.bi .len [.var 0]])]
/-- buyers_of -/
def k80d7 : FnD := ⟨73, ["market"], 1, k80b7⟩
def k80b8 : List G.S := [.asg 4 (.idx (.var 0) (.var 1)), .ret (.bin .add (.bin .add (.slc (.var 0) [] [.var 1]) (.tup [.bin .add (.bin .add (.slc (.var 4) [] [.var 2]) (.tup [.var 3])) (.slc (.var 4) [.bin .add (.var 2) (.con (.int 1))] [])])) (.slc (.var 0) [.bin .add (.var 1) (.con (.int 1))] []))]
/-- with_worth_by -/
def k80d8 : FnD := ⟨80, ["market", "buyer", "thing", "worth", "row"], 4, k80b8⟩
def k80b9 : List G.S := [.ret (.bin .add (.slc (.var 0) [] [.var 1]) (.slc (.var 0) [.bin .add (.var 1) (.con (.int 1))] []))]
/-- without_buyer_by -/
def k80d9 : FnD := ⟨87, ["market", "buyer"], 2, k80b9⟩
def k80b10 : List G.S := [.ret (.bi .tuple [.lc [2] (.name 2) .over [.var 0] [] (.tup [.star (.var 2), .idx (.var 2) (.var 1)])])]
/-- twice_by -/
def k80d10 : FnD := ⟨92, ["market", "thing", "row"], 2, k80b10⟩
def k80b11 : List G.S := [.ret (.call 1 [.var 1, .con (.int 0), .bin .sub (.bi .len [.idx (.var 0) (.con (.int 0))]) (.con (.int 1))])]
/-- is_thing -/
def k80d11 : FnD := ⟨99, ["market", "value"], 2, k80b11⟩
def k80b12 : List G.S := [.ret (.call 1 [.var 1, .con (.int 0), .bin .sub (.bi .len [.var 0]) (.con (.int 1))])]
/-- is_buyer -/
def k80d12 : FnD := ⟨106, ["market", "value"], 2, k80b12⟩
def k80b13 : List G.S := [.ret (.bin .add (.lst [.con .non]) (.lc [2] (.name 2) .range1 [.var 1] [.cmp .eq (.bin .band (.bin .shr (.var 0) (.var 2)) (.con (.int 1))) (.con (.int 0))] (.var 2)))]
/-- choices -/
def k80d13 : FnD := ⟨111, ["mark", "many", "thing"], 2, k80b13⟩
def k80b14 : List G.S := [.ret (.ite (.cmp .is_ (.var 1) (.con .non)) (.var 0) (.bin .bor (.var 0) (.bin .shl (.con (.int 1)) (.var 1))))]
/-- mark_with -/
def k80d14 : FnD := ⟨118, ["mark", "thing"], 2, k80b14⟩
def k80b15 : List G.S := [.ret (.ite (.cmp .is_ (.var 1) (.con .non)) (.con (.int 0)) (.idx (.var 0) (.var 1)))]
/-- worth_to -/
def k80d15 : FnD := ⟨125, ["row", "thing"], 2, k80b15⟩
def k80b16 : List G.S := [.asg 1 (.call 6 [.var 0]), .asg 2 (.lrg [.bin .shl (.con (.int 1)) (.bi .len [.var 1])]), .own 3 (.lst [.dc [5] (.name 5) .over [.var 2] (.var 5) (.con (.int 0))]), .for_ (.name 4) .over [.rev (.var 0)] [.par2 6 7 false true (.idx (.bor 3) (.con (.int 0))) (.dct0 false), .for_ (.name 5) .over [.var 2] [.asg 8 (.call 13 [.var 5, .bi .len [.var 1]]), .setI 7 (.var 5) (.bi .max1 [.lc [9] (.name 9) .over [.var 8] [] (.bin .add (.call 15 [.var 4, .var 9]) (.idx (.var 6) (.call 14 [.var 5, .var 9])))])], .frz 7, .ins0 3 (.var 7)], .frz 3, .ret (.var 3)]
/-- rest_worths -/
def k80d16 : FnD := ⟨130, ["market", "many", "marks", "found", "row", "mark", "later", "here", "some", "thing"], 1, k80b16⟩
def k80b17 : List G.S := [.ife (.or (.cmp .eq (.bi .len [.var 0]) (.con (.int 0))) (.cmp .eq (.bi .len [.idx (.var 0) (.con (.int 0))]) (.con (.int 0)))) [.ret (.con (.int 0))] [], .ret (.idx (.idx (.call 16 [.var 0]) (.con (.int 0))) (.con (.int 0)))]
/-- best_worth_by -/
def k80d17 : FnD := ⟨137, ["market"], 1, k80b17⟩
def k80b18 : List G.S := [.par2 2 3 false false (.call 16 [.var 0]) (.lst [.tup [.tup [], .con (.int 0)]]), .for_ (.name 1) .over [.call 7 [.var 0]] [.own 4 (.lst []), .for_ (.tup [5, 6]) .over [.var 3] [.for_ (.name 7) .over [.call 13 [.var 6, .bi .len [.idx (.var 0) (.con (.int 0))]]] [.asg 8 (.call 14 [.var 6, .var 7]), .ife (.cmp .eq (.bin .add (.call 15 [.idx (.var 0) (.var 1), .var 7]) (.idx (.idx (.var 2) (.bin .add (.var 1) (.con (.int 1)))) (.var 8))) (.idx (.idx (.var 2) (.var 1)) (.var 6))) [.app 4 (.tup [.tup [.star (.var 5), .var 7], .var 8])] []]], .frz 4, .asg 3 (.var 4)], .ret (.bi .tuple [.lc [5, 9] (.tup [5, 9]) .over [.var 3] [] (.var 5)])]
/-- best_deals_by -/
def k80d18 : FnD := ⟨142, ["market", "buyer", "worths", "found", "longer", "deal", "mark", "thing", "behind", "_"], 1, k80b18⟩
def k80b19 : List G.S := [.ret (.bi .all [.lc [2] (.name 2) .over [.call 18 [.var 0]] [] (.cmp .isn (.idx (.var 2) (.var 1)) (.con .non))])]
/-- is_served_by -/
def k80d19 : FnD := ⟨147, ["market", "buyer", "deal"], 2, k80b19⟩
def k80b20 : List G.S := [.ret (.bin .sub (.call 17 [.call 10 [.var 0, .var 1]]) (.call 17 [.var 0]))]
/-- least_price_by -/
def k80d20 : FnD := ⟨324, ["market", "thing"], 2, k80b20⟩
def k80b21 : List G.S := [.ret (.lst [.var 0, .neg (.con (.int 1)), .con .non, .con (.bl true), .con (.bl false), .con (.str "0"), .tup [.con (.int 0)], .lst [.con (.int 0)], .dct0 false, .bin .pow (.con (.int 10)) (.con (.int 29))])]
/-- _law_not_indexes -/
def k80d21 : FnD := ⟨514, ["many"], 1, k80b21⟩
def k80b22 : List G.S := [.ife (.not (.call 5 [.var 0])) [.rais 2 [.var 0]] []]
/-- check_market -/
def k80d22 : FnD := ⟨331, ["value"], 1, k80b22⟩
def k80b23 : List G.S := [.ife (.not (.call 12 [.var 0, .var 1])) [.rais 4 [.var 1]] []]
/-- check_buyer -/
def k80d23 : FnD := ⟨338, ["market", "value"], 2, k80b23⟩
def k80b24 : List G.S := [.ife (.not (.call 11 [.var 0, .var 1])) [.rais 4 [.var 1]] []]
/-- check_thing -/
def k80d24 : FnD := ⟨345, ["market", "value"], 2, k80b24⟩
def k80b25 : List G.S := [.ife (.not (.call 4 [.bi .len [.idx (.var 0) (.con (.int 0))], .var 1])) [.rais 5 [.var 1]] []]
/-- check_row -/
def k80d25 : FnD := ⟨352, ["market", "value"], 2, k80b25⟩
def k80b26 : List G.S := [.ife (.not (.call 1 [.var 0, .var 1, .var 2])) [.rais 6 [.var 0]] []]
/-- check_number -/
def k80d26 : FnD := ⟨359, ["value", "low", "high"], 3, k80b26⟩
def k80b27 : List G.S := [.ex (.call 22 [.var 0]), .ex (.call 23 [.var 0, .var 1]), .ex (.call 24 [.var 0, .var 2]), .ex (.call 26 [.var 3, .con (.int 0), .glo 3]), .ret (.call 8 [.var 0, .var 1, .var 2, .var 3])]
/-- with_worth -/
def k80d27 : FnD := ⟨366, ["market", "buyer", "thing", "number"], 4, k80b27⟩
def k80b28 : List G.S := [.ex (.call 22 [.var 0]), .ex (.call 25 [.var 0, .var 1]), .ife (.cmp .eq (.bi .len [.var 0]) (.glo 1)) [.rais 9 []] [], .ret (.tup [.star (.var 0), .var 1])]
/-- with_buyer -/
def k80d28 : FnD := ⟨373, ["market", "row"], 2, k80b28⟩
def k80b29 : List G.S := [.ex (.call 22 [.var 0]), .ex (.call 23 [.var 0, .var 1]), .ife (.cmp .eq (.bi .len [.var 0]) (.con (.int 1))) [.rais 3 [.var 1]] [], .ret (.call 9 [.var 0, .var 1])]
/-- without_buyer -/
def k80d29 : FnD := ⟨380, ["market", "buyer"], 2, k80b29⟩
def k80b30 : List G.S := [.ife (.or (.not (.isi [.tup] (.var 1))) (.or (.cmp .eq (.var 1) (.tup [])) (.or (.not (.isi [.str] (.idx (.var 1) (.con (.int 0))))) (.kin true 0 (.idx (.var 1) (.con (.int 0))))))) [.ret (.con (.bl false))] [], .ife (.cmp .ne (.bi .len [.var 1]) (.kidx 0 (.idx (.var 1) (.con (.int 0))))) [.ret (.con (.bl false))] [], .ife (.cmp .eq (.idx (.var 1) (.con (.int 0))) (.glo 6)) [.ret (.call 12 [.var 0, .idx (.var 1) (.con (.int 1))])] [], .ret (.and (.call 1 [.idx (.var 1) (.neg (.con (.int 1))), .con (.int 0), .glo 7]) (.or (.cmp .eq (.idx (.var 1) (.con (.int 0))) (.glo 4)) (.call 11 [.var 0, .idx (.var 1) (.con (.int 1))])))]
/-- is_wish -/
def k80d30 : FnD := ⟨388, ["market", "value"], 2, k80b30⟩
def k80b31 : List G.S := [.ife (.cmp .eq (.idx (.var 1) (.con (.int 0))) (.glo 4)) [.ret (.cmp .ge (.call 17 [.var 0]) (.idx (.var 1) (.con (.int 1))))] [], .ife (.cmp .eq (.idx (.var 1) (.con (.int 0))) (.glo 5)) [.ret (.cmp .le (.call 20 [.var 0, .idx (.var 1) (.con (.int 1))]) (.idx (.var 1) (.con (.int 2))))] [], .ret (.and (.call 12 [.var 0, .idx (.var 1) (.con (.int 1))]) (.call 19 [.var 0, .idx (.var 1) (.con (.int 1))]))]
/-- holds_wish -/
def k80d31 : FnD := ⟨395, ["market", "wish"], 2, k80b31⟩
def k80b32 : List G.S := [.ret (.slc (.lc [2, 3] (.tup [2, 3]) .enum [.var 1] [.not (.call 31 [.var 0, .var 3])] (.var 2)) [] [.con (.int 1)])]
/-- first_broken -/
def k80d32 : FnD := ⟨400, ["market", "wishes", "index", "wish"], 2, k80b32⟩
def k80b33 : List G.S := [.ex (.call 22 [.var 1]), .setF 0 "past" (.var 0) (.tup [.tup [.var 1, .tup []]])]
/-- Site.__init__ -/
def k80d33 : FnD := ⟨414, ["self", "market"], 2, k80b33⟩
def k80b34 : List G.S := [.ret (.idx (.idx (.fld 0 "past" (.var 0)) (.neg (.con (.int 1)))) (.con (.int 0)))]
/-- Site.market -/
def k80d34 : FnD := ⟨421, ["self"], 1, k80b34⟩
def k80b35 : List G.S := [.ret (.idx (.idx (.fld 0 "past" (.var 0)) (.neg (.con (.int 1)))) (.con (.int 1)))]
/-- Site.wishes -/
def k80d35 : FnD := ⟨429, ["self"], 1, k80b35⟩
def k80b36 : List G.S := [.for_ (.name 3) .over [.call 32 [.var 1, .var 2]] [.rais 8 [.var 3]], .setF 0 "past" (.var 0) (.tup [.star (.fld 0 "past" (.var 0)), .tup [.var 1, .var 2]])]
/-- Site.keep -/
def k80d36 : FnD := ⟨437, ["self", "market", "wishes", "index"], 3, k80b36⟩
def k80b37 : List G.S := [.ex (.meth 0 "keep" 36 (.var 0) [.call 27 [.prop 0 34 (.var 0), .var 1, .var 2, .var 3], .prop 0 35 (.var 0)])]
/-- Site.put -/
def k80d37 : FnD := ⟨444, ["self", "buyer", "thing", "number"], 4, k80b37⟩
def k80b38 : List G.S := [.ex (.meth 0 "keep" 36 (.var 0) [.call 28 [.prop 0 34 (.var 0), .var 1], .prop 0 35 (.var 0)])]
/-- Site.come -/
def k80d38 : FnD := ⟨451, ["self", "row"], 2, k80b38⟩
def k80b39 : List G.S := [.ex (.meth 0 "keep" 36 (.var 0) [.call 29 [.prop 0 34 (.var 0), .var 1], .prop 0 35 (.var 0)])]
/-- Site.go -/
def k80d39 : FnD := ⟨458, ["self", "buyer"], 2, k80b39⟩
def k80b40 : List G.S := [.ife (.not (.call 30 [.prop 0 34 (.var 0), .var 1])) [.rais 7 [.var 1]] [], .ex (.meth 0 "keep" 36 (.var 0) [.prop 0 34 (.var 0), .tup [.star (.prop 0 35 (.var 0)), .var 1]])]
/-- Site.wish -/
def k80d40 : FnD := ⟨465, ["self", "wish"], 2, k80b40⟩
def k80b41 : List G.S := [.ex (.call 26 [.var 1, .con (.int 0), .bin .sub (.bi .len [.prop 0 35 (.var 0)]) (.con (.int 1))]), .ex (.meth 0 "keep" 36 (.var 0) [.prop 0 34 (.var 0), .bin .add (.slc (.prop 0 35 (.var 0)) [] [.var 1]) (.slc (.prop 0 35 (.var 0)) [.bin .add (.var 1) (.con (.int 1))] [])])]
/-- Site.lift -/
def k80d41 : FnD := ⟨472, ["self", "number"], 2, k80b41⟩
def k80b42 : List G.S := [.ife (.cmp .eq (.bi .len [.fld 0 "past" (.var 0)]) (.con (.int 1))) [.rais 10 []] [], .setF 0 "past" (.var 0) (.slc (.fld 0 "past" (.var 0)) [] [.neg (.con (.int 1))])]
/-- Site.undo -/
def k80d42 : FnD := ⟨479, ["self"], 1, k80b42⟩
def k80b43 : List G.S := [.ret (.lc [2] (.name 2) .over [.call 45 [.var 0, .var 1]] [.not (.call 48 [.var 2])] (.var 2))]
/-- _law_not_markets -/
def k80d43 : FnD := ⟨546, ["pool", "market", "each"], 2, k80b43⟩
def k80b44 : List G.S := [.ife (.isi [.tup] (.var 0)) [.ret (.bi .tuple [.lc [3] (.name 3) .over [.var 0] [] (.call 44 [.var 3])])] [], .ife (.isi [.lst] (.var 0)) [.ret (.lc [3] (.name 3) .over [.var 0] [] (.call 44 [.var 3]))] [], .ife (.isi [.dct] (.var 0)) [.own 1 (.dct0 false), .for_ (.name 2) .keys [.var 0] [.setI 1 (.var 2) (.call 44 [.idx (.var 0) (.var 2)])], .frz 1, .ret (.var 1)] [], .ret (.var 0)]
/-- _law_copy -/
def k80d44 : FnD := ⟨551, ["thing", "found", "key", "each"], 1, k80b44⟩
def k80b45 : List G.S := [.asg 2 (.call 53 [.var 0, .bi .len [.var 1]]), .asg 3 (.idx (.var 1) (.var 2)), .asg 4 (.lst [.var 1, .bi .list [.var 1], .tup [], .con .non, .var 3, .dct0 false, .con (.str "0"), .tup [.var 1], .slc (.bin .mul (.var 1) (.con (.int 6))) [] [.con (.int 6)], .call 55 [.var 0], .bi .tuple [.lc [9] (.name 9) .over [.var 1] [] (.slc (.bin .mul (.var 9) (.con (.int 6))) [] [.con (.int 6)])], .bi .tuple [.lc [9] (.name 9) .over [.var 1] [] (.tup [])]]), .asg 5 (.lst [.bi .list [.var 3], .con .non, .slc (.var 3) [.con (.int 1)] [], .bin .add (.var 3) (.tup [.con (.int 0)]), .idx (.var 3) (.con (.int 0)), .con (.str "0")]), .asg 6 (.call 53 [.var 0, .bi .len [.var 3]]), .asg 5 (.bin .add (.var 5) (.lc [7] (.name 7) .over [.tup [.con (.int 100), .neg (.con (.int 1)), .con .non, .con (.bl true), .con (.str "1"), .tup [.con (.int 1)], .bin .pow (.con (.int 10)) (.con (.int 29))]] [] (.bin .add (.bin .add (.slc (.var 3) [] [.var 6]) (.tup [.var 7])) (.slc (.var 3) [.bin .add (.var 6) (.con (.int 1))] [])))), .ret (.bin .add (.var 4) (.lc [8] (.name 8) .over [.var 5] [] (.bin .add (.bin .add (.slc (.var 1) [] [.var 2]) (.tup [.var 8])) (.slc (.var 1) [.bin .add (.var 2) (.con (.int 1))] []))))]
/-- _law_bent_markets -/
def k80d45 : FnD := ⟨556, ["pool", "market", "at", "row", "found", "odds", "spot", "each", "odd", "line"], 2, k80b45⟩
def k80b46 : List G.S := [.asg 2 (.ite (.cmp .lt (.var 1) (.bi .len [.var 0])) (.bi .int [.idx (.var 0) (.var 1)]) (.bin .add (.bin .mul (.con (.int 14127)) (.var 1)) (.con (.int 58968)))), .asg 3 (.bin .add (.con (.int 3419199)) (.bin .mul (.con (.int 7919)) (.var 1))), .for_ (.name 4) .over [.slc (.var 0) [] [.con (.int 63)]] [.asg 3 (.bin .mod (.bi .int [.bin .add (.bin .add (.bin .mul (.var 3) (.con (.int 48271))) (.bin .mod (.bi .int [.var 4]) (.con (.int 2147483629)))) (.con (.int 11))]) (.con (.int 2147483647)))], .asg 3 (.bin .mod (.bi .int [.bin .add (.bin .add (.bin .mul (.var 3) (.con (.int 69621))) (.bin .mul (.bin .mod (.bi .int [.var 2]) (.con (.int 2147483629))) (.con (.int 16807)))) (.con (.int 7))]) (.con (.int 2147483647))), .ret (.cell (.lst [.ite (.or (.cmp .lt (.var 2) (.con (.int 0))) (.cmp .ge (.var 2) (.bin .pow (.con (.int 10)) (.con (.int 18))))) (.bi .abs [.var 2]) (.con (.int 0)), .var 3, .con (.int 0)]))]
/-- _law_pool -/
def k80d46 : FnD := ⟨507, ["script", "lap", "cell", "stirred", "each"], 2, k80b46⟩
def k80b47 : List G.S := [.asg 4 (.idx (.tup [.con (.int 4), .con (.int 8), .con (.int 100), .con (.int 3), .con (.int 12)]) (.var 3)), .own 5 (.lc [6] (.name 6) .range1 [.var 1] [] (.bi .tuple [.lc [7] (.name 7) .range1 [.var 2] [] (.bin .mul (.call 53 [.var 0, .var 4]) (.bi .int [.or (.cmp .ne (.var 3) (.con (.int 3))) (.cmp .eq (.call 53 [.var 0, .con (.int 2)]) (.con (.int 0)))]))])), .ife (.and (.cmp .eq (.var 3) (.con (.int 4))) (.cmp .gt (.var 1) (.con (.int 1)))) [.setI 5 (.neg (.con (.int 1))) (.idx (.bor 5) (.con (.int 0)))] [], .ret (.bi .tuple [.bor 5])]
/-- _law_market -/
def k80d47 : FnD := ⟨519, ["pool", "buyers", "things", "way", "top", "rows", "buyer", "thing"], 4, k80b47⟩
def k80b48 : List G.S := [.ife (.or (.not (.isi [.tup] (.var 0))) (.or (.not (.chn .lt .lt (.con (.int 0)) (.bi .len [.var 0]) (.con (.int 6)))) (.or (.not (.isi [.tup] (.idx (.var 0) (.con (.int 0))))) (.not (.chn .lt .lt (.con (.int 0)) (.bi .len [.idx (.var 0) (.con (.int 0))]) (.con (.int 6))))))) [.ret (.con (.bl false))] [], .ret (.bi .all [.lc [1] (.name 1) .over [.var 0] [] (.call 56 [.bi .len [.idx (.var 0) (.con (.int 0))], .var 1])])]
/-- _law_is_market -/
def k80d48 : FnD := ⟨561, ["thing", "row"], 1, k80b48⟩
def k80b49 : List G.S := [.try_ [.ife (.cmp .eq (.idx (.var 1) (.con (.int 0))) (.con (.str "put"))) [.asg 4 (.ite (.var 2) (.methK 0 "put" 37 (.var 0) [.idx (.var 1) (.con (.int 3)), .idx (.var 1) (.con (.int 2)), .idx (.var 1) (.con (.int 1))] ["number", "thing", "buyer"] [2, 1, 0]) (.meth 0 "put" 37 (.var 0) [.idx (.var 1) (.con (.int 1)), .idx (.var 1) (.con (.int 2)), .idx (.var 1) (.con (.int 3))]))] [.ife (.cmp .eq (.idx (.var 1) (.con (.int 0))) (.con (.str "come"))) [.asg 4 (.ite (.var 2) (.methK 0 "come" 38 (.var 0) [.idx (.var 1) (.con (.int 1))] ["row"] [0]) (.meth 0 "come" 38 (.var 0) [.idx (.var 1) (.con (.int 1))]))] [.ife (.cmp .eq (.idx (.var 1) (.con (.int 0))) (.con (.str "go"))) [.asg 4 (.ite (.var 2) (.methK 0 "go" 39 (.var 0) [.idx (.var 1) (.con (.int 1))] ["buyer"] [0]) (.meth 0 "go" 39 (.var 0) [.idx (.var 1) (.con (.int 1))]))] [.ife (.cmp .eq (.idx (.var 1) (.con (.int 0))) (.con (.str "wish"))) [.asg 4 (.ite (.var 2) (.methK 0 "wish" 40 (.var 0) [.idx (.var 1) (.con (.int 1))] ["wish"] [0]) (.meth 0 "wish" 40 (.var 0) [.idx (.var 1) (.con (.int 1))]))] [.ife (.cmp .eq (.idx (.var 1) (.con (.int 0))) (.con (.str "lift"))) [.asg 4 (.ite (.var 2) (.methK 0 "lift" 41 (.var 0) [.idx (.var 1) (.con (.int 1))] ["number"] [0]) (.meth 0 "lift" 41 (.var 0) [.idx (.var 1) (.con (.int 1))]))] [.asg 4 (.meth 0 "undo" 42 (.var 0) [])]]]]], .ret (.ite (.cmp .is_ (.var 4) (.con .non)) (.con .non) (.tup [.con (.str "value"), .var 4]))] [(4, some 3, [.con (.str "index"), .fld]), (6, some 3, [.con (.str "number"), .fld]), (5, some 3, [.con (.str "row"), .fld]), (7, some 3, [.con (.str "wish"), .fld]), (8, some 3, [.con (.str "broken"), .fld]), (3, some 3, [.con (.str "now"), .fld]), (9, none, [.con (.str "many"), .con .non]), (10, none, [.con (.str "nothing"), .con .non]), (1, none, [.con (.str "other"), .con .non])]]
/-- _law_play -/
def k80d49 : FnD := ⟨536, ["site", "deed", "is_named", "e", "told"], 3, k80b49⟩
def k80b50 : List G.S := [.ife (.cmp .is_ (.var 1) (.con .non)) [.ret (.cmp .is_ (.var 0) (.con .non))] [], .ife (.isi [.bool] (.var 1)) [.ret (.and (.isi [.bool] (.var 0)) (.cmp .eq (.var 0) (.var 1)))] [], .ife (.isi [.int] (.var 1)) [.ret (.and (.isi [.int] (.var 0)) (.and (.not (.isi [.bool] (.var 0))) (.cmp .eq (.var 0) (.var 1))))] [], .ife (.isi [.str] (.var 1)) [.ret (.and (.isi [.str] (.var 0)) (.cmp .eq (.var 0) (.var 1)))] [], .ife (.isi [.dct] (.var 1)) [.ife (.or (.not (.isi [.dct] (.var 0))) (.cmp .ne (.bi .len [.var 0]) (.bi .len [.var 1]))) [.ret (.con (.bl false))] [], .ret (.bi .all [.lc [2] (.name 2) .keys [.var 1] [] (.and (.cmp .in_ (.var 2) (.var 0)) (.call 50 [.idx (.var 0) (.var 2), .idx (.var 1) (.var 2)]))])] [], .ife (.or (.cmp .ne (.isi [.tup] (.var 1)) (.isi [.tup] (.var 0))) (.cmp .ne (.isi [.lst] (.var 1)) (.isi [.lst] (.var 0)))) [.ret (.con (.bl false))] [], .ret (.and (.cmp .eq (.bi .len [.var 0]) (.bi .len [.var 1])) (.bi .all [.lc [3, 4] (.tup [3, 4]) .zip [.var 0, .var 1] [] (.call 50 [.var 3, .var 4])]))]
/-- _law_alike -/
def k80d50 : FnD := ⟨541, ["told", "due", "key", "x", "y"], 2, k80b50⟩
def k80b51 : List G.S := [.own 1 (.dct0 true), .setI 1 (.tup []) (.con (.int 0)), .frz 1, .for_ (.name 2) .over [.var 0] [.own 3 (.dct0 true), .for_ (.name 4) .keys [.var 1] [.setI 3 (.var 4) (.bi .max2 [.idx (.var 1) (.var 4), .mth .get2 (.bor 3) [.var 4, .con (.int 0)]]), .for_ (.tup [5, 6]) .enum [.var 2] [.ife (.cmp .nin (.var 5) (.var 4)) [.asg 7 (.bi .tuple [.bi .sorted [.bin .add (.var 4) (.tup [.var 5])]]), .setI 3 (.var 7) (.bi .max2 [.bin .add (.idx (.var 1) (.var 4)) (.var 6), .mth .get2 (.bor 3) [.var 7, .con (.int 0)]])] []]], .frz 3, .asg 1 (.var 3)], .ret (.bi .max1 [.lc [4] (.name 4) .keys [.var 1] [] (.idx (.var 1) (.var 4))])]
/-- _law_most -/
def k80d51 : FnD := ⟨524, ["rows", "states", "row", "more", "taken", "thing", "value", "fresh"], 1, k80b51⟩
def k80b52 : List G.S := [.asg 1 (.call 51 [.var 0]), .ret (.bi .tuple [.lc [2] (.name 2) .range1 [.bi .len [.idx (.var 0) (.con (.int 0))]] [] (.bin .sub (.call 51 [.lc [3] (.name 3) .over [.var 0] [] (.bin .add (.var 3) (.tup [.idx (.var 3) (.var 2)]))]) (.var 1))])]
/-- _law_least -/
def k80d52 : FnD := ⟨529, ["market", "whole", "thing", "row"], 1, k80b52⟩
def k80b53 : List G.S := [.ife (.cmp .gt (.idx (.var 0) (.con (.int 0))) (.con (.int 0))) [.asg 3 (.bin .mod (.bi .int [.idx (.var 0) (.con (.int 0))]) (.var 1)), .setC (.var 0) (.con (.int 0)) (.bin .fdiv (.idx (.var 0) (.con (.int 0))) (.var 1)), .ret (.var 3)] [], .setC (.var 0) (.con (.int 2)) (.bin .add (.idx (.var 0) (.con (.int 2))) (.con (.int 1))), .asg 2 (.bin .mod (.bi .int [.bin .add (.bin .add (.bin .mul (.idx (.var 0) (.con (.int 1))) (.con (.int 233337))) (.bin .mul (.idx (.var 0) (.con (.int 2))) (.con (.int 225963)))) (.con (.int 5))]) (.con (.int 2147483647))), .setC (.var 0) (.con (.int 1)) (.bin .mod (.bi .int [.bin .add (.bin .mul (.var 2) (.bin .add (.bin .mod (.bi .int [.var 2]) (.con (.int 4093))) (.con (.int 810057)))) (.idx (.var 0) (.con (.int 2)))]) (.con (.int 2147483563))), .ret (.bin .mod (.bi .int [.bin .fdiv (.idx (.var 0) (.con (.int 1))) (.con (.int 61))]) (.var 1))]
/-- _law_below -/
def k80d53 : FnD := ⟨587, ["pool", "many", "mixed", "figure"], 2, k80b53⟩
def k80b54 : List G.S := [.ret (.idx (.var 1) (.call 53 [.var 0, .bi .len [.var 1]]))]
/-- _law_one -/
def k80d54 : FnD := ⟨594, ["pool", "some"], 2, k80b54⟩
def k80b55 : List G.S := [.ret (.call 54 [.var 0, .tup [.con .non, .con (.bl true), .con (.bl false), .neg (.con (.int 1)), .con (.str ""), .con (.str "0"), .con (.str "deal"), .lst [], .lst [.con (.int 0), .con (.int 1)], .dct0 false, .disp ["a"] [.con (.int 1)], .tup [.con .non], .tup [.tup [.tup [.tup [.con (.int 5)]]]], .tup [.con (.bl true)], .con (.int 4), .lst [.tup [.con (.int 0), .con (.int 1)]], .bin .pow (.con (.int 10)) (.con (.int 29)), .tup [.tup []], .tup [.con (.str "a")], .tup [.con (.int 0), .con (.int 0)], .tup [.con (.int 1), .con (.int 0)], .tup [.tup [.con (.int 100)]], .tup [.tup [.con (.int 1), .con (.int 2)], .tup [.con (.int 3)]], .con (.str "-"), .lst [.lst [.con (.int 0), .con (.int 1)]], .tup [.con (.int 0), .tup []], .con (.int 25)]])]
/-- _law_thing -/
def k80d55 : FnD := ⟨568, ["pool"], 1, k80b55⟩
def k80b56 : List G.S := [.ret (.and (.isi [.tup] (.var 1)) (.and (.cmp .eq (.bi .len [.var 1]) (.var 0)) (.bi .all [.lc [2] (.name 2) .over [.var 1] [] (.and (.call 57 [.var 2]) (.chn .le .lt (.con (.int 0)) (.var 2) (.con (.int 100))))])))]
/-- _law_is_row -/
def k80d56 : FnD := ⟨573, ["many", "thing", "each"], 2, k80b56⟩
def k80b57 : List G.S := [.ret (.and (.isi [.int] (.var 0)) (.not (.isi [.bool] (.var 0))))]
/-- _law_is_whole -/
def k80d57 : FnD := ⟨580, ["thing"], 1, k80b57⟩
def k80b58 : List G.S := [.par2 6 7 false false (.bi .len [.var 1]) (.bi .len [.idx (.var 1) (.con (.int 0))]), .own 3 (.lst []), .for_ (.name 4) .over [.call 21 [.var 6]] [.own 3 (.bin .add (.bor 3) (.lst [.tup [.tup [.con (.str "put"), .var 4, .call 54 [.var 0, .tup [.con (.int 0), .con .non]], .call 54 [.var 0, .tup [.con (.int 1), .con (.str "1")]]], .tup [.con (.str "index"), .var 4]], .tup [.tup [.con (.str "go"), .var 4], .tup [.con (.str "index"), .var 4]]]))], .for_ (.name 4) .over [.call 21 [.var 7]] [.app 3 (.tup [.tup [.con (.str "put"), .con (.int 0), .var 4, .call 54 [.var 0, .tup [.con (.int 1), .con .non, .con (.int 100)]]], .tup [.con (.str "index"), .var 4]])], .for_ (.name 4) .over [.tup [.con (.int 100), .neg (.con (.int 1)), .con .non, .con (.bl true), .con (.bl false), .con (.str "1"), .tup [.con (.int 1)], .bin .pow (.con (.int 10)) (.con (.int 29))]] [.app 3 (.tup [.tup [.con (.str "put"), .bin .sub (.var 6) (.con (.int 1)), .bin .sub (.var 7) (.con (.int 1)), .var 4], .tup [.con (.str "number"), .var 4]])], .asg 5 (.bin .mul (.tup [.con (.int 1)]) (.var 7)), .for_ (.name 4) .over [.lst [.bi .list [.var 5], .con .non, .con (.int 0), .con (.str "0"), .dct0 false, .tup [], .bin .add (.var 5) (.tup [.con (.int 1)]), .slc (.var 5) [.con (.int 1)] [], .bin .add (.slc (.var 5) [] [.neg (.con (.int 1))]) (.tup [.con (.int 100)]), .bin .add (.slc (.var 5) [] [.neg (.con (.int 1))]) (.tup [.neg (.con (.int 1))]), .bin .add (.slc (.var 5) [] [.neg (.con (.int 1))]) (.tup [.con .non]), .bin .add (.slc (.var 5) [] [.neg (.con (.int 1))]) (.tup [.con (.bl true)]), .tup [.var 5]]] [.app 3 (.tup [.tup [.con (.str "come"), .var 4], .tup [.con (.str "row"), .var 4]])], .for_ (.name 4) .over [.tup [.var 2, .neg (.con (.int 1)), .con .non, .con (.bl true), .con (.str "0"), .tup [.con (.int 0)], .bin .pow (.con (.int 10)) (.con (.int 29))]] [.app 3 (.tup [.tup [.con (.str "lift"), .var 4], .tup [.con (.str "number"), .var 4]])], .frz 3, .ret (.var 3)]
/-- _law_wrong_deeds -/
def k80d58 : FnD := ⟨601, ["pool", "market", "many", "found", "odd", "good", "buyers", "things"], 3, k80b58⟩
def k80b59 : List G.S := [.asg 1 (.lst [.con .non, .con (.int 5), .tup [], .con (.str "worth"), .lst [.con (.str "worth"), .con (.int 1)], .tup [.con (.str "worth")], .tup [.con (.str "worth"), .con (.int 1), .con (.int 1)], .tup [.con (.str "worth"), .con (.int 1000)], .tup [.con (.str "worth"), .neg (.con (.int 1))], .tup [.con (.str "worth"), .con .non], .tup [.con (.str "worth"), .con (.bl true)]]), .asg 1 (.bin .add (.var 1) (.lst [.tup [.con (.str "worth"), .con (.str "1")], .tup [.con (.str "price"), .con (.int 0)], .tup [.con (.str "price"), .con (.int 0), .con (.int 1000)], .tup [.con (.str "price"), .con (.int 0), .neg (.con (.int 1))], .tup [.con (.str "price"), .con .non, .con (.int 1)]])), .asg 1 (.bin .add (.var 1) (.lst [.tup [.con (.str "served"), .bi .len [.var 0]], .tup [.con (.str "served"), .neg (.con (.int 1))], .tup [.con (.str "price"), .bi .len [.idx (.var 0) (.con (.int 0))], .con (.int 1)], .tup [.con (.str "price"), .neg (.con (.int 1)), .con (.int 1)], .tup [.con (.str "served"), .bin .pow (.con (.int 10)) (.con (.int 29))]])), .asg 1 (.bin .add (.var 1) (.lst [.tup [.con (.str "price"), .con (.int 0), .con (.bl true)], .tup [.con (.str "price"), .con (.bl true), .con (.int 1)], .tup [.con (.str "price"), .con (.str "0"), .con (.int 1)], .tup [.con (.str "price"), .con (.int 0), .con (.int 1), .con (.int 1)], .tup [.con (.str "served")], .tup [.con (.str "served"), .con .non], .tup [.con (.str "served"), .con (.bl true)]])), .ret (.bin .add (.var 1) (.lst [.tup [.con (.str "served"), .con (.int 0), .con (.int 1)], .tup [.con (.str "served"), .tup [.con (.int 0)]], .tup [.con (.str "serve"), .con (.int 0)], .tup [.con (.str ""), .con (.int 0)], .tup [.con (.int 0), .con (.int 0)], .tup [.con .non, .con (.int 0)], .dct0 false]))]
/-- _law_not_wishes -/
def k80d59 : FnD := ⟨608, ["market", "found"], 1, k80b59⟩
def k80b60 : List G.S := [.ret (.tup [.prop 0 34 (.var 0), .prop 0 35 (.var 0)])]
/-- _law_shown -/
def k80d60 : FnD := ⟨615, ["site"], 1, k80b60⟩
def k80b61 : List G.S := [.try_ [.ret (.tup [.con (.str "value"), .cmp .is_ (.newK 0 33 [.var 0] ["market"] [0]) (.con .non)])] [(2, some 1, [.con (.str "market"), .fld]), (1, none, [.con (.str "other"), .con .non])]]
/-- _law_made -/
def k80d61 : FnD := ⟨622, ["market", "e"], 1, k80b61⟩
def k80b62 : List G.S := [.for_ (.name 1) .range1 [.con (.int 5)] [.asg 3 (.call 47 [.var 0, .bin .add (.con (.int 1)) (.bin .mod (.bi .int [.var 1]) (.con (.int 4))), .bin .add (.con (.int 1)) (.call 53 [.var 0, .con (.int 4)]), .bin .mod (.bi .int [.var 1]) (.con (.int 5))]), .asg 4 (.ite (.cmp .eq (.call 53 [.var 0, .con (.int 2)]) (.con (.int 0))) (.new 0 33 [.var 3]) (.newK 0 33 [.var 3] ["market"] [0])), .asg 5 (.tup [.tup [.con (.str "worth"), .call 51 [.var 3]], .tup [.con (.str "price"), .con (.int 0), .idx (.call 52 [.var 3]) (.con (.int 0))]]), .for_ (.name 6) .over [.var 5] [.ife (.cmp .isn (.call 49 [.var 4, .tup [.con (.str "wish"), .var 6], .cmp .eq (.call 53 [.var 0, .con (.int 2)]) (.con (.int 0))]) (.con .non)) [.ret (.con (.bl false))] []], .for_ (.tup [11, 12]) .over [.bin .add (.call 58 [.var 0, .var 3, .con (.int 2)]) (.lc [8] (.name 8) .over [.call 59 [.var 3]] [] (.tup [.tup [.con (.str "wish"), .var 8], .tup [.con (.str "wish"), .var 8]]))] [.ife (.or (.not (.call 50 [.call 49 [.var 4, .var 11, .cmp .eq (.call 53 [.var 0, .con (.int 2)]) (.con (.int 0))], .var 12])) (.not (.call 50 [.call 60 [.var 4], .tup [.var 3, .var 5]]))) [.ret (.con (.bl false))] []], .for_ (.name 7) .over [.tup [.slc (.var 5) [] [.con (.int 1)], .tup []]] [.ife (.or (.cmp .isn (.call 49 [.var 4, .tup [.con (.str "undo")], .con (.bl false)]) (.con .non)) (.not (.call 50 [.call 60 [.var 4], .tup [.var 3, .var 7]]))) [.ret (.con (.bl false))] []], .ife (.not (.call 50 [.call 49 [.var 4, .tup [.con (.str "undo")], .con (.bl false)], .tup [.con (.str "nothing"), .con .non]])) [.ret (.con (.bl false))] [], .for_ (.name 8) .over [.call 43 [.var 0, .var 3]] [.ife (.not (.call 50 [.call 61 [.var 8], .tup [.con (.str "market"), .call 44 [.var 8]]])) [.ret (.con (.bl false))] []]], .par2 9 10 false false (.new 0 33 [.bin .mul (.tup [.tup [.con (.int 1)]]) (.con (.int 5))]) (.new 0 33 [.tup [.tup [.con (.int 1), .con (.int 2)]]]), .asg 2 (.tup [.call 49 [.var 9, .tup [.con (.str "come"), .tup [.con (.int 1)]], .con (.bl true)], .call 49 [.var 9, .tup [.con (.str "come"), .tup [.con (.int 1), .con (.int 1)]], .con (.bl true)], .call 49 [.var 10, .tup [.con (.str "go"), .con (.int 0)], .con (.bl false)], .call 49 [.var 10, .tup [.con (.str "go"), .con (.int 1)], .con (.bl false)]]), .ret (.call 50 [.var 2, .tup [.tup [.con (.str "many"), .con .non], .tup [.con (.str "row"), .tup [.con (.int 1), .con (.int 1)]], .tup [.con (.str "now"), .con (.int 0)], .tup [.con (.str "index"), .con (.int 1)]]])]
/-- _law_right -/
def k80d62 : FnD := ⟨627, ["pool", "lap", "told", "market", "site", "wishes", "wish", "left", "odd", "five", "one", "deed", "due"], 1, k80b62⟩
def k80b63 : List G.S := [.ret (.bi .all [.lc [1] (.name 1) .range1 [.bi .max2 [.con (.int 1), .bi .min2 [.bi .len [.var 0], .con (.int 2)]]] [] (.call 62 [.call 46 [.var 0, .var 1]])])]
/-- law -/
def k80d63 : FnD := ⟨632, ["script", "lap"], 1, k80b63⟩
def k80T : Tb where
  fns := [(("_law_alike" : Str), 50), (("_law_below" : Str), 53), (("_law_bent_markets" : Str), 45), (("_law_copy" : Str), 44), (("_law_is_market" : Str), 48), (("_law_is_row" : Str), 56), (("_law_is_whole" : Str), 57), (("_law_least" : Str), 52), (("_law_made" : Str), 61), (("_law_market" : Str), 47), (("_law_most" : Str), 51), (("_law_not_indexes" : Str), 21), (("_law_not_markets" : Str), 43), (("_law_not_wishes" : Str), 59), (("_law_one" : Str), 54), (("_law_play" : Str), 49), (("_law_pool" : Str), 46), (("_law_right" : Str), 62), (("_law_shown" : Str), 60), (("_law_thing" : Str), 55), (("_law_wrong_deeds" : Str), 58), (("best_deals_by" : Str), 18), (("best_worth_by" : Str), 17), (("buyers_of" : Str), 7), (("check_buyer" : Str), 23), (("check_market" : Str), 22), (("check_number" : Str), 26), (("check_row" : Str), 25), (("check_thing" : Str), 24), (("choices" : Str), 13), (("first_broken" : Str), 32), (("holds_wish" : Str), 31), (("is_between" : Str), 1), (("is_buyer" : Str), 12), (("is_market_by" : Str), 5), (("is_row_by" : Str), 4), (("is_served_by" : Str), 19), (("is_thing" : Str), 11), (("is_tuple_of" : Str), 2), (("is_whole" : Str), 0), (("is_wish" : Str), 30), (("is_worth" : Str), 3), (("least_price_by" : Str), 20), (("mark_with" : Str), 14), (("rest_worths" : Str), 16), (("things_of" : Str), 6), (("twice_by" : Str), 10), (("with_buyer" : Str), 28), (("with_worth" : Str), 27), (("with_worth_by" : Str), 8), (("without_buyer" : Str), 29), (("without_buyer_by" : Str), 9), (("worth_to" : Str), 15)]
  np := fun f => ([1, 3, 2, 1, 2, 1, 1, 1, 4, 2, 2, 2, 2, 2, 2, 2, 1, 1, 1, 2, 2, 1, 1, 2, 2, 2, 3, 4, 2, 2, 2, 2, 2, 2, 1, 1, 3, 4, 2, 2, 2, 2, 1, 2, 1, 2, 2, 4, 1, 3, 2, 1, 1, 2, 2, 1, 2, 1, 3, 1, 1, 1, 1, 1] : List Nat).getD f 0
  bns := [("abs" : Str), ("all" : Str), ("bool" : Str), ("dict" : Str), ("enumerate" : Str), ("int" : Str), ("isinstance" : Str), ("len" : Str), ("list" : Str), ("max" : Str), ("min" : Str), ("range" : Str), ("sorted" : Str), ("str" : Str), ("tuple" : Str), ("zip" : Str)]
  gcd := false
  glos := [(("MOST_BUYERS" : Str), 1), (("MOST_THINGS" : Str), 2), (("MOST_WISHED" : Str), 7), (("MOST_WORTH" : Str), 3), (("PRICE" : Str), 5), (("SERVED" : Str), 6), (("WORTH" : Str), 4)]
  tabs := [(("SIZES" : Str), 0)]
  flds := [(0, "past")]
  props := [(0, "market", 34), (0, "wishes", 35)]
  meths := [(0, "come", 38), (0, "go", 39), (0, "keep", 36), (0, "lift", 41), (0, "put", 37), (0, "undo", 42), (0, "wish", 40)]
  makes := [(("Site" : Str), 0, 33)]
  raises := [(("Broken" : Str), 8), (("InvalidIndex" : Str), 4), (("InvalidNumber" : Str), 6), (("InvalidRow" : Str), 5), (("InvalidWish" : Str), 7), (("NotAMarket" : Str), 2), (("NotNow" : Str), 3)]
  raises0 := [(("NothingToUndo" : Str), 10), (("TooMany" : Str), 9)]
  kws := [33, 37, 38, 39, 40, 41]
  pn := fun f => ([[("value" : Str)], [("value" : Str), ("low" : Str), ("high" : Str)], [("value" : Str), ("many" : Str)], [("value" : Str)], [("many" : Str), ("value" : Str)], [("value" : Str)], [("market" : Str)], [("market" : Str)], [("market" : Str), ("buyer" : Str), ("thing" : Str), ("worth" : Str)], [("market" : Str), ("buyer" : Str)], [("market" : Str), ("thing" : Str)], [("market" : Str), ("value" : Str)], [("market" : Str), ("value" : Str)], [("mark" : Str), ("many" : Str)], [("mark" : Str), ("thing" : Str)], [("row" : Str), ("thing" : Str)], [("market" : Str)], [("market" : Str)], [("market" : Str)], [("market" : Str), ("buyer" : Str)], [("market" : Str), ("thing" : Str)], [("many" : Str)], [("value" : Str)], [("market" : Str), ("value" : Str)], [("market" : Str), ("value" : Str)], [("market" : Str), ("value" : Str)], [("value" : Str), ("low" : Str), ("high" : Str)], [("market" : Str), ("buyer" : Str), ("thing" : Str), ("number" : Str)], [("market" : Str), ("row" : Str)], [("market" : Str), ("buyer" : Str)], [("market" : Str), ("value" : Str)], [("market" : Str), ("wish" : Str)], [("market" : Str), ("wishes" : Str)], [("self" : Str), ("market" : Str)], [("self" : Str)], [("self" : Str)], [("self" : Str), ("market" : Str), ("wishes" : Str)], [("self" : Str), ("buyer" : Str), ("thing" : Str), ("number" : Str)], [("self" : Str), ("row" : Str)], [("self" : Str), ("buyer" : Str)], [("self" : Str), ("wish" : Str)], [("self" : Str), ("number" : Str)], [("self" : Str)], [("pool" : Str), ("market" : Str)], [("thing" : Str)], [("pool" : Str), ("market" : Str)], [("script" : Str), ("lap" : Str)], [("pool" : Str), ("buyers" : Str), ("things" : Str), ("way" : Str)], [("thing" : Str)], [("site" : Str), ("deed" : Str), ("is_named" : Str)], [("told" : Str), ("due" : Str)], [("rows" : Str)], [("market" : Str)], [("pool" : Str), ("many" : Str)], [("pool" : Str), ("some" : Str)], [("pool" : Str)], [("many" : Str), ("thing" : Str)], [("thing" : Str)], [("pool" : Str), ("market" : Str), ("many" : Str)], [("market" : Str)], [("site" : Str)], [("market" : Str)], [("pool" : Str)], [("script" : Str)]] : List (List Str)).getD f []
  names := [(("Broken" : Str), 8), (("FitError" : Str), 1), (("InvalidIndex" : Str), 4), (("InvalidNumber" : Str), 6), (("InvalidRow" : Str), 5), (("InvalidWish" : Str), 7), (("NotAMarket" : Str), 2), (("NotNow" : Str), 3), (("NothingToUndo" : Str), 10), (("TooMany" : Str), 9)]
  hfld := [2, 3, 4, 5, 6, 7, 8]
def k80P : Prg where
  ds := [k80d0, k80d1, k80d2, k80d3, k80d4, k80d5, k80d6, k80d7, k80d8, k80d9, k80d10, k80d11, k80d12, k80d13, k80d14, k80d15, k80d16, k80d17, k80d18, k80d19, k80d20, k80d21, k80d22, k80d23, k80d24, k80d25, k80d26, k80d27, k80d28, k80d29, k80d30, k80d31, k80d32, k80d33, k80d34, k80d35, k80d36, k80d37, k80d38, k80d39, k80d40, k80d41, k80d42, k80d43, k80d44, k80d45, k80d46, k80d47, k80d48, k80d49, k80d50, k80d51, k80d52, k80d53, k80d54, k80d55, k80d56, k80d57, k80d58, k80d59, k80d60, k80d61, k80d62, k80d63]
  cs := [⟨"Site", 496, "", 414⟩, ⟨"FitError", 157, "", 1000000⟩, ⟨"NotAMarket", 177, "given", 174⟩, ⟨"NotNow", 196, "given", 193⟩, ⟨"InvalidIndex", 215, "given", 212⟩, ⟨"InvalidRow", 234, "given", 231⟩, ⟨"InvalidNumber", 253, "given", 250⟩, ⟨"InvalidWish", 272, "given", 269⟩, ⟨"Broken", 291, "index", 288⟩, ⟨"TooMany", 303, "", 1000000⟩, ⟨"NothingToUndo", 315, "", 1000000⟩]
  glos := [("__name__", .str "law_fitprices_k80_sites_refused_and_not"), ("MOST_BUYERS", .int 5), ("MOST_THINGS", .int 5), ("MOST_WORTH", .int 99), ("WORTH", .str "worth"), ("PRICE", .str "price"), ("SERVED", .str "served"), ("MOST_WISHED", .int 999)]
  tabs := [("SIZES", [("worth", .int 2), ("price", .int 3), ("served", .int 2)])]
  subs := [((8, 8), true), ((8, 1), true), ((8, 4), false), ((8, 6), false), ((8, 5), false), ((8, 7), false), ((8, 2), false), ((8, 3), false), ((8, 10), false), ((8, 9), false), ((1, 8), false), ((1, 1), true), ((1, 4), false), ((1, 6), false), ((1, 5), false), ((1, 7), false), ((1, 2), false), ((1, 3), false), ((1, 10), false), ((1, 9), false), ((4, 8), false), ((4, 1), true), ((4, 4), true), ((4, 6), false), ((4, 5), false), ((4, 7), false), ((4, 2), false), ((4, 3), false), ((4, 10), false), ((4, 9), false), ((6, 8), false), ((6, 1), true), ((6, 4), false), ((6, 6), true), ((6, 5), false), ((6, 7), false), ((6, 2), false), ((6, 3), false), ((6, 10), false), ((6, 9), false), ((5, 8), false), ((5, 1), true), ((5, 4), false), ((5, 6), false), ((5, 5), true), ((5, 7), false), ((5, 2), false), ((5, 3), false), ((5, 10), false), ((5, 9), false), ((7, 8), false), ((7, 1), true), ((7, 4), false), ((7, 6), false), ((7, 5), false), ((7, 7), true), ((7, 2), false), ((7, 3), false), ((7, 10), false), ((7, 9), false), ((2, 8), false), ((2, 1), true), ((2, 4), false), ((2, 6), false), ((2, 5), false), ((2, 7), false), ((2, 2), true), ((2, 3), false), ((2, 10), false), ((2, 9), false), ((3, 8), false), ((3, 1), true), ((3, 4), false), ((3, 6), false), ((3, 5), false), ((3, 7), false), ((3, 2), false), ((3, 3), true), ((3, 10), false), ((3, 9), false), ((10, 8), false), ((10, 1), true), ((10, 4), false), ((10, 6), false), ((10, 5), false), ((10, 7), false), ((10, 2), false), ((10, 3), false), ((10, 10), true), ((10, 9), false), ((9, 8), false), ((9, 1), true), ((9, 4), false), ((9, 6), false), ((9, 5), false), ((9, 7), false), ((9, 2), false), ((9, 3), false), ((9, 10), false), ((9, 9), true)]
  T := k80T
end G
set_option maxHeartbeats 1000000
namespace G
open PySem L2
section
variable {P : Pg} (h57 : P.fn 57 = some ⟨1, 1, k80b57⟩) (h56 : P.fn 56 = some ⟨2, 3, k80b56⟩) (h48 : P.fn 48 = some ⟨1, 2, k80b48⟩)
include h57
theorem l_is_whole (n : Nat) (d : D) (hd : pk d = true) (S : Store) : run P (n + 1) 57 [d] S = .ok (.bl (isI d)) S := by
  rw [run_at h57 rfl, W_eq]
  cases d with
  | dct t _ _ =>
    cases t with
    | false => simp [k80b57, rho0, isI]
    | true => cases hd
  | kt _ => cases hd
  | kl _ => cases hd
  | ref _ => cases hd
  | fn _ => cases hd
  | _ => simp [k80b57, rho0, isI]
include h56
theorem l_is_row (n : Nat) (k : Int) (d : D) (hd : okRow d = true) (S : Store) : run P (n + 2) 56 [.int k, d] S = .ok (.bl (isRow k d)) S := by
  by_cases ht : ∃ xs, d = .tup xs
  · obtain ⟨xs, rfl⟩ := ht
    simp only [okRow, Bool.and_eq_true, decide_eq_true_eq, List.all_eq_true] at hd
    rw [run_at h56 rfl, W_eq]
    by_cases hl : (xs.length : Int) = k
    · simp [k80b56, rho0, hl]
      refine W_mapI (tg := .name 2) (fun x => .bl (btw 0 99 x)) xs (by omega) (fun z hz => ?_) ?_
      · have h0 := l_is_whole h57 n z (hd.2 z hz) S
        refine ⟨_, rfl, by simp, ?_⟩
        cases z <;> (try simp only [isI] at h0) <;> simp [h0, btw]
        rename_i i
        by_cases a : 0 ≤ i <;> simp [a]
        omega
      · simp [isRow, hl]
    · simp [k80b56, rho0, hl, isRow]
  · have hp : pk d = true := by
      cases d <;> first | exact hd | exact absurd ⟨_, rfl⟩ ht
    have e := isTy_tup_pk hp (fun r h => ht ⟨r, h⟩)
    have e2 : isRow k d = false := by
      cases d <;> first | rfl | exact absurd ⟨_, rfl⟩ ht
    rw [e2, run_at h56 rfl, W_eq]
    simp [k80b56, rho0, e]
end
end G
set_option maxHeartbeats 1000000
namespace G
open PySem L2
section
variable {P : Pg} (h57 : P.fn 57 = some ⟨1, 1, k80b57⟩) (h56 : P.fn 56 = some ⟨2, 3, k80b56⟩) (h48 : P.fn 48 = some ⟨1, 2, k80b48⟩)
include h57 h56 h48
theorem l_is_market (n : Nat) (d : D) (hd : okMkt d = true) (S : Store) : run P (n + 3) 48 [d] S = .ok (.bl (isMktD d)) S := by
  by_cases ht : ∃ xs, d = .tup xs
  · obtain ⟨xs, rfl⟩ := ht
    simp only [okMkt, Bool.and_eq_true, decide_eq_true_eq, List.all_eq_true] at hd
    cases xs with
    | nil => rw [run_at h48 rfl, W_eq]; simp [k80b48, rho0, isMktD]
    | cons x R =>
      have hx := hd.2 x List.mem_cons_self
      have hlen : R.length + 1 ≤ 1000 := hd.1
      have c1 : ((0 : Int) < (R.length : Int) + 1) := by omega
      by_cases hR : R.length + 1 ≤ 5
      · have c2 : ((R.length : Int) + 1 < 6) := by omega
        by_cases hr : ∃ r, x = .tup r
        · obtain ⟨r, rfl⟩ := hr
          by_cases hl : 1 ≤ r.length ∧ r.length ≤ 5
          · have c3 : 0 < r.length := by omega
            have c4 : ((r.length : Int) < 6) := by omega
            rw [run_at h48 rfl, W_eq]
            simp [k80b48, rho0, c1, c2, c3, c4]
            refine W_mapI (tg := .name 1) (fun z => .bl (isRow r.length z)) (D.tup r :: R) (by simp; omega) (fun z hz => ⟨_, rfl, by simp, by simp [l_is_row h57 h56 n r.length z (hd.2 z hz)]⟩) ?_
            have := b_all S (fun z => isRow r.length z) (D.tup r :: R)
            simp at this
            simp [isMktD, hR, hl, this]
          · have : decide (1 ≤ r.length ∧ r.length ≤ 5) = false := by simpa using hl
            rw [run_at h48 rfl, W_eq]
            simp only [isMktD, this]
            by_cases c3 : 0 < r.length
            · have c4 : ¬ ((r.length : Int) < 6) := by omega
              simp [k80b48, rho0, c1, c2, c3, c4]
            · simp [k80b48, rho0, c1, c2, c3]
        · have e := isTy_tup_pk (okRow_pk hx) (fun r h => hr ⟨r, h⟩)
          have e2 : isMktD (.tup (x :: R)) = false := by
            cases x <;> first | rfl | exact absurd ⟨_, rfl⟩ hr
          rw [e2, run_at h48 rfl, W_eq]
          simp [k80b48, rho0, c1, c2, e]
      · have c2 : ¬ ((R.length : Int) + 1 < 6) := by omega
        have e2 : isMktD (.tup (x :: R)) = false := by
          cases x <;> simp [isMktD]
          omega
        rw [e2, run_at h48 rfl, W_eq]
        simp [k80b48, rho0, c1, c2]
  · have hp : pk d = true := by
      cases d <;> first | exact hd | exact absurd ⟨_, rfl⟩ ht
    have e := isTy_tup_pk hp (fun r h => ht ⟨r, h⟩)
    have e2 : isMktD d = false := by
      cases d <;> first | rfl | exact absurd ⟨_, rfl⟩ ht
    rw [e2, run_at h48 rfl, W_eq]
    simp [k80b48, rho0, e]
end
/-- a copy is the same value -/
theorem l_copy {P : Pg} (h44 : P.fn 44 = some ⟨1, 4, k80b44⟩) : ∀ (k n : Nat) (d : D) (S : Store), plG k d = true → run P (n + k) 44 [d] S = .ok d S
  | 0, n, d, S, h => by cases h
  | k + 1, n, d, S, h => by
    rw [show n + (k + 1) = (n + k) + 1 from rfl, run_at h44 rfl, W_eq]
    cases d with
    | non => simp [k80b44, rho0]
    | bl b => simp [k80b44, rho0]
    | int i => simp [k80b44, rho0]
    | str s => simp [k80b44, rho0]
    | tup xs =>
      simp only [plG, Bool.and_eq_true, List.all_eq_true, decide_eq_true_eq] at h
      simp [k80b44, rho0]
      refine W_mapI (tg := .name 3) (fun x => x) xs (by omega) (fun z hz => ⟨_, rfl, by simp, by simp [l_copy h44 k n z S (h.1 z hz)]⟩) ?_
      simp [line_le (show xs.length ≤ 1000000 by omega)]
    | lst xs =>
      simp only [plG, Bool.and_eq_true, List.all_eq_true, decide_eq_true_eq] at h
      simp [k80b44, rho0]
      refine W_mapI (tg := .name 3) (fun x => x) xs (by omega) (fun z hz => ⟨_, rfl, by simp, by simp [l_copy h44 k n z S (h.1 z hz)]⟩) ?_
      simp
    | dct t ks vs =>
      have hd : t = false ∧ ((ks = [] ∧ vs = []) ∨ ∃ s v, ks = [.str s] ∧ vs = [v] ∧ plG k v = true) := by
        unfold plG at h
        split at h <;> first
          | (cases h; done)
          | (rename_i e; cases e; done)
          | (rename_i e; cases e; exact ⟨rfl, .inl ⟨rfl, rfl⟩⟩)
          | (rename_i e1 e2; cases e1; cases e2; simp only [Bool.and_eq_true] at h; exact ⟨rfl, .inr ⟨_, _, rfl, rfl, h.2⟩⟩)
      obtain ⟨rfl, ⟨rfl, rfl⟩ | ⟨s, v, rfl, rfl, hv⟩⟩ := hd
      · simp [k80b44, rho0, loopF]
      · have h1 := l_copy h44 k n v S hv
        have e : setD (Sl.od false [] []) (.str s) v = some (.od false [.str s] [v]) := rfl
        simp [k80b44, rho0, loopF, get_one, h1, e]
    | _ => cases h
end G
set_option maxHeartbeats 1000000
namespace G
open PySem L2
theorem pow29 (S : Store) : binop S .pow (.int 10) (.int 29) = some (.int (10 ^ 29)) := by
  show (if (decide ((0 : Int) ≤ 29 ∧ (29 : Int) ≤ 1000) && decide ((10 : Int).natAbs < 2 ^ 64)) = true then some (D.int ((10 : Int) ^ (29 : Int).toNat)) else none) = _
  rw [if_pos (by decide)]
  rfl
/-- what is no index of `many` -/
def notIx (many : Int) : List D := [.int many, .int (-1), .non, .bl true, .bl false, .str "0", .tup [.int 0], .lst [.int 0], .dct false [] [], .int (10 ^ 29)]
theorem l_not_ix {P : Pg} (h21 : P.fn 21 = some ⟨1, 1, k80b21⟩) (n : Nat) (many : Int) (S : Store) : run P (n + 1) 21 [.int many] S = .ok (.lst (notIx many)) S := by
  rw [run_at h21 rfl, W_eq]
  simp [k80b21, rho0, pow29, notIx]
theorem notIx_ok (many : Int) (h : 0 ≤ many) (hm : many ≤ 1000) : ∀ d ∈ notIx many, pk d = true ∧ btw 0 (many - 1) d = false ∧ plG 3 d = true := by
  have s0 : PyData.strOk "0" = true := by decide +kernel
  intro d hd
  simp only [notIx, List.mem_cons, List.not_mem_nil, or_false] at hd
  rcases hd with rfl | rfl | rfl | rfl | rfl | rfl | rfl | rfl | rfl | rfl <;> simp [pk, btw, plG, s0] <;> omega
end G
set_option maxHeartbeats 1000000
namespace G
open PySem L2
/-- things of any kind -/
def things80 : List D := [.non, .bl true, .bl false, .int (-1), .str "", .str "0", .str "deal", .lst [], .lst [.int 0, .int 1], .dct false [] [], .dct false [.str "a"] [.int 1], .tup [.non], .tup [.tup [.tup [.tup [.int 5]]]], .tup [.bl true], .int 4, .lst [.tup [.int 0, .int 1]], .int (10 ^ 29), .tup [.tup []], .tup [.str "a"], .tup [.int 0, .int 0], .tup [.int 1, .int 0], .tup [.tup [.int 100]], .tup [.tup [.int 1, .int 2], .tup [.int 3]], .str "-", .lst [.lst [.int 0, .int 1]], .tup [.int 0, .tup []], .int 25]
theorem l_thing {P : Pg} (L : LawB P) (h55 : P.fn 55 = some ⟨1, 1, k80b55⟩) (n : Nat) {S : Store} {p : Nat} (h : PoolAt S p) : ∃ (x : D) (S' : Store), run P (n + 3) 55 [.ref p] S = .ok x S' ∧ x ∈ things80 ∧ Pl p S S' := by
  obtain ⟨x, S', e, hx, pl⟩ := m_one L n h things80 (.tup things80) (.inl rfl) (by decide)
  refine ⟨x, S', ?_, hx, pl⟩
  have hd : dispOk ["a"] [.int 1] = true := by decide +kernel
  rw [run_at h55 rfl, W_eq]
  simp only [things80] at e
  have p9 : (10 : Int) ^ 29 = 100000000000000000000000000000 := by decide
  rw [p9] at e
  simp [k80b55, rho0, pow29, hd, e, line_le (show 27 ≤ 1000000 by omega)]
theorem things80_ok : ∀ d ∈ things80, plG 6 d = true ∧ okMkt d = true := by
  have h : (things80.all fun d => plG 6 d && okMkt d) = true := by decide +kernel
  intro d hd
  have := List.all_eq_true.mp h d hd
  simpa using this
end G
set_option maxHeartbeats 1000000
namespace G
open PySem L2
theorem l_shown {P : Pg} (B : Base P) (h60 : P.fn 60 = some ⟨1, 1, k80b60⟩) (n : Nat) {S : Store} {q : Nat} {past : List D} {M : Mk} {Ws : List Wish} (h : SiteAt S q past M Ws) : run P (n + 2) 60 [.ref q] S = .ok (.tup [mk M, wsD Ws]) S := by
  have a0 := h.obj
  have a1 := m_market B n h
  have a2 := m_wishes B n h
  rw [run_at h60 rfl, W_eq]
  simp [k80b60, rho0, a0, a1, a2]
theorem l_made {P : Pg} (B : Base P) (s2 : P.sub 2 2 = some true) (h61 : P.fn 61 = some ⟨1, 2, k80b61⟩) (n : Nat) (d : D) (hd : okMkt d = true) (hb : isMktD d = false) (S : Store) : run P (n + 8) 61 [d] S = .ok (.tup [.str "market", d]) (S ++ [.obj 0 []]) := by
  have hr := g_init B n d hd hb (S ++ [.obj 0 []]) S.length
  rw [run_at h61 rfl]
  simp only [k80b61, rho0]
  simp [hr, tryH, s2, heval, permD]
end G
set_option maxHeartbeats 1000000
namespace G
open PySem L2
/-! ### things near a market -/
theorem plG_mono : ∀ (k : Nat) (d : D), plG k d = true → plG (k + 1) d = true
  | 0, _, h => by cases h
  | k + 1, d, h => by
    cases d with
    | non => rfl
    | bl b => rfl
    | int i => rfl
    | str s => exact h
    | tup xs =>
      simp only [plG, Bool.and_eq_true, List.all_eq_true] at h ⊢
      exact ⟨fun x hx => by have := plG_mono k x (h.1 x hx); simpa only [plG] using this, h.2⟩
    | lst xs =>
      simp only [plG, Bool.and_eq_true, List.all_eq_true] at h ⊢
      exact ⟨fun x hx => by have := plG_mono k x (h.1 x hx); simpa only [plG] using this, h.2⟩
    | dct t ks vs =>
      unfold plG at h
      split at h <;> first
        | (cases h; done)
        | (rename_i e; cases e; done)
        | (rename_i e; cases e; rfl)
        | (rename_i e1 e2; cases e1; cases e2; simp only [Bool.and_eq_true] at h; simp only [plG, Bool.and_eq_true]; exact ⟨h.1, plG_mono k _ h.2⟩)
    | _ => cases h
theorem plG_le {j k : Nat} (h : j ≤ k) {d : D} (hd : plG j d = true) : plG k d = true := by
  induction h with
  | refl => exact hd
  | step _ ih => exact plG_mono _ _ ih
theorem gd_row {xs : List D} (hl : xs.length ≤ 1000) (h : ∀ x ∈ xs, pk x = true ∧ plG 3 x = true) : okRow (.tup xs) = true ∧ plG 4 (.tup xs) = true := by
  simp only [okRow, plG, Bool.and_eq_true, decide_eq_true_eq, List.all_eq_true]
  exact ⟨⟨hl, fun x hx => (h x hx).1⟩, fun x hx => (h x hx).2, by omega⟩
theorem gd_mkt {xs : List D} (hl : xs.length ≤ 1000) (h : ∀ x ∈ xs, okRow x = true ∧ plG 4 x = true) : okMkt (.tup xs) = true ∧ plG 5 (.tup xs) = true := by
  simp only [okMkt, plG, Bool.and_eq_true, decide_eq_true_eq, List.all_eq_true]
  exact ⟨⟨hl, fun x hx => (h x hx).1⟩, fun x hx => (h x hx).2, by omega⟩
theorem gd_int (i : Int) : pk (.int i) = true ∧ plG 3 (.int i) = true := ⟨rfl, rfl⟩
theorem gd_ints {xs : List D} {r : List Int} (h : ∀ x ∈ xs, x ∈ r.map D.int) : ∀ x ∈ xs, pk x = true ∧ plG 3 x = true := fun x hx => by
  obtain ⟨i, _, rfl⟩ := List.mem_map.mp (h x hx)
  exact gd_int i
theorem gd_mrow {r : List Int} (h : r.length ≤ 1000) : okRow (mrow r) = true ∧ plG 4 (mrow r) = true := gd_row (by simpa using h) (gd_ints (r := r) fun _ hx => hx)
theorem gd_mk {M : Mk} (h : M.length ≤ 1000) (hr : ∀ r ∈ M, r.length ≤ 1000) : okMkt (mk M) = true ∧ plG 5 (mk M) = true := gd_mkt (by simpa using h) fun x hx => by
  obtain ⟨r, h1, rfl⟩ := List.mem_map.mp hx
  exact gd_mrow (hr r h1)
def odd7 : List D := [.int 100, .int (-1), .non, .bl true, .str "1", .tup [.int 1], .int (10 ^ 29)]
theorem odd7_ok : ∀ d ∈ odd7, pk d = true ∧ plG 3 d = true := by
  have h : (odd7.all fun d => pk d && plG 3 d) = true := by decide +kernel
  intro d hd
  simpa using List.all_eq_true.mp h d hd
/-- the rows, bent -/
def odds45 (r : List Int) (s : Nat) : List D := [.lst (r.map .int), .non, .tup ((r.map .int).drop 1), .tup (r.map .int ++ [.int 0]), .int (r.getD 0 0), .str "0"] ++ odd7.map fun e => .tup ((r.map .int).take s ++ [e] ++ (r.map .int).drop (s + 1))
theorem odds45_ok {r : List Int} {s : Nat} (h : r.length ≤ 100) : ∀ x ∈ odds45 r s, okRow x = true ∧ plG 4 x = true := by
  have s0 : PyData.strOk "0" = true := by decide +kernel
  intro x hx
  simp only [odds45, List.mem_append, List.mem_cons, List.not_mem_nil, or_false, List.mem_map] at hx
  rcases hx with (rfl | rfl | rfl | rfl | rfl | rfl) | ⟨e, he, rfl⟩
  · refine ⟨rfl, ?_⟩
    simp only [plG, Bool.and_eq_true, decide_eq_true_eq, List.all_eq_true]
    refine ⟨fun x hx => ?_, by simp; omega⟩
    obtain ⟨i, _, rfl⟩ := List.mem_map.mp hx
    rfl
  · exact ⟨rfl, rfl⟩
  · exact gd_row (by simp; omega) (gd_ints (r := r) fun x hx => List.mem_of_mem_drop hx)
  · refine gd_row (by simp; omega) fun x hx => ?_
    rcases List.mem_append.mp hx with hx | hx
    · exact gd_ints (r := r) (fun _ h => h) x hx
    · rw [List.mem_singleton.mp hx]; exact gd_int 0
  · exact ⟨rfl, rfl⟩
  · exact ⟨rfl, s0⟩
  · refine gd_row (by simp; omega) fun x hx => ?_
    simp only [List.append_assoc, List.mem_append, List.mem_singleton] at hx
    rcases hx with hx | rfl | hx
    · exact gd_ints (r := r) (fun _ h => List.mem_of_mem_take h) x hx
    · exact odd7_ok _ he
    · exact gd_ints (r := r) (fun _ h => List.mem_of_mem_drop h) x hx
def rep6 (xs : List D) : List D := (List.replicate 6 xs).flatten.take 6
theorem rep6_mem {xs : List D} : ∀ x ∈ rep6 xs, x ∈ xs := fun x hx => by
  have := List.mem_of_mem_take hx
  rw [List.mem_flatten] at this
  obtain ⟨l, h1, h2⟩ := this
  rw [(List.mem_replicate.mp h1).2] at h2
  exact h2
theorem rep6_len (xs : List D) : (rep6 xs).length ≤ 6 := by unfold rep6; rw [List.length_take]; omega
/-- a market, bent -/
def bent45 (M : Mk) (r : List Int) (x : D) (a s : Nat) : List D := [mk M, .lst (M.map mrow), .tup [], .non, mrow r, .dct false [] [], .str "0", .tup [mk M], .tup (rep6 (M.map mrow)), x, .tup (M.map fun r => .tup (rep6 (r.map .int))), .tup (M.map fun _ => .tup [])] ++ (odds45 r s).map fun e => .tup ((M.map mrow).take a ++ [e] ++ (M.map mrow).drop (a + 1))
theorem bent45_ok {m : Nat} {M : Mk} (hM : Mkt m M) {r : List Int} (hr : r.length ≤ 5) {x : D} (hx : plG 6 x = true ∧ okMkt x = true) {a s : Nat} : ∀ d ∈ bent45 M r x a s, okMkt d = true ∧ plG 6 d = true := by
  have hln := hM.ln
  have hth := hM.th
  have s0 : PyData.strOk "0" = true := by decide +kernel
  have hrl : ∀ q ∈ M, q.length ≤ 1000 := fun q hq => by have := (hM.ok q hq).1; omega
  have up : ∀ {d : D}, okMkt d = true ∧ plG 5 d = true → okMkt d = true ∧ plG 6 d = true := fun h => ⟨h.1, plG_mono _ _ h.2⟩
  have hmr : ∀ y ∈ M.map mrow, okRow y = true ∧ plG 4 y = true := fun y hy => by
    obtain ⟨q, hq, rfl⟩ := List.mem_map.mp hy
    exact gd_mrow (hrl q hq)
  intro d hd
  simp only [bent45, List.mem_append, List.mem_cons, List.not_mem_nil, or_false, List.mem_map] at hd
  rcases hd with (rfl | rfl | rfl | rfl | rfl | rfl | rfl | rfl | rfl | rfl | rfl | rfl) | ⟨e, he, rfl⟩
  · exact up (gd_mk (by omega) hrl)
  · refine ⟨rfl, ?_⟩
    have : plG 5 (.lst (M.map mrow)) = true := by
      simp only [plG, Bool.and_eq_true, decide_eq_true_eq, List.all_eq_true]
      exact ⟨fun y hy => (hmr y hy).2, by simp; omega⟩
    exact plG_mono _ _ this
  · exact ⟨rfl, rfl⟩
  · exact ⟨rfl, rfl⟩
  · have := gd_mkt (xs := r.map .int) (by simp; omega) fun x hx => by
      obtain ⟨i, _, rfl⟩ := List.mem_map.mp hx
      exact ⟨rfl, rfl⟩
    exact up this
  · exact ⟨rfl, rfl⟩
  · exact ⟨rfl, s0⟩
  · have h1 := gd_mk (M := M) (by omega) hrl
    refine ⟨?_, ?_⟩
    · simp only [okMkt, List.all_cons, List.all_nil, Bool.and_true, Bool.and_eq_true, decide_eq_true_eq, List.length_singleton]
      refine ⟨by omega, ?_⟩
      rw [mk_def]
      simp only [okRow, Bool.and_eq_true, decide_eq_true_eq, List.all_eq_true]
      refine ⟨by simp; omega, fun y hy => ?_⟩
      obtain ⟨q, hq, rfl⟩ := List.mem_map.mp hy
      rfl
    · show plG (5 + 1) (.tup [mk M]) = true
      simp only [plG, Bool.and_eq_true, decide_eq_true_eq, List.all_cons, List.all_nil, Bool.and_true]
      exact ⟨by have := h1.2; simpa only [plG] using this, by simp⟩
  · exact up (gd_mkt (by have := rep6_len (M.map mrow); omega) fun y hy => hmr y (rep6_mem y hy))
  · exact ⟨hx.2, hx.1⟩
  · refine up (gd_mkt (by simp; omega) fun y hy => ?_)
    obtain ⟨q, hq, rfl⟩ := List.mem_map.mp hy
    exact gd_row (by have := rep6_len (q.map D.int); omega) (gd_ints (r := q) rep6_mem)
  · refine up (gd_mkt (by simp; omega) fun y hy => ?_)
    obtain ⟨q, hq, rfl⟩ := List.mem_map.mp hy
    exact gd_row (by simp) (by simp)
  · refine up (gd_mkt (by simp; omega) fun y hy => ?_)
    simp only [List.append_assoc, List.mem_append, List.mem_singleton] at hy
    rcases hy with hy | rfl | hy
    · exact hmr y (List.mem_of_mem_take hy)
    · exact odds45_ok (by omega) _ he
    · exact hmr y (List.mem_of_mem_drop hy)
theorem mul6 (S : Store) (xs : List D) (h : xs ≠ []) (hl : xs.length ≤ 1000) : binop S .mul (.tup xs) (.int 6) = some (.tup (List.replicate 6 xs).flatten) := by
  show (if (6 : Int) = 1 then some (D.tup xs) else if (decide (2 ≤ (6 : Int) ∧ (6 : Int) ≤ 1000 ∧ xs ≠ []) && decide (xs.length ≤ 1000)) = true then some (D.tup (List.replicate (6 : Int).toNat xs).flatten) else none) = _
  rw [if_neg (by omega), if_pos (by simp [h, hl])]
  rfl
theorem cut6 (xs : List D) : cutD xs none (some 6) = xs.take 6 := cut_take (α := Nat) xs 6
theorem cut_d1 (xs : List D) : cutD xs (some 1) none = xs.drop 1 := cut_drop xs 1
theorem l_bent {P : Pg} (L : LawB P) (h45 : P.fn 45 = some ⟨2, 10, k80b45⟩) (h55 : P.fn 55 = some ⟨1, 1, k80b55⟩) {m : Nat} (n : Nat) {S : Store} {p : Nat} (h : PoolAt S p) (M : Mk) (hM : Mkt m M) : ∃ (r : List Int) (x : D) (a s : Nat) (S' : Store), run P (n + 4) 45 [.ref p, mk M] S = .ok (.lst (bent45 M r x a s)) S' ∧ r.length ≤ 5 ∧ x ∈ things80 ∧ Pl p S S' := by
  have hln := hM.ln
  have hth := hM.th
  have hW : W (run P (n + 4) 45 [.ref p, mk M] S) fun d S' => ∃ (r : List Int) (x : D) (a s : Nat), d = .lst (bent45 M r x a s) ∧ r.length ≤ 5 ∧ x ∈ things80 ∧ Pl p S S' := by
    obtain ⟨a, S1, f1, ha, p1⟩ := m_below L (n + 2) h M.length (by omega)
    obtain ⟨x, S2, f2, hx, p2⟩ := l_thing L h55 n p1.pool
    have hr : M[a].length = m := (hM.ok _ (List.getElem_mem ha)).1
    obtain ⟨s, S3, f3, hs, p3⟩ := m_below L (n + 2) p2.pool m (by omega)
    have e2 : ∀ S, bfun S .len [mk M] = some (.int M.length) := fun S => by simp [mk_def]
    have ei : ∀ S, index S (mk M) (.int a) = some (mrow M[a]) := fun S => by
      rw [mk_def, index_tup, List.length_map, ixOf_nat ha]
      simp [ha]
    rw [run_at h45 rfl, W_fin]
    simp only [k80b45]
    have hmr0 : M.map mrow ≠ [] := by
      have := hM.ne
      simpa using this
    refine exs_step (ρ' := [.v (.ref p), .v (mk M), .v (.int a), .no, .no, .no, .no, .no, .no, .no]) (S' := S1) (by
      simp [rho0, e2, f1]) ?_
    refine exs_step (ρ' := [.v (.ref p), .v (mk M), .v (.int a), .v (mrow M[a]), .no, .no, .no, .no, .no, .no]) (S' := S1) (by
      simp [ei]) ?_
    have hne6 : ∀ q ∈ M, q.map D.int ≠ [] := fun q hq => by
      have h1 := (hM.ok q hq).1
      intro e
      have e2 : q = [] := by simpa using e
      subst e2
      simp at h1; omega
    have m6 : ∀ S, binop S .mul (mk M) (.int 6) = some (.tup (List.replicate 6 (M.map mrow)).flatten) := fun S => mul6 S _ hmr0 (by simp; omega)
    have bl : ∀ S (xs : List D), bfun S .list [.tup xs] = some (.lst xs) := fun S xs => rfl
    refine exs_step (ρ' := [.v (.ref p), .v (mk M), .v (.int a), .v (mrow M[a]), .v (.lst [mk M, .lst (M.map mrow), .tup [], .non, mrow M[a], .dct false [] [], .str "0", .tup [mk M], .tup (rep6 (M.map mrow)), x, .tup (M.map fun r => .tup (rep6 (r.map .int))), .tup (M.map fun _ => .tup [])]), .no, .no, .no, .no, .no]) (S' := S2) (by
      rw [W_eq]
      have bm : ∀ S, bfun S .list [mk M] = some (.lst (M.map mrow)) := fun S => rfl
      have im : itemsOf .over [mk M] = some (M.map mrow) := rfl
      simp [m6, bm, im, optB, slice_tup, cut6, f2]
      refine W_map (tg := .name 9) mrow (fun r => .tup (rep6 (r.map .int))) M (by omega) (fun z hz => ⟨_, rfl, by simp, by simp [mul6 _ _ (hne6 z hz) (by have := (hM.ok z hz).1; simp; omega), optB, slice_tup, cut6, rep6]⟩) ?_
      simp [im]
      refine W_map (tg := .name 9) mrow (fun r => .tup []) M (by omega) (fun z hz => ⟨_, rfl, by simp, by simp⟩) ?_
      simp [rep6]) ?_
    have x0 : ixOf m 0 = some 0 := ixOf_nat (n := m) (k := 0) (by omega)
    have y0 : M[a][0]? = some (M[a][0]'(by omega)) := List.getElem?_eq_getElem (by omega)
    refine exs_step (ρ' := [.v (.ref p), .v (mk M), .v (.int a), .v (mrow M[a]), .v (.lst [mk M, .lst (M.map mrow), .tup [], .non, mrow M[a], .dct false [] [], .str "0", .tup [mk M], .tup (rep6 (M.map mrow)), x, .tup (M.map fun r => .tup (rep6 (r.map .int))), .tup (M.map fun _ => .tup [])]), .v (.lst [.lst (M[a].map .int), .non, .tup ((M[a].map .int).drop 1), .tup (M[a].map .int ++ [.int 0]), .int (M[a].getD 0 0), .str "0"]), .no, .no, .no, .no]) (S' := S2) (by
      simp [bl, optB, slice_tup, cut_d1, x0, y0, hr, line_le (show m + 1 ≤ 1000000 by omega)]) ?_
    have bL : bfun S2 .len [mrow M[a]] = some (.int m) := by simp [hr]
    refine exs_step (ρ' := [.v (.ref p), .v (mk M), .v (.int a), .v (mrow M[a]), .v (.lst [mk M, .lst (M.map mrow), .tup [], .non, mrow M[a], .dct false [] [], .str "0", .tup [mk M], .tup (rep6 (M.map mrow)), x, .tup (M.map fun r => .tup (rep6 (r.map .int))), .tup (M.map fun _ => .tup [])]), .v (.lst [.lst (M[a].map .int), .non, .tup ((M[a].map .int).drop 1), .tup (M[a].map .int ++ [.int 0]), .int (M[a].getD 0 0), .str "0"]), .v (.int s), .no, .no, .no]) (S' := S3) (by
      simp [hr, f3]) ?_
    refine exs_step (ρ' := [.v (.ref p), .v (mk M), .v (.int a), .v (mrow M[a]), .v (.lst [mk M, .lst (M.map mrow), .tup [], .non, mrow M[a], .dct false [] [], .str "0", .tup [mk M], .tup (rep6 (M.map mrow)), x, .tup (M.map fun r => .tup (rep6 (r.map .int))), .tup (M.map fun _ => .tup [])]), .v (.lst (odds45 M[a] s)), .v (.int s), .no, .no, .no]) (S' := S3) (by
      rw [W_eq]
      simp [pow29]
      refine W_mapI (tg := .name 7) (fun e => .tup ((M[a].map .int).take s ++ [e] ++ (M[a].map .int).drop (s + 1))) odd7 (by simp [odd7]) (fun z hz => ⟨_, rfl, by simp, ?_⟩) ?_
      · simp [optB, slice_tup, cut_take (α := Nat), cut_drop1, hr, line_le (show min s m + 1 ≤ 1000000 by omega), line_le (show min s m + 1 + (m - (s + 1)) ≤ 1000000 by omega)]
      · simp [odd7, odds45, line_le (show 13 ≤ 1000000 by omega)]) ?_
    have s1 : slice S3 (mk M) none (some (a : Int)) = some (.tup ((M.map mrow).take a)) := by rw [mk_def, slice_tup, cut_take (α := Nat)]
    have s2 : slice S3 (mk M) (some ((a : Int) + 1)) none = some (.tup ((M.map mrow).drop (a + 1))) := by rw [mk_def, slice_tup, cut_drop1]
    have ol : (odds45 M[a] s).length = 13 := by simp [odds45, odd7]
    simp
    refine W_mapI (tg := .name 8) (fun e => .tup ((M.map mrow).take a ++ [e] ++ (M.map mrow).drop (a + 1))) (odds45 M[a] s) (by omega) (fun z hz => ⟨_, rfl, by simp, ?_⟩) ?_
    · simp [optB, s1, s2, line_le (show min a M.length + 1 ≤ 1000000 by omega), line_le (show min a M.length + 1 + (M.length - (a + 1)) ≤ 1000000 by omega)]
    · simp [ol, line_le (show 25 ≤ 1000000 by omega)]
      exact ⟨M[a], x, ⟨a, s, by simp [bent45]⟩, by omega, hx, p1.trans (p2.trans p3)⟩
  obtain ⟨d, S', e, r, x, a, s, rfl, h1⟩ := hW.out
  exact ⟨r, x, a, s, S', e, h1⟩
end G
set_option maxHeartbeats 1000000
namespace G
open PySem L2
/-- the law's own defs, k80 -/
structure L80 (P : Pg) : Prop where
  B : Base P
  L : LawB P
  sub : ∀ a b v, k95P.pg.sub a b = some v → P.sub a b = some v
  s22 : P.sub 2 2 = some true
  h21 : P.fn 21 = some ⟨1, 1, k80b21⟩
  h43 : P.fn 43 = some ⟨2, 3, k80b43⟩
  h44 : P.fn 44 = some ⟨1, 4, k80b44⟩
  h45 : P.fn 45 = some ⟨2, 10, k80b45⟩
  h48 : P.fn 48 = some ⟨1, 2, k80b48⟩
  play : P.fn 49 = some ⟨3, 5, k95b49⟩
  h50 : P.fn 50 = some ⟨2, 5, alikeB .keys⟩
  h55 : P.fn 55 = some ⟨1, 1, k80b55⟩
  h56 : P.fn 56 = some ⟨2, 3, k80b56⟩
  h57 : P.fn 57 = some ⟨1, 1, k80b57⟩
  h58 : P.fn 58 = some ⟨3, 8, k80b58⟩
  h59 : P.fn 59 = some ⟨1, 2, k80b59⟩
  h60 : P.fn 60 = some ⟨1, 1, k80b60⟩
  h61 : P.fn 61 = some ⟨1, 2, k80b61⟩
  right : P.fn 62 = some ⟨1, 13, k80b62⟩
  law : P.fn 63 = some ⟨1, 2, k80b63⟩
/-- a loop over plain things -/
theorem W_loopI {tg : Tg} {body : Rho → Store → Out Res} (R : List D → Rho → Store → Prop) (xs : List D) (h : ∀ pre' y suf', xs = pre' ++ y :: suf' → ∀ ρ S, R pre' ρ S → ∃ ρ', putTg S ρ tg y = some ρ' ∧ W (body ρ' S) fun r S2 => ∃ ρ2, r = .nx ρ2 ∧ R (pre' ++ [y]) ρ2 S2) (ρ : Rho) (S : Store) {Q : Res → Store → Prop} (r : R [] ρ S) (q : ∀ ρ2 S2, R xs ρ2 S2 → Q (.nx ρ2) S2) : W (loopF tg body xs ρ S) Q := by
  have := W_loop (fun x : D => x) R xs [] (by simpa using h) ρ S r (by simpa using q)
  rwa [List.map_id'] at this
/-- a deed that is refused, and what is due -/
def Wrong (P : Pg) (m : Nat) (M : Mk) (Ws : List Wish) (deed due : D) : Prop := plG 6 due = true ∧ ∀ (n : Nat) (S : Store) (q : Nat) (past : List D), SiteAt S q past M Ws → ∀ nm : Bool, run P (n + 9) 49 [.ref q, deed, .bl nm] S = .ok due S
def WL (P : Pg) (m : Nat) (M : Mk) (Ws : List Wish) (k : Nat) (xs : List D) : Prop := xs.length ≤ k ∧ ∀ x ∈ xs, ∃ deed due, x = .tup [deed, due] ∧ Wrong P m M Ws deed due
theorem WL.app {P : Pg} {m : Nat} {M : Mk} {Ws : List Wish} {k l : Nat} {xs ys : List D} (h : WL P m M Ws k xs) (g : WL P m M Ws l ys) : WL P m M Ws (k + l) (xs ++ ys) := ⟨by have := h.1; have := g.1; simp; omega, fun x hx => by
  rcases List.mem_append.mp hx with hx | hx
  · exact h.2 x hx
  · exact g.2 x hx⟩
theorem WL.one {P : Pg} {m : Nat} {M : Mk} {Ws : List Wish} {deed due : D} (h : Wrong P m M Ws deed due) : WL P m M Ws 1 [.tup [deed, due]] := ⟨by simp, fun x hx => by rw [List.mem_singleton.mp hx]; exact ⟨_, _, rfl, h⟩⟩
theorem plG_pair {s : Str} {d : D} (hs : PyData.strOk s = true) (h : plG 5 d = true) : plG 6 (.tup [.str s, d]) = true := by
  show plG (5 + 1) (.tup [.str s, d]) = true
  rw [plG]
  simp only [List.all_cons, List.all_nil, Bool.and_true, Bool.and_eq_true, decide_eq_true_eq]
  exact ⟨⟨hs, h⟩, by simp⟩
theorem strOk_index : PyData.strOk "index" = true := by decide +kernel
theorem strOk_number : PyData.strOk "number" = true := by decide +kernel
theorem strOk_row : PyData.strOk "row" = true := by decide +kernel
theorem strOk_wish : PyData.strOk "wish" = true := by decide +kernel
theorem strOk_market : PyData.strOk "market" = true := by decide +kernel
section
variable {P : Pg} (K : L80 P) {m : Nat} {M : Mk} (hM : Mkt m M) {Ws : List Wish}
include K hM
theorem wr_put_b {b t w : D} (h1 : pk b = true) (h2 : btw 0 ((M.length : Int) - 1) b = false) (h3 : plG 3 b = true) : Wrong P m M Ws (.tup [.str "put", b, t, w]) (.tup [.str "index", b]) :=
  ⟨plG_pair strOk_index (plG_le (by omega) h3), fun n S q past h nm => p_put_b K.B K.play K.sub n h hM b t w h1 h2 nm⟩
theorem wr_go {b : D} (h1 : pk b = true) (h2 : btw 0 ((M.length : Int) - 1) b = false) (h3 : plG 3 b = true) : Wrong P m M Ws (.tup [.str "go", b]) (.tup [.str "index", b]) :=
  ⟨plG_pair strOk_index (plG_le (by omega) h3), fun n S q past h nm => p_go K.B K.play K.sub n h hM b h1 h2 nm⟩
theorem wr_put_t {b : Nat} {t w : D} (hb : b < M.length) (h1 : pk t = true) (h2 : btw 0 ((m : Int) - 1) t = false) (h3 : plG 3 t = true) : Wrong P m M Ws (.tup [.str "put", .int b, t, w]) (.tup [.str "index", t]) :=
  ⟨plG_pair strOk_index (plG_le (by omega) h3), fun n S q past h nm => p_put_t K.B K.play K.sub n h hM b t w hb h1 h2 nm⟩
theorem wr_put_n {b t : Nat} {w : D} (hb : b < M.length) (ht : t < m) (h1 : pk w = true) (h2 : btw 0 99 w = false) (h3 : plG 3 w = true) : Wrong P m M Ws (.tup [.str "put", .int b, .int t, w]) (.tup [.str "number", w]) :=
  ⟨plG_pair strOk_number (plG_le (by omega) h3), fun n S q past h nm => p_put_n K.B K.play K.sub n h hM b t w hb ht h1 h2 nm⟩
theorem wr_come {r : D} (h1 : okRow r = true) (h2 : isRow m r = false) (h3 : plG 4 r = true) : Wrong P m M Ws (.tup [.str "come", r]) (.tup [.str "row", r]) :=
  ⟨plG_pair strOk_row (plG_le (by omega) h3), fun n S q past h nm => p_come K.B K.play K.sub n h hM r h1 h2 nm⟩
theorem wr_lift {k : D} (h1 : pk k = true) (h2 : btw 0 ((Ws.length : Int) - 1) k = false) (h3 : plG 3 k = true) : Wrong P m M Ws (.tup [.str "lift", k]) (.tup [.str "number", k]) :=
  ⟨plG_pair strOk_number (plG_le (by omega) h3), fun n S q past h nm => p_lift K.B K.play K.sub n h hM k h1 h2 nm⟩
end
/-- what is no worth -/
def notN : List D := [.int 100, .int (-1), .non, .bl true, .bl false, .str "1", .tup [.int 1], .int (10 ^ 29)]
theorem notN_ok : ∀ d ∈ notN, pk d = true ∧ btw 0 99 d = false ∧ plG 3 d = true := by
  have h : (notN.all fun d => pk d && (!btw 0 99 d && plG 3 d)) = true := by decide +kernel
  intro d hd
  have := List.all_eq_true.mp h d hd
  simpa using this
/-- what is no row -/
def ones (m : Nat) : List D := List.replicate m (.int 1)
def notR (m : Nat) : List D := [.lst (ones m), .non, .int 0, .str "0", .dct false [] [], .tup [], .tup (ones m ++ [.int 1]), .tup ((ones m).drop 1), .tup ((ones m).take (m - 1) ++ [.int 100]), .tup ((ones m).take (m - 1) ++ [.int (-1)]), .tup ((ones m).take (m - 1) ++ [.non]), .tup ((ones m).take (m - 1) ++ [.bl true]), .tup [.tup (ones m)]]
theorem notR_ok {m : Nat} (h1 : 1 ≤ m) (h2 : m ≤ 5) : ∀ d ∈ notR m, okRow d = true ∧ isRow m d = false ∧ plG 4 d = true := by
  have h : (notR m).all (fun d => okRow d && (!isRow m d && plG 4 d)) = true := by
    have : m = 1 ∨ m = 2 ∨ m = 3 ∨ m = 4 ∨ m = 5 := by omega
    rcases this with rfl | rfl | rfl | rfl | rfl <;> decide +kernel
  intro d hd
  have := List.all_eq_true.mp h d hd
  simpa using this
/-- what is no index of two wishes -/
def notL : List D := [.int 2, .int (-1), .non, .bl true, .str "0", .tup [.int 0], .int (10 ^ 29)]
theorem notL_ok : ∀ d ∈ notL, pk d = true ∧ btw 0 1 d = false ∧ plG 3 d = true := by
  have h : (notL.all fun d => pk d && (!btw 0 1 d && plG 3 d)) = true := by decide +kernel
  intro d hd
  have := List.all_eq_true.mp h d hd
  simpa using this
theorem mul_ones (S : Store) (m : Nat) (h1 : 1 ≤ m) (h2 : m ≤ 5) : binop S .mul (.tup [.int 1]) (.int m) = some (.tup (ones m)) := by
  show (if (m : Int) = 1 then some (D.tup [.int 1]) else if (decide (2 ≤ (m : Int) ∧ (m : Int) ≤ 1000 ∧ [D.int 1] ≠ []) && decide ([D.int 1].length ≤ 1000)) = true then some (D.tup (List.replicate (m : Int).toNat [D.int 1]).flatten) else none) = _
  by_cases h : m = 1
  · subst h
    rw [if_pos (by omega)]; rfl
  · rw [if_neg (by omega), if_pos (by simp; omega)]
    simp [ones, List.flatten_replicate_singleton]
theorem bor_at {ρ : Rho} {xs : List D} {i : Nat} (h : ρ[i]? = some (.ol xs)) : ρ.borrow i = some (.lst xs) := by
  simp [Rho.borrow, h]
section
variable {P : Pg} (K : L80 P)
include K
theorem l_wrong {m : Nat} (n : Nat) {S : Store} {p : Nat} (h : PoolAt S p) (M : Mk) (hM : Mkt m M) (Ws : List Wish) (hWs : Ws.length = 2) : ∃ (xs : List D) (S' : Store), run P (n + 3) 58 [.ref p, mk M, .int 2] S = .ok (.lst xs) S' ∧ WL P m M Ws 60 xs ∧ Pl p S S' := by
  have hln := hM.ln
  have hth := hM.th
  obtain ⟨r0, R, eM⟩ : ∃ r R, M = r :: R := by cases M with
    | nil => exact absurd rfl hM.ne
    | cons r R => exact ⟨r, R, rfl⟩
  have hr0 := (hM.ok r0 (by rw [eM]; simp)).1
  have e1 : ∀ S, index S (mk M) (.int 0) = some (mrow r0) := fun S => by rw [eM]; simp [mk_def]
  have e2 : ∀ S, bfun S .len [mk M] = some (.int M.length) := fun S => by simp [mk_def]
  have hW : W (run P (n + 3) 58 [.ref p, mk M, .int 2] S) fun d S' => ∃ xs, d = .lst xs ∧ WL P m M Ws 60 xs ∧ Pl p S S' := by
    rw [run_at K.h58 rfl, W_fin]
    simp only [k80b58]
    refine exs_step (ρ' := [.v (.ref p), .v (mk M), .v (.int 2), .no, .no, .no, .v (.int M.length), .v (.int m)]) (S' := S) (by
      simp [rho0, e1, e2, hr0]) ?_
    refine exs_step (ρ' := [.v (.ref p), .v (mk M), .v (.int 2), .ol [], .no, .no, .v (.int M.length), .v (.int m)]) (S' := S) (by
      simp) ?_
    have a1 := l_not_ix K.h21 (n + 1) (M.length : Int) S
    refine exs_for3 (S1 := S) (ds := [.lst (notIx M.length)]) (xs := notIx M.length) (by simp [a1]) rfl (R := fun x S2 => ∃ xs s4, x = .nx [.v (.ref p), .v (mk M), .v (.int 2), .ol xs, s4, .no, .v (.int M.length), .v (.int m)] ∧ WL P m M Ws 20 xs ∧ Pl p S S2) ?_ ?_
    · refine W_loopI (fun pre ρ S' => ∃ xs s4, ρ = [.v (.ref p), .v (mk M), .v (.int 2), .ol xs, s4, .no, .v (.int M.length), .v (.int m)] ∧ WL P m M Ws (2 * pre.length) xs ∧ Pl p S S') (notIx M.length) ?_ _ _ ⟨[], _, rfl, ⟨by simp, by simp⟩, Pl.refl h⟩ ?_
      · rintro pre y suf e ρ S1 ⟨xs, s4, rfl, hx, p1⟩
        have hy := notIx_ok (M.length : Int) (by omega) (by omega) y (by rw [e]; simp)
        have hpl : pre.length < 10 := by
          have := congrArg List.length e
          simp [notIx] at this; omega
        obtain ⟨t, S2, f2, ht, p2⟩ := m_one K.L n p1.pool [.int 0, .non] _ (.inl rfl) (by simp)
        obtain ⟨w, S3, f3, hw, p3⟩ := m_one K.L n p2.pool [.int 1, .str "1"] _ (.inl rfl) (by simp)
        refine ⟨_, rfl, ?_⟩
        have hl := hx.1
        refine exs_step (ρ' := [.v (.ref p), .v (mk M), .v (.int 2), .ol (xs ++ [.tup [.tup [.str "put", y, t, w], .tup [.str "index", y]], .tup [.tup [.str "go", y], .tup [.str "index", y]]]), .v y, .no, .v (.int M.length), .v (.int m)]) (S' := S3) (by
          simp [f2, f3, line_le (show xs.length + 2 ≤ 1000000 by omega)]) ?_
        refine exs_end ⟨_, rfl, _, _, rfl, ?_, p1.trans (p2.trans p3)⟩
        have := hx.app ((WL.one (wr_put_b K hM (t := t) (w := w) hy.1 hy.2.1 hy.2.2)).app (WL.one (wr_go K hM hy.1 hy.2.1 hy.2.2)))
        rw [List.length_append, List.length_singleton]
        exact this
      · rintro ρ2 S2 ⟨xs, s4, rfl, hx, p1⟩
        exact ⟨xs, s4, rfl, hx, p1⟩
    rintro x S2 ⟨xs, s4, rfl, hx, p1⟩
    refine ⟨_, rfl, ?_⟩
    -- things
    have a2 := l_not_ix K.h21 (n + 1) (m : Int) S2
    refine exs_for3 (S1 := S2) (ds := [.lst (notIx m)]) (xs := notIx m) (by simp [a2]) rfl (R := fun x S2 => ∃ xs s4, x = .nx [.v (.ref p), .v (mk M), .v (.int 2), .ol xs, s4, .no, .v (.int M.length), .v (.int m)] ∧ WL P m M Ws 30 xs ∧ Pl p S S2) ?_ ?_
    · refine W_loopI (fun pre ρ S' => ∃ xs s4, ρ = [.v (.ref p), .v (mk M), .v (.int 2), .ol xs, s4, .no, .v (.int M.length), .v (.int m)] ∧ WL P m M Ws (20 + pre.length) xs ∧ Pl p S S') (notIx m) ?_ _ _ ⟨xs, _, rfl, hx, p1⟩ ?_
      · rintro pre y suf e ρ S1 ⟨xs, s4, rfl, hx, p1⟩
        have hy := notIx_ok (m : Int) (by omega) (by omega) y (by rw [e]; simp)
        have hpl : pre.length < 10 := by
          have := congrArg List.length e
          simp [notIx] at this; omega
        obtain ⟨w, S3, f3, hw, p3⟩ := m_one K.L n p1.pool [.int 1, .non, .int 100] _ (.inl rfl) (by simp)
        refine ⟨_, rfl, ?_⟩
        have hl := hx.1
        refine exs_step (ρ' := [.v (.ref p), .v (mk M), .v (.int 2), .ol (xs ++ [.tup [.tup [.str "put", .int (0 : Nat), y, w], .tup [.str "index", y]]]), .v y, .no, .v (.int M.length), .v (.int m)]) (S' := S3) (by
          simp [f3, line_le (show xs.length ≤ 1000000 by omega)]) ?_
        refine exs_end ⟨_, rfl, _, _, rfl, ?_, p1.trans p3⟩
        have := hx.app (WL.one (wr_put_t K hM (b := 0) (w := w) (by omega) hy.1 hy.2.1 hy.2.2))
        rw [List.length_append, List.length_singleton]
        exact this
      · rintro ρ2 S2 ⟨xs, s4, rfl, hx, p1⟩
        exact ⟨xs, s4, rfl, hx, p1⟩
    rintro x S2 ⟨xs, s4, rfl, hx, p1⟩
    refine ⟨_, rfl, ?_⟩
    -- worths
    refine exs_for3 (S1 := S2) (ds := [.tup notN]) (xs := notN) (by simp [pow29, notN]) rfl (R := fun x S2 => ∃ xs s4, x = .nx [.v (.ref p), .v (mk M), .v (.int 2), .ol xs, s4, .no, .v (.int M.length), .v (.int m)] ∧ WL P m M Ws 38 xs ∧ Pl p S S2) ?_ ?_
    · refine W_loopI (fun pre ρ S' => ∃ xs s4, ρ = [.v (.ref p), .v (mk M), .v (.int 2), .ol xs, s4, .no, .v (.int M.length), .v (.int m)] ∧ WL P m M Ws (30 + pre.length) xs ∧ Pl p S S') notN ?_ _ _ ⟨xs, _, rfl, hx, p1⟩ ?_
      · rintro pre y suf e ρ S1 ⟨xs, s4, rfl, hx, p1⟩
        have hy := notN_ok y (by rw [e]; simp)
        have hpl : pre.length < 8 := by
          have := congrArg List.length e
          simp [notN] at this; omega
        refine ⟨_, rfl, ?_⟩
        have hl := hx.1
        have i1 : (M.length : Int) - 1 = ((M.length - 1 : Nat) : Int) := by omega
        have i2 : (m : Int) - 1 = ((m - 1 : Nat) : Int) := by omega
        refine exs_step (ρ' := [.v (.ref p), .v (mk M), .v (.int 2), .ol (xs ++ [.tup [.tup [.str "put", .int (M.length - 1 : Nat), .int (m - 1 : Nat), y], .tup [.str "number", y]]]), .v y, .no, .v (.int M.length), .v (.int m)]) (S' := S1) (by
          rw [← i1, ← i2]
          simp [line_le (show xs.length ≤ 1000000 by omega)]) ?_
        refine exs_end ⟨_, rfl, _, _, rfl, ?_, p1⟩
        have := hx.app (WL.one (wr_put_n K hM (b := M.length - 1) (t := m - 1) (by omega) (by omega) hy.1 hy.2.1 hy.2.2))
        rw [List.length_append, List.length_singleton]
        exact this
      · rintro ρ2 S2 ⟨xs, s4, rfl, hx, p1⟩
        exact ⟨xs, s4, rfl, hx, p1⟩
    rintro x S2 ⟨xs, s4, rfl, hx, p1⟩
    refine ⟨_, rfl, ?_⟩
    refine exs_step (ρ' := [.v (.ref p), .v (mk M), .v (.int 2), .ol xs, s4, .v (.tup (ones m)), .v (.int M.length), .v (.int m)]) (S' := S2) (by
      simp [mul_ones _ m hth.1 hth.2]) ?_
    -- rows
    have o1 : (ones m).length = m := by simp [ones]
    have bl : ∀ S (xs : List D), bfun S .list [.tup xs] = some (.lst xs) := fun S xs => rfl
    have oc : cutD (ones m) none (some (-1)) = (ones m).take (m - 1) := by rw [cut_init, o1]
    refine exs_for3 (S1 := S2) (ds := [.lst (notR m)]) (xs := notR m) (by
      simp [bl, notR, slice_tup, optB, cut_d1, oc, o1, line_le (show m - 1 + 1 ≤ 1000000 by omega), line_le (show m + 1 ≤ 1000000 by omega), line_le (show min (m - 1) m + 1 ≤ 1000000 by omega)]) rfl (R := fun x S2 => ∃ xs s4, x = .nx [.v (.ref p), .v (mk M), .v (.int 2), .ol xs, s4, .v (.tup (ones m)), .v (.int M.length), .v (.int m)] ∧ WL P m M Ws 51 xs ∧ Pl p S S2) ?_ ?_
    · refine W_loopI (fun pre ρ S' => ∃ xs s4, ρ = [.v (.ref p), .v (mk M), .v (.int 2), .ol xs, s4, .v (.tup (ones m)), .v (.int M.length), .v (.int m)] ∧ WL P m M Ws (38 + pre.length) xs ∧ Pl p S S') (notR m) ?_ _ _ ⟨xs, _, rfl, hx, p1⟩ ?_
      · rintro pre y suf e ρ S1 ⟨xs, s4, rfl, hx, p1⟩
        have hy := notR_ok hth.1 hth.2 y (by rw [e]; simp)
        have hpl : pre.length < 13 := by
          have := congrArg List.length e
          simp [notR] at this; omega
        refine ⟨_, rfl, ?_⟩
        have hl := hx.1
        refine exs_step (ρ' := [.v (.ref p), .v (mk M), .v (.int 2), .ol (xs ++ [.tup [.tup [.str "come", y], .tup [.str "row", y]]]), .v y, .v (.tup (ones m)), .v (.int M.length), .v (.int m)]) (S' := S1) (by
          simp [line_le (show xs.length ≤ 1000000 by omega)]) ?_
        refine exs_end ⟨_, rfl, _, _, rfl, ?_, p1⟩
        have := hx.app (WL.one (wr_come K hM hy.1 hy.2.1 hy.2.2))
        rw [List.length_append, List.length_singleton]
        exact this
      · rintro ρ2 S2 ⟨xs, s4, rfl, hx, p1⟩
        exact ⟨xs, s4, rfl, hx, p1⟩
    rintro x S2 ⟨xs, s4, rfl, hx, p1⟩
    refine ⟨_, rfl, ?_⟩
    -- lifts
    refine exs_for3 (S1 := S2) (ds := [.tup notL]) (xs := notL) (by simp [pow29, notL]) rfl (R := fun x S2 => ∃ xs s4, x = .nx [.v (.ref p), .v (mk M), .v (.int 2), .ol xs, s4, .v (.tup (ones m)), .v (.int M.length), .v (.int m)] ∧ WL P m M Ws 58 xs ∧ Pl p S S2) ?_ ?_
    · refine W_loopI (fun pre ρ S' => ∃ xs s4, ρ = [.v (.ref p), .v (mk M), .v (.int 2), .ol xs, s4, .v (.tup (ones m)), .v (.int M.length), .v (.int m)] ∧ WL P m M Ws (51 + pre.length) xs ∧ Pl p S S') notL ?_ _ _ ⟨xs, _, rfl, hx, p1⟩ ?_
      · rintro pre y suf e ρ S1 ⟨xs, s4, rfl, hx, p1⟩
        have hy := notL_ok y (by rw [e]; simp)
        have hpl : pre.length < 7 := by
          have := congrArg List.length e
          simp [notL] at this; omega
        refine ⟨_, rfl, ?_⟩
        have hl := hx.1
        refine exs_step (ρ' := [.v (.ref p), .v (mk M), .v (.int 2), .ol (xs ++ [.tup [.tup [.str "lift", y], .tup [.str "number", y]]]), .v y, .v (.tup (ones m)), .v (.int M.length), .v (.int m)]) (S' := S1) (by
          simp [line_le (show xs.length ≤ 1000000 by omega)]) ?_
        refine exs_end ⟨_, rfl, _, _, rfl, ?_, p1⟩
        have := hx.app (WL.one (wr_lift K hM hy.1 (by rw [hWs]; exact hy.2.1) hy.2.2))
        rw [List.length_append, List.length_singleton]
        exact this
      · rintro ρ2 S2 ⟨xs, s4, rfl, hx, p1⟩
        exact ⟨xs, s4, rfl, hx, p1⟩
    rintro x S2 ⟨xs, s4, rfl, hx, p1⟩
    refine ⟨_, rfl, ?_⟩
    refine exs_step (ρ' := [.v (.ref p), .v (mk M), .v (.int 2), .v (.lst xs), s4, .v (.tup (ones m)), .v (.int M.length), .v (.int m)]) (S' := S2) (by
      simp) ?_
    simp
    exact ⟨⟨by have := hx.1; omega, hx.2⟩, p1⟩
  obtain ⟨d, S', e, xs, rfl, h1, h2⟩ := hW.out
  exact ⟨xs, S', e, h1, h2⟩
end
end G
set_option maxHeartbeats 1000000
namespace G
open PySem L2
/-- what are no wishes -/
def nwA : List D := [.non, .int 5, .tup [], .str "worth", .lst [.str "worth", .int 1], .tup [.str "worth"], .tup [.str "worth", .int 1, .int 1], .tup [.str "worth", .int 1000], .tup [.str "worth", .int (-1)], .tup [.str "worth", .non], .tup [.str "worth", .bl true]]
def nwB : List D := [.tup [.str "worth", .str "1"], .tup [.str "price", .int 0], .tup [.str "price", .int 0, .int 1000], .tup [.str "price", .int 0, .int (-1)], .tup [.str "price", .non, .int 1]]
def nwC (b m : Int) : List D := [.tup [.str "served", .int b], .tup [.str "served", .int (-1)], .tup [.str "price", .int m, .int 1], .tup [.str "price", .int (-1), .int 1], .tup [.str "served", .int (10 ^ 29)]]
def nwD : List D := [.tup [.str "price", .int 0, .bl true], .tup [.str "price", .bl true, .int 1], .tup [.str "price", .str "0", .int 1], .tup [.str "price", .int 0, .int 1, .int 1], .tup [.str "served"], .tup [.str "served", .non], .tup [.str "served", .bl true]]
def nwE : List D := [.tup [.str "served", .int 0, .int 1], .tup [.str "served", .tup [.int 0]], .tup [.str "serve", .int 0], .tup [.str "", .int 0], .tup [.int 0, .int 0], .tup [.non, .int 0], .dct false [] []]
def nw (b m : Int) : List D := (((nwA ++ nwB) ++ nwC b m) ++ nwD) ++ nwE
theorem strOk_0 : PyData.strOk "0" = true := by decide +kernel
theorem strOk_1 : PyData.strOk "1" = true := by decide +kernel
theorem strOk_e : PyData.strOk "" = true := by decide +kernel
theorem strOk_serve : PyData.strOk "serve" = true := by decide +kernel
theorem nw_pl (b m : Int) : ∀ d ∈ nw b m, plG 5 d = true := by
  intro d hd
  simp only [nw, nwA, nwB, nwC, nwD, nwE, List.mem_append, List.mem_cons, List.not_mem_nil, or_false] at hd
  rcases hd with (((h | h) | h) | h) | h
  all_goals
    rcases h with h
    revert d
  all_goals simp [plG, strOk_worth, strOk_price, strOk_served, strOk_0, strOk_1, strOk_e, strOk_serve]
theorem lk_serve : List.lookup ("serve" : Str) (k95P.pg.tab 0) = none := by decide +kernel
theorem lk_e : List.lookup ("" : Str) (k95P.pg.tab 0) = none := by decide +kernel
theorem nw_no {P : Pg} (B : Base P) {m : Nat} (n : Nat) (M : Mk) (hM : Mkt m M) (S : Store) : ∀ d ∈ nw M.length m, run P (n + 4) 30 [mk M, d] S = .ok (.bl false) S := by
  have hln := hM.ln
  have hth := hM.th
  have w1 := w_len B n M "worth" 
  intro d hd
  simp only [nw, nwA, nwB, nwC, nwD, nwE, List.mem_append, List.mem_cons, List.not_mem_nil, or_false] at hd
  rcases hd with (((h | h) | h) | h) | h
  · rcases h with rfl | rfl | rfl | rfl | rfl | rfl | rfl | rfl | rfl | rfl | rfl
    · exact w_not_tup B n M _ rfl (by simp) S
    · exact w_not_tup B n M _ rfl (by simp) S
    · exact w_nil B n M S
    · exact w_not_tup B n M _ rfl (by simp) S
    · exact w_not_tup B n M _ rfl (by simp) S
    · exact w_len B n M "worth" [] 2 (by simp [plD, strOk_worth]) lk_worth (by simp) S
    · exact w_len B n M "worth" [.int 1, .int 1] 2 (by simp [plD, strOk_worth]) lk_worth (by simp) S
    · exact w_worth B n M _ rfl (by simp [plD, strOk_worth]) (by simp [btw]) S
    · exact w_worth B n M _ rfl (by simp [plD, strOk_worth]) (by simp [btw]) S
    · exact w_worth B n M _ rfl (by simp [plD, strOk_worth]) (by simp [btw]) S
    · exact w_worth B n M _ rfl (by simp [plD, strOk_worth]) (by simp [btw]) S
  · rcases h with rfl | rfl | rfl | rfl | rfl
    · exact w_worth B n M _ rfl (by simp [plD, strOk_worth, strOk_1]) (by simp [btw]) S
    · exact w_len B n M "price" [.int 0] 3 (by simp [plD, strOk_price]) lk_price (by simp) S
    · exact w_price B n M _ _ rfl (by simp [plD, strOk_price]) (by simp [btw]) S
    · exact w_price B n M _ _ rfl (by simp [plD, strOk_price]) (by simp [btw]) S
    · exact w_price_t B n M hM.ok hM.ne _ 1 (by omega) rfl (by simp [plD, strOk_price]) (by simp [btw]) S
  · rcases h with rfl | rfl | rfl | rfl | rfl
    · exact w_served B n M _ rfl (by simp [plD, strOk_served]) (by simp [btw]; omega) S
    · exact w_served B n M _ rfl (by simp [plD, strOk_served]) (by simp [btw]) S
    · exact w_price_t B n M hM.ok hM.ne _ 1 (by omega) rfl (by simp [plD, strOk_price]) (by simp [btw]; omega) S
    · exact w_price_t B n M hM.ok hM.ne _ 1 (by omega) rfl (by simp [plD, strOk_price]) (by simp [btw]) S
    · exact w_served B n M _ rfl (by simp [plD, strOk_served]) (by simp [btw]; omega) S
  · rcases h with rfl | rfl | rfl | rfl | rfl | rfl | rfl
    · exact w_price B n M _ _ rfl (by simp [plD, strOk_price]) (by simp [btw]) S
    · exact w_price_t B n M hM.ok hM.ne _ 1 (by omega) rfl (by simp [plD, strOk_price]) (by simp [btw]) S
    · exact w_price_t B n M hM.ok hM.ne _ 1 (by omega) rfl (by simp [plD, strOk_price, strOk_0]) (by simp [btw]) S
    · exact w_len B n M "price" [.int 0, .int 1, .int 1] 3 (by simp [plD, strOk_price]) lk_price (by simp) S
    · exact w_len B n M "served" [] 2 (by simp [plD, strOk_served]) lk_served (by simp) S
    · exact w_served B n M _ rfl (by simp [plD, strOk_served]) (by simp [btw]) S
    · exact w_served B n M _ rfl (by simp [plD, strOk_served]) (by simp [btw]) S
  · rcases h with rfl | rfl | rfl | rfl | rfl | rfl | rfl
    · exact w_len B n M "served" [.int 0, .int 1] 2 (by simp [plD, strOk_served]) lk_served (by simp) S
    · exact w_served B n M _ rfl (by simp [plD, strOk_served]) (by simp [btw]) S
    · exact w_word B n M "serve" _ (by simp [plD, strOk_serve]) lk_serve S
    · exact w_word B n M "" _ (by simp [plD, strOk_e]) lk_e S
    · exact w_nstr B n M _ _ (by simp [plD]) rfl S
    · exact w_nstr B n M _ _ (by simp [plD]) rfl S
    · exact w_not_tup B n M _ rfl (by simp) S
theorem nw_len (b m : Int) : (nw b m).length = 35 := rfl
section
variable {P : Pg} (K : L80 P)
include K
theorem l_nw {m : Nat} (n : Nat) (M : Mk) (hM : Mkt m M) (S : Store) : run P (n + 1) 59 [mk M] S = .ok (.lst (nw M.length m)) S := by
  obtain ⟨r0, R, eM⟩ : ∃ r R, M = r :: R := by cases M with
    | nil => exact absurd rfl hM.ne
    | cons r R => exact ⟨r, R, rfl⟩
  have hr0 := (hM.ok r0 (by rw [eM]; simp)).1
  have e1 : ∀ S, index S (mk M) (.int 0) = some (mrow r0) := fun S => by rw [eM]; simp [mk_def]
  have e2 : ∀ S, bfun S .len [mk M] = some (.int M.length) := fun S => by simp [mk_def]
  rw [run_at K.h59 rfl, W_eq]
  simp [k80b59, rho0, e1, e2, hr0, pow29, line_le (show 21 ≤ 1000000 by omega), line_le (show 28 ≤ 1000000 by omega), line_le (show 35 ≤ 1000000 by omega), nw, nwA, nwB, nwC, nwD, nwE]
theorem wr_wish {m : Nat} {M : Mk} (hM : Mkt m M) {Ws : List Wish} : WL P m M Ws 35 ((nw M.length m).map fun w => .tup [.tup [.str "wish", w], .tup [.str "wish", w]]) := by
  refine ⟨by simp [nw_len], fun x hx => ?_⟩
  obtain ⟨w, hw, rfl⟩ := List.mem_map.mp hx
  exact ⟨_, _, rfl, plG_pair strOk_wish (nw_pl _ _ w hw), fun n S q past h nm => p_wish K.B K.play K.sub n h hM w (nw_no K.B (n + 3) M hM S w hw) nm⟩
end
end G
set_option maxHeartbeats 1000000
namespace G
open PySem L2
theorem plG_of : ∀ (k : Nat) (d : D), plD k d = true → plG k d = true
  | 0, _, h => by cases h
  | k + 1, d, h => by
    cases d with
    | non => rfl
    | bl b => rfl
    | int i => rfl
    | str s => exact h
    | tup xs =>
      simp only [plD, plG, Bool.and_eq_true, List.all_eq_true] at h ⊢
      exact ⟨fun x hx => plG_of k x (h.1 x hx), h.2⟩
    | lst xs =>
      simp only [plD, plG, Bool.and_eq_true, List.all_eq_true] at h ⊢
      exact ⟨fun x hx => plG_of k x (h.1 x hx), h.2⟩
    | _ => cases h
theorem plG_pair6 {s : Str} {d : D} (hs : PyData.strOk s = true) (h : plG 6 d = true) : plG 7 (.tup [.str s, d]) = true := by
  show plG (6 + 1) (.tup [.str s, d]) = true
  rw [plG]
  simp only [List.all_cons, List.all_nil, Bool.and_true, Bool.and_eq_true, decide_eq_true_eq]
  exact ⟨⟨hs, h⟩, by simp⟩
theorem W_filterI {tg : Tg} {ρ : Rho} {T : Rho → Store → Out Bool} {F : Rho → Store → Out D} {S1 : Store} {Q : List D → Store → Prop} (t : D → Bool) (zs : List D) (hl : zs.length ≤ 1000000) (h : ∀ z ∈ zs, ∃ ρ', putTg S1 ρ tg z = some ρ' ∧ T ρ' S1 = .ok (t z) S1 ∧ F ρ' S1 = .ok z S1) (q : Q (zs.filter t) S1) :
    W (compL tg ρ T F [] zs S1) Q := by
  have := W_filter (fun x : D => x) (fun x => x) t zs hl (fun z hz => by obtain ⟨ρ', a, b, c⟩ := h z hz; exact ⟨ρ', a, b, fun _ => c⟩) (by rw [List.map_id']; exact q)
  rwa [List.map_id'] at this
def hist (M : Mk) (Ws : List Wish) : List D := (List.range Ws.length).map fun i => stD (M, Ws.take i)
theorem hist_snoc (M : Mk) (Ws : List Wish) (y : Wish) : hist M (Ws ++ [y]) = hist M Ws ++ [stD (M, Ws)] := by
  simp only [hist, List.length_append, List.length_singleton, List.range_succ, List.map_append, List.map_cons, List.map_nil]
  congr 1
  · refine List.map_congr_left fun i hi => ?_
    have := List.mem_range.mp hi
    rw [List.take_append_of_le_length (by omega)]
  · simp
/-- the wishes of k80 -/
def ws80 (m : Nat) (M : Mk) : List Wish := [.worth (most m M), .price 0 (lp m M 0)]
theorem ws80_hold (m : Nat) (M : Mk) : ∀ w ∈ ws80 m M, holds m M w = true := by
  intro w hw
  simp only [ws80, List.mem_cons, List.not_mem_nil, or_false] at hw
  rcases hw with rfl | rfl <;> simp [holds]
theorem ws80_wok {m : Nat} {M : Mk} (hM : Mkt m M) : ∀ w ∈ ws80 m M, wok m M w := by
  have hln := hM.ln
  have hth := hM.th
  have hmb := most_bd hM.ok
  have hlp := lp_nn hM.ok 0
  have hlq := lp_le hM.ok (t := 0) (by omega) hln.2
  intro w hw
  simp only [ws80, List.mem_cons, List.not_mem_nil, or_false] at hw
  rcases hw with rfl | rfl
  · simp only [wok]; omega
  · simp only [wok]; omega
theorem wok_wok' {m : Nat} {M : Mk} {w : Wish} (h : wok m M w) : wok' m w := by
  cases w <;> first | trivial | exact h.1
theorem undo_site {S : Store} {q : Nat} {M M' : Mk} {Ws Ws' : List Wish} {pb : List D} (h : SiteAt S q (pb ++ [stD (M', Ws')]) M Ws) : SiteAt (S.set q (.obj 0 [("past", .tup (pb ++ [stD (M', Ws')]))])) q pb M' Ws' := by
  have hq : q < S.length := (List.getElem?_eq_some_iff.mp h).1
  unfold SiteAt
  rw [List.getElem?_set_self hq]
  rfl
theorem Pl.site {p q : Nat} {S S' : Store} (h : Pl p S S') (hq : q ≠ p) {past : List D} {M : Mk} {Ws : List Wish} (hs : SiteAt S q past M Ws) : SiteAt S' q past M Ws := by
  unfold SiteAt at hs ⊢
  rw [h.same q hq]; exact hs
theorem PoolAt.set_ne {S : Store} {p q : Nat} (h : PoolAt S p) (hq : q ≠ p) (c : Cell) : PoolAt (S.set q c) p := by
  obtain ⟨a, b, c, e⟩ := h
  exact ⟨a, b, c, by rw [List.getElem?_set_ne hq]; exact e⟩
theorem PoolAt.app {S : Store} {p : Nat} (h : PoolAt S p) (T : Store) : PoolAt (S ++ T) p := by
  have hl := h.lt
  obtain ⟨a, b, c, e⟩ := h
  exact ⟨a, b, c, by rw [List.getElem?_append_left hl]; exact e⟩
section
variable {P : Pg} (K : L80 P)
include K
theorem l_notmk {m : Nat} (n : Nat) {S : Store} {p : Nat} (h : PoolAt S p) (M : Mk) (hM : Mkt m M) : ∃ (xs : List D) (S' : Store), run P (n + 5) 43 [.ref p, mk M] S = .ok (.lst xs) S' ∧ (∀ x ∈ xs, okMkt x = true ∧ plG 6 x = true ∧ isMktD x = false) ∧ Pl p S S' := by
  obtain ⟨r, x, a, s, S1, f1, hr, hx, p1⟩ := l_bent K.L K.h45 K.h55 n h M hM
  have hb := bent45_ok hM hr (things80_ok x hx) (a := a) (s := s)
  have hl : (bent45 M r x a s).length ≤ 1000000 := by simp [bent45, odds45, odd7]
  have hW : W (run P (n + 5) 43 [.ref p, mk M] S) fun d S' => ∃ xs, d = .lst xs ∧ (∀ x ∈ xs, okMkt x = true ∧ plG 6 x = true ∧ isMktD x = false) ∧ Pl p S S' := by
    rw [run_at K.h43 rfl, W_fin]
    simp [k80b43, rho0, f1]
    refine W_filterI (tg := .name 2) (fun d => !isMktD d) (bent45 M r x a s) hl (fun z hz => ⟨_, rfl, by simp [l_is_market K.h57 K.h56 K.h48 (n + 1) z (hb z hz).1], by simp⟩) ?_
    simp
    refine ⟨fun z hz hz2 => ⟨(hb z hz).1, (hb z hz).2, hz2⟩, p1⟩
  obtain ⟨d, S', e, xs, rfl, h1, h2⟩ := hW.out
  exact ⟨xs, S', e, h1, h2⟩
end
end G
set_option maxHeartbeats 2000000
namespace G
open PySem L2
def lapB80 : List G.S := match k80b62 with
  | .for_ _ _ _ b :: _ => b
  | _ => []
def endB80 : List G.S := k80b62.drop 1
/-- a site and the pool -/
structure At80 (p q : Nat) (M : Mk) (Ws : List Wish) (S : Store) : Prop where
  pool : PoolAt S p
  site : SiteAt S q (hist M Ws) M Ws
theorem At80.pl {p q : Nat} {M : Mk} {Ws : List Wish} {S S' : Store} (h : At80 p q M Ws S) (hq : q ≠ p) (p1 : Pl p S S') : At80 p q M Ws S' := ⟨p1.pool, p1.site hq h.site⟩
theorem At80.undone {p q : Nat} {M : Mk} {Ws : List Wish} {y : Wish} {S : Store} (h : At80 p q M (Ws ++ [y]) S) (hq : q ≠ p) : At80 p q M Ws (S.set q (.obj 0 [("past", .tup (hist M (Ws ++ [y])))])) := by
  refine ⟨h.pool.set_ne hq _, ?_⟩
  have := h.site
  rw [hist_snoc] at this ⊢
  exact undo_site this
section
variable {P : Pg} (K : L80 P)
include K
theorem a80_undo {p q : Nat} (n : Nat) {M : Mk} {Ws : List Wish} {y : Wish} {S : Store} (h : At80 p q M (Ws ++ [y]) S) : run P (n + 2) 49 [.ref q, .tup [.str "undo"], .bl false] S = .ok .non (S.set q (.obj 0 [("past", .tup (hist M (Ws ++ [y])))])) :=
  m_play_undo K.B K.play K.sub n h.site (by simp [hist])
theorem a80_shown {p q : Nat} (n : Nat) {M : Mk} {Ws : List Wish} {S : Store} (h : At80 p q M Ws S) : run P (n + 2) 60 [.ref q] S = .ok (.tup [mk M, wsD Ws]) S := l_shown K.B K.h60 n h.site
theorem a80_alike {m : Nat} (n : Nat) {M : Mk} (hM : Mkt m M) {Ws : List Wish} (hl : Ws.length ≤ 2) (S : Store) : run P (n + 4) 50 [.tup [mk M, wsD Ws], .tup [mk M, wsD Ws]] S = .ok (.bl true) S :=
  m_alikeG K.h50 4 n _ S (plG_of _ _ (plD_state (k := 0) hM (by omega)))
theorem m_lap80 (n p : Nat) (lap : Nat) (hlap : lap < 5) {S : Store} (hp : PoolAt S p) {s2 s3 s4 s5 s6 s7 s8 s9 s10 s11 s12 : Sl} :
    W (execs (evOf P (n + 20)) [.v (.ref p), .v (.int lap), s2, s3, s4, s5, s6, s7, s8, s9, s10, s11, s12] lapB80 S) fun r S2 => ∃ t2 t3 t4 t5 t6 t7 t8 t9 t10 t11 t12, r = .nx [.v (.ref p), .v (.int lap), t2, t3, t4, t5, t6, t7, t8, t9, t10, t11, t12] ∧ PoolAt S2 p := by
  simp only [lapB80, k80b62]
  obtain ⟨u, S1, f1, hu, p1⟩ := m_below K.L (n + 19) hp 4 (by omega)
  obtain ⟨md, hmd, hmd4⟩ := fmod_nat (i := (lap : Int)) (n := 4) (by omega)
  have hm5 : (lap : Int).fmod 5 = lap := by
    have : lap = 0 ∨ lap = 1 ∨ lap = 2 ∨ lap = 3 ∨ lap = 4 := by omega
    rcases this with rfl | rfl | rfl | rfl | rfl <;> rfl
  obtain ⟨M, S2, f2, hM, hMl, p2⟩ := m_market_draw K.L (n + 18) p1.pool (1 + md) (1 + u) lap (by omega) (by omega) (by omega)
  simp at f1 f2 hmd
  have hln := hM.ln
  have hth := hM.th
  refine exs_step (ρ' := [.v (.ref p), .v (.int lap), s2, .v (mk M), s4, s5, s6, s7, s8, s9, s10, s11, s12]) (S' := S2) (by
    simp [f1, hmd, hm5, f2]) ?_
  -- the site
  obtain ⟨z, S3, f3, hz, p3⟩ := m_below K.L (n + 19) p2.pool 2 (by omega)
  simp at f3
  obtain ⟨x1, x2, x3, e3⟩ := p3.pool
  have hpl := p3.pool.lt
  have hini := m_init K.B (n + 13) M hM (S3 ++ [.obj 0 []]) S3.length (by simp)
  have c4 : ((S3 ++ [Cell.obj 0 []]).set S3.length (siteO [] M []))[S3.length]? = some (siteO [] M []) := List.getElem?_set_self (by simp)
  have d4 : ((S3 ++ [Cell.obj 0 []]).set S3.length (siteO [] M []))[p]? = S3[p]? := by
    rw [List.getElem?_set_ne (by omega), List.getElem?_append_left hpl]
  rw [e3] at d4
  generalize hq : S3.length = q at hini c4 d4 hpl
  have hqp : q ≠ p := by omega
  refine exs_step (ρ' := [.v (.ref p), .v (.int lap), s2, .v (mk M), .v (.ref q), s5, s6, s7, s8, s9, s10, s11, s12]) (S' := (S3 ++ [Cell.obj 0 []]).set q (siteO [] M [])) (by
    by_cases hz0 : z = 0
    · simp [f3, hz0, hq, hini]
    · simp [f3, hz0, hq, hini]) ?_
  generalize (S3 ++ [Cell.obj 0 []]).set q (siteO [] M []) = S4 at c4 d4
  have h4 : At80 p q M [] S4 := ⟨⟨x1, x2, x3, d4⟩, c4⟩
  -- the wishes
  have g1 := m_mostT K.L (n + 19) M hM.ok hln.2 (by omega) S4
  have g2 := m_least K.L (n + 18) M hM.ok hM.ne hln.2 hth.2 S4
  have e5 : wsD (ws80 (1 + u) M) = .tup [.tup [.str "worth", .int (most (1 + u) M)], .tup [.str "price", .int 0, .int (lp (1 + u) M 0)]] := rfl
  have hwl : (ws80 (1 + u) M).length = 2 := rfl
  refine exs_step (ρ' := [.v (.ref p), .v (.int lap), s2, .v (mk M), .v (.ref q), .v (wsD (ws80 (1 + u) M)), s6, s7, s8, s9, s10, s11, s12]) (S' := S4) (by
    have x0 : ixOf (1 + u) 0 = some 0 := ixOf_nat (n := 1 + u) (k := 0) (by omega)
    rw [e5]
    simp [g1, g2, x0, show 0 < 1 + u by omega]) ?_
  have hok := ws80_wok hM
  have hho := ws80_hold (1 + u) M
  refine exs_for3 (S1 := S4) (ds := [wsD (ws80 (1 + u) M)]) (xs := (ws80 (1 + u) M).map wD) (by simp) rfl (R := fun x S2 => ∃ s6, x = .nx [.v (.ref p), .v (.int lap), s2, .v (mk M), .v (.ref q), .v (wsD (ws80 (1 + u) M)), s6, s7, s8, s9, s10, s11, s12] ∧ At80 p q M (ws80 (1 + u) M) S2) ?_ ?_
  · refine W_loop wD (fun pre ρ S' => ∃ s6, ρ = [.v (.ref p), .v (.int lap), s2, .v (mk M), .v (.ref q), .v (wsD (ws80 (1 + u) M)), s6, s7, s8, s9, s10, s11, s12] ∧ At80 p q M pre S') (ws80 (1 + u) M) [] ?_ _ _ ⟨_, rfl, h4⟩ ?_
    · rintro pre y suf e ρ S5 ⟨s6, rfl, h5⟩
      rw [List.nil_append] at e
      have hsub : ∀ w ∈ pre ++ [y], w ∈ ws80 (1 + u) M := fun w hw => by
        rw [e]; simp at hw ⊢; rcases hw with hw | hw
        · exact .inl hw
        · exact .inr (.inl hw)
      have hpl2 : pre.length < 2 := by
        have := congrArg List.length e
        rw [hwl] at this
        simp at this; omega
      obtain ⟨x, S6, f6, hx, p6⟩ := m_below K.L (n + 19) h5.pool 2 (by omega)
      have h6 := h5.pl hqp p6
      simp at f6
      have hbr : brk (1 + u) M (pre ++ [y]) = [] := brk_nil_iff.mpr fun w hw => hho w (hsub w hw)
      have f7 := m_play K.B K.play K.sub (n + 11) h6.site hM (by simp [hist]; omega) (fun w hw => wok_wok' (hok w (hsub w (by simp [hw])))) (by omega) (.wish y) ⟨hok y (hsub y (by simp)), by simp, by simp⟩ (decide (x = 0))
      simp only [nxt, hbr, tD, tS2] at f7
      refine ⟨_, rfl, ?_⟩
      refine exs_step (ρ' := [.v (.ref p), .v (.int lap), s2, .v (mk M), .v (.ref q), .v (wsD (ws80 (1 + u) M)), .v (wD y), s7, s8, s9, s10, s11, s12]) (S' := S6.set q (siteO (hist M pre ++ [.tup [mk M, wsD pre]]) M (pre ++ [y]))) (by
        simp only [deedD] at f7
        simp [f6, f7]) ?_
      refine exs_end ⟨_, rfl, _, rfl, h6.pool.set_ne hqp _, ?_⟩
      have hq6 : q < S6.length := (List.getElem?_eq_some_iff.mp h6.site).1
      unfold SiteAt
      rw [List.getElem?_set_self hq6, hist_snoc]; rfl
    · rintro ρ2 S5 ⟨s6, rfl, h5⟩
      exact ⟨_, rfl, h5⟩
  rintro x S5 ⟨t6, rfl, h5⟩
  refine ⟨_, rfl, ?_⟩
  -- the wrong deeds
  obtain ⟨xs, S6, f6, hx, p6⟩ := l_wrong K (n + 17) h5.pool M hM (ws80 (1 + u) M) hwl
  have h6 := h5.pl hqp p6
  have f7 := l_nw K (n + 19) M hM S6
  have hww := wr_wish K hM (Ws := ws80 (1 + u) M)
  have hxl := hx.app hww
  have hxs := hx.1
  refine exs_for3 (S1 := S6) (ds := [.lst (xs ++ (nw M.length (1 + u : Nat)).map fun w => .tup [.tup [.str "wish", w], .tup [.str "wish", w]])]) (xs := xs ++ (nw M.length (1 + u : Nat)).map fun w => .tup [.tup [.str "wish", w], .tup [.str "wish", w]]) (by
    rw [W_eq]
    simp [f6, f7]
    refine W_mapI (tg := .name 8) (fun w => .tup [.tup [.str "wish", w], .tup [.str "wish", w]]) (nw M.length (1 + u : Nat)) (by rw [nw_len]; omega) (fun z hz => ⟨_, rfl, by simp, by simp⟩) ?_
    simp [nw_len, line_le (show xs.length + 35 ≤ 1000000 by omega)]) rfl (R := fun x S2 => ∃ s11 s12, x = .nx [.v (.ref p), .v (.int lap), s2, .v (mk M), .v (.ref q), .v (wsD (ws80 (1 + u) M)), t6, s7, s8, s9, s10, s11, s12] ∧ At80 p q M (ws80 (1 + u) M) S2) ?_ ?_
  · refine W_loopI (fun pre ρ S' => ∃ s11 s12, ρ = [.v (.ref p), .v (.int lap), s2, .v (mk M), .v (.ref q), .v (wsD (ws80 (1 + u) M)), t6, s7, s8, s9, s10, s11, s12] ∧ At80 p q M (ws80 (1 + u) M) S') _ ?_ _ _ ⟨_, _, rfl, h6⟩ ?_
    · rintro pre y suf e ρ S7 ⟨t11, t12, rfl, h7⟩
      obtain ⟨deed, due, rfl, hpl, hw⟩ := hxl.2 y (by rw [e]; simp)
      obtain ⟨x, S8, f8, hx, p8⟩ := m_below K.L (n + 19) h7.pool 2 (by omega)
      have h8 := h7.pl hqp p8
      simp at f8
      have f9 := hw (n + 11) S8 q _ h8.site (decide (x = 0))
      have f10 := m_alikeG K.h50 6 (n + 14) due S8 hpl
      have f11 := a80_shown K (n + 18) h8
      have f12 := a80_alike K (n + 16) hM (Ws := ws80 (1 + u) M) (by rw [hwl]; omega) S8
      refine ⟨_, rfl, ?_⟩
      refine exs_step (ρ' := [.v (.ref p), .v (.int lap), s2, .v (mk M), .v (.ref q), .v (wsD (ws80 (1 + u) M)), t6, s7, s8, s9, s10, .v deed, .v due]) (S' := S8) (by
        simp [f8, f9, f10, f11, f12]) ?_
      exact exs_end ⟨_, rfl, _, _, rfl, h8⟩
    · rintro ρ2 S7 ⟨t11, t12, rfl, h7⟩
      exact ⟨_, _, rfl, h7⟩
  rintro x S7 ⟨t11, t12, rfl, h7⟩
  refine ⟨_, rfl, ?_⟩
  -- undone twice
  refine exs_for3 (S1 := S7) (ds := [.tup [wsD [.worth (most (1 + u) M)], wsD []]]) (xs := [[Wish.worth (most (1 + u) M)], []].map wsD) (by
    have e : cutD [D.tup [.str "worth", .int (most (1 + u) M)], .tup [.str "price", .int 0, .int (lp (1 + u) M 0)]] none (some 1) = [.tup [.str "worth", .int (most (1 + u) M)]] := cut_take (α := Nat) _ 1
    rw [e5]
    simp [optB, slice_tup, e, wsD, wD]) rfl (R := fun x S2 => ∃ s7, x = .nx [.v (.ref p), .v (.int lap), s2, .v (mk M), .v (.ref q), .v (wsD (ws80 (1 + u) M)), t6, s7, s8, s9, s10, t11, t12] ∧ At80 p q M [] S2) ?_ ?_
  · refine W_loop wsD (fun pre ρ S' => ∃ s7, ρ = [.v (.ref p), .v (.int lap), s2, .v (mk M), .v (.ref q), .v (wsD (ws80 (1 + u) M)), t6, s7, s8, s9, s10, t11, t12] ∧ At80 p q M ((ws80 (1 + u) M).take (2 - pre.length)) S') [[Wish.worth (most (1 + u) M)], []] [] ?_ _ _ ⟨_, rfl, h7⟩ ?_
    · rintro pre y suf e ρ S8 ⟨t7, rfl, h8⟩
      rw [List.nil_append] at e
      obtain ⟨w, ew, hy, hyl⟩ : ∃ w, (ws80 (1 + u) M).take (2 - pre.length) = y ++ [w] ∧ (ws80 (1 + u) M).take (2 - (pre ++ [y]).length) = y ∧ y.length ≤ 2 := by
        match pre, e with
        | [], e => cases e; exact ⟨_, rfl, rfl, by simp⟩
        | [a], e => cases e; exact ⟨_, rfl, rfl, by simp⟩
        | a :: b :: c, e =>
          have := congrArg List.length e
          simp at this
      rw [ew] at h8
      have f9 := a80_undo K (n + 18) h8
      have h9 := h8.undone hqp
      generalize S8.set q (.obj 0 [("past", .tup (hist M (y ++ [w])))]) = S9 at f9 h9
      have f11 := a80_shown K (n + 18) h9
      have f12 := a80_alike K (n + 16) hM hyl S9
      refine ⟨_, rfl, ?_⟩
      refine exs_step (ρ' := [.v (.ref p), .v (.int lap), s2, .v (mk M), .v (.ref q), .v (wsD (ws80 (1 + u) M)), t6, .v (wsD y), s8, s9, s10, t11, t12]) (S' := S9) (by
        simp [f9, f11, f12]) ?_
      exact exs_end ⟨_, rfl, _, rfl, by rw [hy]; exact h9⟩
    · rintro ρ2 S8 ⟨t7, rfl, h8⟩
      exact ⟨_, rfl, h8⟩
  rintro x S8 ⟨t7, rfl, h8⟩
  refine ⟨_, rfl, ?_⟩
  have f9 := m_play_undo0 K.B K.play K.sub (n + 18) (show SiteAt S8 q [] M [] from h8.site)
  have f10 := m_alikeG K.h50 3 (n + 17) nothD S8 (plG_of _ _ plD_noth)
  simp only [nothD] at f9 f10
  refine exs_step (ρ' := [.v (.ref p), .v (.int lap), s2, .v (mk M), .v (.ref q), .v (wsD (ws80 (1 + u) M)), t6, t7, s8, s9, s10, t11, t12]) (S' := S8) (by
    simp [f9, f10]) ?_
  -- what is no market
  obtain ⟨ys, S9, f11, hys, p9⟩ := l_notmk K (n + 15) h8.pool M hM
  refine exs_for3 (S1 := S9) (ds := [.lst ys]) (xs := ys) (by simp [f11]) rfl (R := fun x S2 => ∃ s8, x = .nx [.v (.ref p), .v (.int lap), s2, .v (mk M), .v (.ref q), .v (wsD (ws80 (1 + u) M)), t6, t7, s8, s9, s10, t11, t12] ∧ PoolAt S2 p) ?_ ?_
  · refine W_loopI (fun pre ρ S' => ∃ s8, ρ = [.v (.ref p), .v (.int lap), s2, .v (mk M), .v (.ref q), .v (wsD (ws80 (1 + u) M)), t6, t7, s8, s9, s10, t11, t12] ∧ PoolAt S' p) ys ?_ _ _ ⟨_, rfl, p9.pool⟩ ?_
    · rintro pre y suf e ρ S10 ⟨t8, rfl, h10⟩
      obtain ⟨y1, y2, y3⟩ := hys y (by rw [e]; simp)
      have f12 := l_made K.B K.s22 K.h61 (n + 12) y y1 y3 S10
      have f13 := l_copy K.h44 6 (n + 14) y (S10 ++ [.obj 0 []]) y2
      have f14 := m_alikeG K.h50 7 (n + 13) (.tup [.str "market", y]) (S10 ++ [.obj 0 []]) (plG_pair6 strOk_market y2)
      refine ⟨_, rfl, ?_⟩
      refine exs_step (ρ' := [.v (.ref p), .v (.int lap), s2, .v (mk M), .v (.ref q), .v (wsD (ws80 (1 + u) M)), t6, t7, .v y, s9, s10, t11, t12]) (S' := S10 ++ [.obj 0 []]) (by
        simp [f12, f13, f14]) ?_
      exact exs_end ⟨_, rfl, _, rfl, h10.app _⟩
    · rintro ρ2 S10 ⟨t8, rfl, h10⟩
      exact ⟨_, rfl, h10⟩
  rintro x S10 ⟨t8, rfl, h10⟩
  refine ⟨_, rfl, ?_⟩
  exact exs_end ⟨_, _, _, _, _, _, _, _, _, _, _, rfl, h10⟩
end
end G
set_option maxHeartbeats 2000000
namespace G
open PySem L2
def M5 : Mk := [[1], [1], [1], [1], [1]]
def M12 : Mk := [[1, 2]]
theorem M5_ok : Mkt 1 M5 := ⟨fun r hr => by simp [M5] at hr; subst hr; exact ⟨rfl, by simp⟩, by simp [M5], by omega⟩
theorem M12_ok : Mkt 2 M12 := ⟨fun r hr => by simp [M12] at hr; subst hr; exact ⟨rfl, by simp⟩, by simp [M12], by omega⟩
section
variable {P : Pg} (K : L80 P)
include K
theorem m_end80 (n : Nat) {S : Store} {s0 s1 s2 s3 s4 s5 s6 s7 s8 s9 s10 s11 s12 : Sl} :
    W (execs (evOf P (n + 20)) [s0, s1, s2, s3, s4, s5, s6, s7, s8, s9, s10, s11, s12] endB80 S) fun r S2 => resD r = .bl true := by
  simp only [endB80, k80b62, List.drop_succ_cons, List.drop_zero]
  have hini := m_init K.B (n + 13) M5 M5_ok (S ++ [.obj 0 []]) S.length (by simp)
  have c1 : ((S ++ [Cell.obj 0 []]).set S.length (siteO [] M5 []))[S.length]? = some (siteO [] M5 []) := List.getElem?_set_self (by simp)
  have l1 : ((S ++ [Cell.obj 0 []]).set S.length (siteO [] M5 [])).length = S.length + 1 := by simp
  generalize (S ++ [Cell.obj 0 []]).set S.length (siteO [] M5 []) = S1 at hini c1 l1
  have hini2 := m_init K.B (n + 13) M12 M12_ok (S1 ++ [.obj 0 []]) S1.length (by simp)
  have c2 : ((S1 ++ [Cell.obj 0 []]).set S1.length (siteO [] M12 []))[S1.length]? = some (siteO [] M12 []) := List.getElem?_set_self (by simp)
  have c3 : ((S1 ++ [Cell.obj 0 []]).set S1.length (siteO [] M12 []))[S.length]? = some (siteO [] M5 []) := by
    rw [List.getElem?_set_ne (by omega), List.getElem?_append_left (by omega)]; exact c1
  generalize (S1 ++ [Cell.obj 0 []]).set S1.length (siteO [] M12 []) = S2 at hini2 c2 c3
  have e5 : mk M5 = .tup (List.replicate 5 (.tup [.int 1])) := rfl
  have e12 : mk M12 = .tup [.tup [.int 1, .int 2]] := rfl
  have hmul : binop S .mul (.tup [.tup [.int 1]]) (.int 5) = some (mk M5) := by
    show (if (5 : Int) = 1 then some (D.tup [.tup [.int 1]]) else if (decide (2 ≤ (5 : Int) ∧ (5 : Int) ≤ 1000 ∧ [D.tup [.int 1]] ≠ []) && decide ([D.tup [.int 1]].length ≤ 1000)) = true then some (D.tup (List.replicate (5 : Int).toNat [D.tup [.int 1]]).flatten) else none) = _
    rw [if_neg (by omega), if_pos (by simp)]
    rfl
  generalize hq1 : S.length = q1 at *
  generalize hq2 : S1.length = q2 at *
  refine exs_step (ρ' := [s0, s1, s2, s3, s4, s5, s6, s7, s8, .v (.ref q1), .v (.ref q2), s11, s12]) (S' := S2) (by
    rw [e12] at hini2
    simp [hmul, hq1, hq2, hini, hini2]) ?_
  have h1 : SiteAt S2 q1 [] M5 [] := c3
  have h2 : SiteAt S2 q2 [] M12 [] := c2
  have f1 := m_playX K.B K.play K.sub (n + 11) h1 M5_ok (by simp) (by simp) (by simp) (.come [1]) ⟨rfl, by simp⟩ true
  have f2 := p_come K.B K.play K.sub (n + 11) h1 M5_ok (.tup [.int 1, .int 1]) (by decide +kernel) (by decide +kernel) true
  have f3 := m_playX K.B K.play K.sub (n + 11) h2 M12_ok (by simp) (by simp) (by simp) (.go 0) (by simp [dok, M12]) false
  have f4 := p_go K.B K.play K.sub (n + 11) h2 M12_ok (.int 1) rfl (by decide +kernel) false
  have g1 : playS 1 S2 q1 [] M5 [] (.come [1]) = S2 := by simp [playS, goes, barred, M5]
  have g3 : playS 2 S2 q2 [] M12 [] (.go 0) = S2 := by simp [playS, goes, barred, M12]
  have d1 : dueX 1 M5 [] (.come [1]) = .tup [.str "many", .non] := by simp [dueX, M5]
  have d3 : dueX 2 M12 [] (.go 0) = .tup [.str "now", .int 0] := by simp [dueX, M12]
  rw [g1, d1] at f1
  rw [g3, d3] at f3
  simp [deedD] at f1 f3
  have f5 := m_alikeG K.h50 5 (n + 15) (.tup [.tup [.str "many", .non], .tup [.str "row", .tup [.int 1, .int 1]], .tup [.str "now", .int 0], .tup [.str "index", .int 1]]) S2 (by simp [plG, strOk_many, strOk_row, strOk_now, strOk_index])
  simp [f1, f2, f3, f4, f5]
theorem m_right80 (n : Nat) {S : Store} {p : Nat} (hp : PoolAt S p) : ∃ S', run P (n + 21) 62 [.ref p] S = .ok (.bl true) S' := by
  have hW : W (run P (n + 21) 62 [.ref p] S) fun d _ => d = .bl true := by
    rw [run_at K.right rfl, W_fin]
    have hbody : execs (evOf P (n + 20)) (rho0 13 [.ref p]) k80b62 S = execs (evOf P (n + 20)) [.v (.ref p), .no, .no, .no, .no, .no, .no, .no, .no, .no, .no, .no, .no] (.for_ (.name 1) .range1 [.con (.int 5)] lapB80 :: endB80) S := rfl
    show W (execs (evOf P (n + 20)) (rho0 13 [.ref p]) k80b62 S) _
    rw [hbody]
    refine exs_for3 (S1 := S) (ds := [.int 5]) (xs := (List.range 5).map fun i => .int (i : Nat)) (by simp) (it_range1 5 (by omega)) (R := fun x _ => ∃ s1 s2 s3 s4 s5 s6 s7 s8 s9 s10 s11 s12, x = .nx [.v (.ref p), s1, s2, s3, s4, s5, s6, s7, s8, s9, s10, s11, s12]) ?_ ?_
    · refine W_loop (fun i : Nat => D.int i) (fun pre ρ S => PoolAt S p ∧ ∃ s1 s2 s3 s4 s5 s6 s7 s8 s9 s10 s11 s12, ρ = [.v (.ref p), s1, s2, s3, s4, s5, s6, s7, s8, s9, s10, s11, s12]) (List.range 5) [] ?_ _ _ ⟨hp, _, _, _, _, _, _, _, _, _, _, _, _, rfl⟩ ?_
      · rintro pre lap suf e ρ S ⟨hp, s1, s2, s3, s4, s5, s6, s7, s8, s9, s10, s11, s12, rfl⟩
        rw [List.nil_append] at e
        obtain ⟨_, hlap⟩ := range_split e
        refine ⟨_, rfl, ?_⟩
        refine W.imp (m_lap80 K n p lap hlap hp) ?_
        rintro x S2 ⟨t2, t3, t4, t5, t6, t7, t8, t9, t10, t11, t12, rfl, h2⟩
        exact ⟨_, rfl, h2, _, _, _, _, _, _, _, _, _, _, _, _, rfl⟩
      · rintro ρ2 S2 ⟨_, s1, s2, s3, s4, s5, s6, s7, s8, s9, s10, s11, s12, rfl⟩
        exact ⟨_, _, _, _, _, _, _, _, _, _, _, _, rfl⟩
    · rintro x S2 ⟨s1, s2, s3, s4, s5, s6, s7, s8, s9, s10, s11, s12, rfl⟩
      exact ⟨_, rfl, m_end80 K n⟩
  obtain ⟨d, S', e, rfl⟩ := hW.out
  exact ⟨S', e⟩
theorem m_law80 (n : Nat) (ns : List Int) : ∃ S', run P (n + 22) 63 [.kl (ns.map .int)] [] = .ok (.bl true) S' :=
  law_of K.L K.law (n + 20) (fun S p hp => m_right80 K n hp) ns
end
end G
namespace G
open PySem
theorem k80Base : Base k80P.pg where
  fn := fun i h1 h2 => by
    have h : i = 0 ∨ i = 1 ∨ i = 2 ∨ i = 3 ∨ i = 4 ∨ i = 5 ∨ i = 6 ∨ i = 7 ∨ i = 8 ∨ i = 9 ∨ i = 10 ∨ i = 11 ∨ i = 12 ∨ i = 13 ∨ i = 14 ∨ i = 15 ∨ i = 16 ∨ i = 17 ∨ i = 18 ∨ i = 19 ∨ i = 20 ∨ i = 22 ∨ i = 23 ∨ i = 24 ∨ i = 25 ∨ i = 26 ∨ i = 27 ∨ i = 28 ∨ i = 29 ∨ i = 30 ∨ i = 31 ∨ i = 32 ∨ i = 33 ∨ i = 34 ∨ i = 35 ∨ i = 36 ∨ i = 37 ∨ i = 38 ∨ i = 39 ∨ i = 40 ∨ i = 41 ∨ i = 42 := by omega
    rcases h with rfl | rfl | rfl | rfl | rfl | rfl | rfl | rfl | rfl | rfl | rfl | rfl | rfl | rfl | rfl | rfl | rfl | rfl | rfl | rfl | rfl | rfl | rfl | rfl | rfl | rfl | rfl | rfl | rfl | rfl | rfl | rfl | rfl | rfl | rfl | rfl | rfl | rfl | rfl | rfl | rfl | rfl <;> rfl
  glo := fun i h1 h2 => by
    have h : i = 1 ∨ i = 2 ∨ i = 3 ∨ i = 4 ∨ i = 5 ∨ i = 6 ∨ i = 7 := by omega
    rcases h with rfl | rfl | rfl | rfl | rfl | rfl | rfl <;> rfl
  tab := rfl
theorem k80LawB : LawB k80P.pg := ⟨⟨14127, 58968, 3419199, rfl⟩, ⟨233337, 225963, 810057, small_nat (n := 233337) (by omega), small_nat (n := 225963) (by omega), rfl⟩, rfl, rfl, rfl, ⟨_, rfl⟩, rfl⟩
theorem k80sub : ∀ a b v, k95P.pg.sub a b = some v → k80P.pg.sub a b = some v := by
  have h : (k95P.subs.all fun p => (k80P.subs.lookup p.1) == some p.2) = true := by decide +kernel
  intro a b v e
  have e1 : k95P.subs.lookup (a, b) = some v := e
  have key : ∀ (l : List ((Nat × Nat) × Bool)), l.lookup (a, b) = some v → ((a, b), v) ∈ l := by
    intro l
    induction l with
    | nil => intro h; cases h
    | cons p l ih =>
      intro h
      obtain ⟨q, w⟩ := p
      rw [List.lookup_cons] at h
      split at h
      · rename_i hq
        cases h
        have := eq_of_beq hq
        subst this
        exact List.mem_cons_self
      · exact List.mem_cons_of_mem _ (ih h)
  have := List.all_eq_true.mp h _ (key _ e1)
  exact eq_of_beq this
theorem k80L : L80 k80P.pg where
  B := k80Base
  L := k80LawB
  sub := k80sub
  s22 := rfl
  h21 := rfl
  h43 := rfl
  h44 := rfl
  h45 := rfl
  h48 := rfl
  play := rfl
  h50 := rfl
  h55 := rfl
  h56 := rfl
  h57 := rfl
  h58 := rfl
  h59 := rfl
  h60 := rfl
  h61 := rfl
  right := rfl
  law := rfl
end G
open PySem PySem.W PyProof.Rows
set_option maxHeartbeats 0 in
theorem PySem.Challenge.cw_fitprices_k80_sites_refused_and_not_holds : PySem.Challenge.rw_fitprices_k80_sites_refused_and_not.Holds := by
  w_on; o_law; k_head; (case hw => w_witness2)
  k_fill
  refine G.law_end (n := 63) (m := 22) (f0 := 63) (K := PySem.Challenge.cw_fitprices_k80_sites_refused_and_not_holds.heap_39) (P := G.k80P) (d0 := G.k80d63) (x := "script") rfl (by decide) rfl ⟨rfl, by decide, by decide⟩ (fun w h Y => PySem.W.kIn_of Y) rfl rfl ?nm ?T ?D ?tab (fun ns _ => G.m_law80 G.k80L 0 ns)
  case nm => intro p; kernel_rfl
  case T => intro p; kernel_rfl
  case D =>
    intro p
    have h : (G.k80P.ds.all fun d => G.chkFn (PySem.Challenge.cw_fitprices_k80_sites_refused_and_not_holds.heap_39 p) G.k80P d) = true := by kernel_rfl
    exact fun d hd => List.all_eq_true.mp h d hd
  case tab =>
    intro w y i h
    have h0 : (y, i) ∈ G.k80P.T.tabs := by simpa using h
    have h1 : (y, i) ∈ [(("SIZES" : Str), 0)] := h0
    simp only [List.mem_singleton] at h1
    cases h1
    refine ⟨381, by kernel_rfl, G.tab_ok (K := PySem.Challenge.cw_fitprices_k80_sites_refused_and_not_holds.heap_39 w.params) rfl ?_ ?_⟩
    · kernel_rfl
    · kernel_rfl
