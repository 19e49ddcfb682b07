import PyProof.Rows.All
import Wide.All
import OpenK.AllK
import Wide.FinOn
import HandS.ForMost
import HandS.ForExc
import HandS.Flow
import HandS.Wide
import HandS.WideBits
import HandS.TupAny
import HandS.Deep
import HandS.IsInst
import HandS.Defaults
import HandS.CallSlots
import HandS.Style
import HandS.TryMany
import KE.KUnpackStar
import PyProof.Rows.StrRev
import HandS.Dict
import HandS.More
import HandS.Iter
import HandS.HeadHook3
import HandS.Comp
import HandS.SortInts
import HandS.TryMany
import HandS.ExcOwn
import HandS.ExcBuiltin
import KE.IntTextLaws
import HandS.MakeKwOnly
import HandS.ListItems
import HandS.DictComp
import HandS.WordsDict
import HandS.FStr
import HandS.RaiseMore
import HandS.Text
import PyProof.StrOps2
import PyProof.Rows.StrJoinMade
import PySem.Challenge.RW_wordways_k12_written_words_read
set_option Elab.async false
set_option linter.all false
set_option maxRecDepth 100000
set_option maxHeartbeats 4000000
/-! The data layer: what never changes is plain data (Dt), what changes stands in a store. -/
namespace DL
open PySem PySem.Spec PyProof.Rows L2

inductive Dt where
  | non | bl (b : Bool) | int (i : Int) | str (x : Str) | lst (xs : List Dt) | tup (xs : List Dt) | ref (a : Addr) | ty (n : String) | rl (xs : List Dt)

inductive MO where
  | lst (xs : List Dt)
  | dK (kvs : List (Key × Dt))
  | dT (kvs : List (List Key × Dt))
  | ins (C dx : Addr) (fs : List (Str × Dt))
  | xd (fs : List (Str × Dt))
  | fz (o : Obj) (us : List (Key × V)) (kvs : List (Key × Dt))
  | oth (o : HO)
abbrev Store := Addr → Option MO
def su (S : Store) (a : Addr) (m : MO) : Store := fun b => if b = a then some m else S b
theorem su_same {S : Store} {a : Addr} {m : MO} : su S a m a = some m := by unfold su; rw [if_pos rfl]
theorem su_ne {S : Store} {a b : Addr} {m : MO} (h : b ≠ a) : su S a m b = S b := by unfold su; rw [if_neg h]
theorem su_su {S : Store} {a : Addr} {m n : MO} : su (su S a m) a n = su S a n := by
  funext b; unfold su; split <;> rfl
theorem su_id {S : Store} {a : Addr} {m : MO} (h : S a = some m) : su S a m = S := by
  funext b; unfold su; split
  · rename_i e; rw [e, h]
  · rfl

section
variable (K : PySem.W.Frag) (S : Store) (H : Hp)
/-- a list, a tuple that is data: not in the store, or written -/
def FxL (a : Addr) (vs : List V) : Prop := S a = none ∧ H a = some (.lst vs)
/-- a list that may be locked or written: read alone -/
def FxR (a : Addr) (vs : List V) : Prop := (S a = none ∧ Rd H a (.lst vs)) ∨
    ∃ (o : Obj) (its : Array Value) (n : Nat), K.lookup a = some o ∧ o.cls = .type "list" ∧ o.dict = none ∧ o.data = .seq its n ∧ its.size ≤ sizeLine ∧ Vals vs its.toList
def FxT (a : Addr) (vs : List V) : Prop := (S a = none ∧ H a = some (.tup vs)) ∨
    ∃ (o : Obj) (its : Array Value) (n : Nat), K.lookup a = some o ∧ o.cls = .type "tuple" ∧ o.data = .seq its n ∧ its.size ≤ sizeLine ∧ Vals vs its.toList
mutual
def D : Dt → V → Prop
  | .non, v => v = .non
  | .bl b, v => v = .bl b
  | .int i, v => v = .int i
  | .str x, v => v = .str x
  | .ref a, v => v = .ref a
  | .ty n, v => v = .ty n
  | .lst xs, v => ∃ a vs, v = .ref a ∧ FxL S H a vs ∧ DAll xs vs
  | .tup xs, v => ∃ a vs, v = .ref a ∧ FxT K S H a vs ∧ DAll xs vs
  | .rl xs, v => ∃ a vs, v = .ref a ∧ FxR K S H a vs ∧ DAll xs vs
def DAll : List Dt → List V → Prop
  | [], vs => vs = []
  | d :: ds, vs => ∃ v r, vs = v :: r ∧ D d v ∧ DAll ds r
end
def DKV {κ : Type} : List (κ × Dt) → List (κ × V) → Prop := Paired fun p q => p.1 = q.1 ∧ D K S H p.2 q.2
def MOk (a : Addr) : MO → Prop
  | .lst xs => ∃ vs, H a = some (.lst vs) ∧ DAll K S H xs vs
  | .dK kvs => ∃ vs, H a = some (.dK vs) ∧ DKV K S H kvs vs
  | .dT kvs => ∃ vs, H a = some (.dT vs) ∧ DKV K S H kvs vs
  | .ins C dx fs => ∃ vs, H a = some (.ins C dx vs) ∧ DKV K S H fs vs
  | .xd fs => ∃ vs, H a = some (.xd vs) ∧ DKV K S H fs vs
  | .fz o us kvs => ∃ vs, H a = some (.frz o (.dK vs)) ∧ (DKV K S H kvs vs ∧ vs = us)
  | .oth o => H a = some o
def Rel : Prop := ∀ a m, S a = some m → MOk K S H a m
end
structure Step (S : Store) (H : Hp) (S' : Store) (H' : Hp) : Prop where
  keep : ∀ a o, S a = none → H a = some o → H' a = some o
  new : ∀ a, S a = none → S' a ≠ none → H a = none
section
variable {K : PySem.W.Frag} {S S' S'' : Store} {H H' H'' : Hp}
theorem Step.refl : Step S H S H := ⟨fun _ _ _ e => e, fun _ e n => absurd e n⟩
theorem Step.stay (s : Step S H S' H') {a : Addr} {o : HO} (h : S a = none) (e : H a = some o) : S' a = none ∧ H' a = some o := by
  refine ⟨?_, s.keep a o h e⟩
  cases q : S' a with
  | none => rfl
  | some m =>
    have z := s.new a h (by rw [q]; intro w; cases w)
    rw [z] at e; cases e
theorem Step.trans (s : Step S H S' H') (t : Step S' H' S'' H'') : Step S H S'' H'' := by
  refine ⟨fun a o h e => ?_, fun a h n => ?_⟩
  · obtain ⟨h1, e1⟩ := s.stay h e
    exact t.keep a o h1 e1
  · cases q : H a with
    | none => rfl
    | some o =>
      obtain ⟨h1, e1⟩ := s.stay h q
      have z := t.new a h1 n
      rw [z] at e1; cases e1
theorem Rel.hp (r : Rel K S H) {a : Addr} (h : H a = none) : S a = none := by
  cases q : S a with
  | none => rfl
  | some m =>
    have z := r a m q
    cases m <;> first | (obtain ⟨_, e, _⟩ := z; rw [h] at e; cases e) | (have e : H a = some _ := z; rw [h] at e; cases e)
theorem FxL.step (s : Step S H S' H') {a : Addr} {vs : List V} (h : FxL S H a vs) : FxL S' H' a vs := s.stay h.1 h.2
theorem FxR.step (s : Step S H S' H') {a : Addr} {vs : List V} (h : FxR K S H a vs) : FxR K S' H' a vs := by
  rcases h with ⟨h1, h2⟩ | h
  · rcases h2 with h2 | ⟨o, h2⟩
    · obtain ⟨g1, g2⟩ := s.stay h1 h2
      exact .inl ⟨g1, .inl g2⟩
    · obtain ⟨g1, g2⟩ := s.stay h1 h2
      exact .inl ⟨g1, .inr ⟨o, g2⟩⟩
  · exact .inr h
theorem FxT.step (s : Step S H S' H') {a : Addr} {vs : List V} (h : FxT K S H a vs) : FxT K S' H' a vs := by
  rcases h with h | h
  · exact .inl (s.stay h.1 h.2)
  · exact .inr h
theorem FxR.sq {a : Addr} {vs : List V} (h : FxR K S H a vs) : SqL K H a vs := by
  rcases h with ⟨_, h⟩ | h
  · exact .inl h
  · exact .inr h
theorem FxL.sq {a : Addr} {vs : List V} (h : FxL S H a vs) : SqL K H a vs := .inl (.inl h.2)
theorem FxT.sq {a : Addr} {vs : List V} (h : FxT K S H a vs) : SqT K H a vs := by
  rcases h with ⟨_, h⟩ | h
  · exact .inl (.inl h)
  · exact .inr h
mutual
theorem D.step (s : Step S H S' H') : ∀ (d : Dt) {v : V}, D K S H d v → D K S' H' d v
  | .non, _, h => h
  | .bl _, _, h => h
  | .int _, _, h => h
  | .str _, _, h => h
  | .ref _, _, h => h
  | .ty _, _, h => h
  | .lst xs, _, ⟨a, vs, e, f, g⟩ => ⟨a, vs, e, f.step s, DAll.step s xs g⟩
  | .tup xs, _, ⟨a, vs, e, f, g⟩ => ⟨a, vs, e, f.step s, DAll.step s xs g⟩
  | .rl xs, _, ⟨a, vs, e, f, g⟩ => ⟨a, vs, e, f.step s, DAll.step s xs g⟩
theorem DAll.step (s : Step S H S' H') : ∀ (ds : List Dt) {vs : List V}, DAll K S H ds vs → DAll K S' H' ds vs
  | [], _, h => h
  | d :: ds, _, ⟨v, r, e, f, g⟩ => ⟨v, r, e, D.step s d f, DAll.step s ds g⟩
end
theorem DKV.step {κ : Type} (s : Step S H S' H') : ∀ {kvs : List (κ × Dt)} {vs : List (κ × V)}, DKV K S H kvs vs → DKV K S' H' kvs vs
  | _, _, .nil => .nil
  | _, _, .cons r t => .cons ⟨r.1, D.step s _ r.2⟩ (DKV.step s t)
theorem MOk.step (s : Step S H S' H') {a : Addr} {m : MO} (e : H' a = H a) (h : MOk K S H a m) : MOk K S' H' a m := by
  cases m with
  | lst xs => obtain ⟨vs, q, g⟩ := h; exact ⟨vs, e.trans q, DAll.step s _ g⟩
  | dK xs => obtain ⟨vs, q, g⟩ := h; exact ⟨vs, e.trans q, DKV.step s g⟩
  | dT xs => obtain ⟨vs, q, g⟩ := h; exact ⟨vs, e.trans q, DKV.step s g⟩
  | ins C dx xs => obtain ⟨vs, q, g⟩ := h; exact ⟨vs, e.trans q, DKV.step s g⟩
  | xd xs => obtain ⟨vs, q, g⟩ := h; exact ⟨vs, e.trans q, DKV.step s g⟩
  | fz o us xs => obtain ⟨vs, q, g, z⟩ := h; exact ⟨vs, e.trans q, DKV.step s g, z⟩
  | oth o => exact e.trans h
/-- new data at p -/
theorem Step.new1 {p : Addr} {o : HO} (h : H p = none) : Step S H S (upd H p o) :=
  ⟨fun a u _ e => by rw [upd_ne (ne_of_none e h)]; exact e, fun _ e n => absurd e n⟩
theorem Rel.new1 {p : Addr} {o : HO} (r : Rel K S H) (h : H p = none) : Rel K S (upd H p o) := fun a m e => by
  have np : a ≠ p := fun q => by rw [q, r.hp h] at e; cases e
  exact (r a m e).step (Step.new1 h) (upd_ne np)
/-- an object of the store is changed, or a new one is laid -/
theorem Step.put {a : Addr} {m : MO} {o : HO} (h : S a ≠ none ∨ H a = none) : Step S H (su S a m) (upd H a o) := by
  refine ⟨fun b u hb e => ?_, fun b hb n => ?_⟩
  · have nb : b ≠ a := fun q => by
      subst q
      rcases h with h | h
      · exact h hb
      · rw [h] at e; cases e
    rw [upd_ne nb]; exact e
  · by_cases q : b = a
    · subst q
      rcases h with h | h
      · exact absurd hb h
      · exact h
    · rw [su_ne q] at n; exact absurd hb n
theorem Rel.put {a : Addr} {m : MO} {o : HO} (r : Rel K S H) (h : S a ≠ none ∨ H a = none) (n : MOk K (su S a m) (upd H a o) a m) : Rel K (su S a m) (upd H a o) := fun b m' e => by
  by_cases q : b = a
  · subst q
    rw [su_same] at e; cases e
    exact n
  · rw [su_ne q] at e
    exact (r b m' e).step (Step.put h) (upd_ne q)
/-- an object of the store is let go of -/
def sdel (S : Store) (a : Addr) : Store := fun b => if b = a then none else S b
theorem sdel_same {a : Addr} : sdel S a a = none := by unfold sdel; rw [if_pos rfl]
theorem sdel_ne {a b : Addr} (h : b ≠ a) : sdel S a b = S b := by unfold sdel; rw [if_neg h]
/-- a smaller store -/
def Sub (S' S : Store) : Prop := ∀ a, S' a = none ∨ S' a = S a
theorem Sub.step (h : Sub S' S) : Step S H S' H := ⟨fun _ _ _ e => e, fun a e n => by
  rcases h a with q | q
  · exact absurd q n
  · rw [q, e] at n; exact absurd rfl n⟩
theorem Sub.rel (h : Sub S' S) (r : Rel K S H) : Rel K S' H := fun a m e => by
  rcases h a with q | q
  · rw [q] at e; cases e
  · rw [q] at e
    exact (r a m e).step h.step rfl
theorem Sub.del {a : Addr} : Sub (sdel S a) S := fun b => by
  by_cases q : b = a
  · subst q; exact .inl sdel_same
  · exact .inr (sdel_ne q)

theorem DAll.length : ∀ {ds : List Dt} {vs : List V}, DAll K S H ds vs → ds.length = vs.length
  | [], _, h => by cases h; rfl
  | d :: ds, _, ⟨v, r, e, _, g⟩ => by
    subst e
    rw [List.length_cons, List.length_cons, DAll.length g]
theorem DAll.get : ∀ {ds : List Dt} {vs : List V} {i : Nat} {d : Dt}, DAll K S H ds vs → ds[i]? = some d → ∃ v, vs[i]? = some v ∧ D K S H d v
  | [], _, _, _, _, h => by simp at h
  | d :: ds, _, 0, x, ⟨v, r, e, f, _⟩, h => by
    subst e
    have q : d = x := by simpa using h
    subst q
    exact ⟨v, rfl, f⟩
  | d :: ds, _, i + 1, x, ⟨v, r, e, _, g⟩, h => by
    subst e
    obtain ⟨w, h1, h2⟩ := DAll.get (i := i) g (by simpa using h)
    exact ⟨w, by simpa using h1, h2⟩
theorem DAll.getV : ∀ {ds : List Dt} {vs : List V} {i : Nat} {v : V}, DAll K S H ds vs → vs[i]? = some v → ∃ d, ds[i]? = some d ∧ D K S H d v
  | [], _, _, _, h, e => by cases h; simp at e
  | d :: ds, _, 0, x, ⟨v, r, e, f, _⟩, h => by
    subst e
    have q : v = x := by simpa using h
    subst q
    exact ⟨d, rfl, f⟩
  | d :: ds, _, i + 1, x, ⟨v, r, e, _, g⟩, h => by
    subst e
    obtain ⟨w, h1, h2⟩ := DAll.getV (i := i) g (by simpa using h)
    exact ⟨w, by simpa using h1, h2⟩
theorem DAll.append : ∀ {ds es : List Dt} {vs ws : List V}, DAll K S H ds vs → DAll K S H es ws → DAll K S H (ds ++ es) (vs ++ ws)
  | [], _, _, _, h, g => by cases h; exact g
  | d :: ds, _, _, _, ⟨v, r, e, f, h⟩, g => by
    subst e
    exact ⟨v, r ++ _, rfl, f, DAll.append h g⟩
theorem DAll.take : ∀ {ds : List Dt} {vs : List V} (n : Nat), DAll K S H ds vs → DAll K S H (ds.take n) (vs.take n)
  | _, _, 0, _ => rfl
  | [], _, n + 1, h => by cases h; rfl
  | d :: ds, _, n + 1, ⟨v, r, e, f, g⟩ => by
    subst e
    exact ⟨v, r.take n, rfl, f, DAll.take n g⟩
theorem DAll.drop : ∀ {ds : List Dt} {vs : List V} (n : Nat), DAll K S H ds vs → DAll K S H (ds.drop n) (vs.drop n)
  | _, _, 0, h => h
  | [], _, n + 1, h => by cases h; rfl
  | d :: ds, _, n + 1, ⟨v, r, e, f, g⟩ => by
    subst e
    exact DAll.drop n g
theorem DAll.set {x : Dt} {u : V} (q : D K S H x u) : ∀ {ds : List Dt} {vs : List V} (i : Nat), DAll K S H ds vs → DAll K S H (ds.set i x) (vs.set i u)
  | [], _, _, h => by cases h; rfl
  | d :: ds, _, 0, ⟨v, r, e, f, g⟩ => by
    subst e
    exact ⟨u, r, rfl, q, g⟩
  | d :: ds, _, i + 1, ⟨v, r, e, f, g⟩ => by
    subst e
    exact ⟨v, r.set i u, rfl, f, DAll.set q i g⟩
theorem DAll.snoc {x : Dt} {u : V} {ds : List Dt} {vs : List V} (h : DAll K S H ds vs) (q : D K S H x u) : DAll K S H (ds ++ [x]) (vs ++ [u]) := h.append ⟨u, [], rfl, q, rfl⟩
theorem DAll.rev : ∀ {ds : List Dt} {vs : List V}, DAll K S H ds vs → DAll K S H ds.reverse vs.reverse
  | [], _, h => by cases h; rfl
  | d :: ds, _, ⟨v, r, e, f, g⟩ => by
    subst e
    rw [List.reverse_cons, List.reverse_cons]
    exact (DAll.rev g).snoc f
theorem DAll.nil_iff {ds : List Dt} {vs : List V} (h : DAll K S H ds vs) : ds.isEmpty = vs.isEmpty := by
  have := h.length
  cases ds <;> cases vs <;> simp_all
theorem Dnn : D K S H .non .non := rfl
theorem Dbl {b : Bool} : D K S H (.bl b) (.bl b) := rfl
theorem Din {i : Int} : D K S H (.int i) (.int i) := rfl
theorem Dst {x : Str} : D K S H (.str x) (.str x) := rfl
theorem Drf {a : Addr} : D K S H (.ref a) (.ref a) := rfl
theorem Dtp {a : Addr} {vs : List V} {xs : List Dt} (f : FxT K S H a vs) (g : DAll K S H xs vs) : D K S H (.tup xs) (.ref a) := ⟨a, vs, rfl, f, g⟩
theorem D.lst {a : Addr} {vs : List V} {xs : List Dt} (h0 : S a = none) (h : H a = some (.lst vs)) (g : DAll K S H xs vs) : D K S H (.lst xs) (.ref a) := ⟨a, vs, rfl, ⟨h0, h⟩, g⟩
theorem D.tup {a : Addr} {vs : List V} {xs : List Dt} (h0 : S a = none) (h : H a = some (.tup vs)) (g : DAll K S H xs vs) : D K S H (.tup xs) (.ref a) := ⟨a, vs, rfl, .inl ⟨h0, h⟩, g⟩
theorem DKV.look {kvs : List (Str × Dt)} {vs : List (Str × V)} (h : DKV K S H kvs vs) (f : Str) : (kvs.lookup f = none ∧ vs.lookup f = none) ∨ ∃ d v, kvs.lookup f = some d ∧ vs.lookup f = some v ∧ D K S H d v := by
  induction h with
  | nil => exact .inl ⟨rfl, rfl⟩
  | @cons p q l₁ l₂ r t ih =>
    obtain ⟨pk, pd⟩ := p
    obtain ⟨qk, qv⟩ := q
    obtain ⟨r1, r2⟩ := r
    dsimp only at r1 r2
    subst r1
    rw [List.lookup_cons, List.lookup_cons]
    cases e : f == pk with
    | true => exact .inr ⟨pd, qv, rfl, rfl, r2⟩
    | false => exact ih
theorem DKV.length {κ : Type} {kvs : List (κ × Dt)} {vs : List (κ × V)} (h : DKV K S H kvs vs) : kvs.length = vs.length := Paired.length h
end

/-! ### the frame -/
abbrev St := L2.St
abbrev Ro := List (Option Dt)
def EnvR (K : PySem.W.Frag) (S : Store) (H : Hp) (σ : St) (ρ : Ro) : Prop := σ.length = ρ.length ∧ ∀ (i : Nat) (d : Dt), ρ[i]? = some (some d) → ∃ v, σ[i]? = some (some v) ∧ D K S H d v
section
variable {K : PySem.W.Frag} {S S' : Store} {H H' : Hp} {σ : St} {ρ : Ro}
theorem EnvR.step (s : Step S H S' H') (e : EnvR K S H σ ρ) : EnvR K S' H' σ ρ := ⟨e.1, fun i d h => let ⟨v, h1, h2⟩ := e.2 i d h; ⟨v, h1, D.step s d h2⟩⟩
theorem EnvR.set (e : EnvR K S H σ ρ) (i : Nat) {d : Dt} {v : V} (h : D K S H d v) : EnvR K S H (σ.set i (some v)) (ρ.set i (some d)) := by
  refine ⟨by rw [List.length_set, List.length_set]; exact e.1, fun j x hj => ?_⟩
  by_cases q : i = j
  · subst q
    by_cases l : i < ρ.length
    · rw [List.getElem?_set_self l] at hj
      cases hj
      exact ⟨v, List.getElem?_set_self (by rw [e.1]; exact l), h⟩
    · rw [List.getElem?_eq_none (by rw [List.length_set]; omega)] at hj; cases hj
  · rw [List.getElem?_set_ne q] at hj
    obtain ⟨w, h1, h2⟩ := e.2 j x hj
    exact ⟨w, by rw [List.getElem?_set_ne q]; exact h1, h2⟩
theorem EnvR.unset (e : EnvR K S H σ ρ) (i : Nat) (o : Option V) : EnvR K S H (σ.set i o) (ρ.set i none) := by
  refine ⟨by rw [List.length_set, List.length_set]; exact e.1, fun j x hj => ?_⟩
  by_cases q : i = j
  · subst q
    by_cases l : i < ρ.length
    · rw [List.getElem?_set_self l] at hj
      cases hj
    · rw [List.getElem?_eq_none (by rw [List.length_set]; omega)] at hj; cases hj
  · rw [List.getElem?_set_ne q] at hj
    obtain ⟨w, h1, h2⟩ := e.2 j x hj
    exact ⟨w, by rw [List.getElem?_set_ne q]; exact h1, h2⟩
def wipeR (ρ : Ro) : List Nat → Ro
  | [] => ρ
  | v :: vs => (wipeR ρ vs).set v none
theorem EnvR.wipe (e : EnvR K S H σ ρ) : ∀ vs : List Nat, EnvR K S H (wipe σ vs) (wipeR ρ vs)
  | [] => e
  | v :: vs => (EnvR.wipe e vs).unset v none
end

/-! ### judgements -/
abbrev OK1 := Dt → Store → Prop
abbrev XK1 := Value → List (Str × Dt) → Store → Prop
abbrev XTE := Ro → Store → OK1 → XK1 → Prop
abbrev XTT := Ro → Store → (Bool → Store → Prop) → XK1 → Prop
abbrev XTA := Ro → Store → (List Dt → Store → Prop) → XK1 → Prop
structure XEnds where
  nx : Ro → Store → Prop
  rt : Dt → Store → Prop
  bk : Ro → Store → Prop := fun _ _ => False
  ct : Ro → Store → Prop := fun _ _ => False
abbrev XTS := XEnds → (Value → List (Str × Dt) → Ro → Store → Prop) → Ro → Store → Prop
/-- the fields of an exception -/
def FsOf (K : PySem.W.Frag) (S : Store) (H : Hp) : Option Addr → List (Str × Dt) → Prop
  | none, fs => fs = []
  | some d, fs => ∃ vs, S d = none ∧ H d = some (.xd vs) ∧ DKV K S H fs vs
section
variable (K : PySem.W.Frag)
def Ret (S : Store) (H : Hp) (Φ : OK1) (Q : VK) : Prop := ∀ v H' a S', Rel K S' H' → Step S H S' H' → D K S' H' a v → Φ a S' → Q v H'
def RetT (S : Store) (H : Hp) (Φ : Bool → Store → Prop) (Q : Bool → Hp → Prop) : Prop := ∀ b H' S', Rel K S' H' → Step S H S' H' → Φ b S' → Q b H'
def RetA (S : Store) (H : Hp) (Φ : List Dt → Store → Prop) (Q : List V → Hp → Prop) : Prop := ∀ vs H' as S', Rel K S' H' → Step S H S' H' → DAll K S' H' as vs → Φ as S' → Q vs H'
def Exc (S : Store) (H : Hp) (Ω : XK1) (E : XK) : Prop := ∀ cls o H' S' fs, Rel K S' H' → Step S H S' H' → FsOf K S' H' o fs → Ω cls fs S' → E cls o H'
def ExcS (S : Store) (H : Hp) (Ω : Value → List (Str × Dt) → Ro → Store → Prop) (W : WX) : Prop :=
  ∀ cls o σ' H' ρ' S' fs, Rel K S' H' → Step S H S' H' → EnvR K S' H' σ' ρ' → FsOf K S' H' o fs → Ω cls fs ρ' S' → W cls o σ' H'
def NxS (S : Store) (H : Hp) (Φ : Ro → Store → Prop) (Q : St → Hp → Prop) : Prop := ∀ σ' H' ρ' S', Rel K S' H' → Step S H S' H' → EnvR K S' H' σ' ρ' → Φ ρ' S' → Q σ' H'
structure EndS (S : Store) (H : Hp) (Δ : XEnds) (E : Ends) : Prop where
  nx : NxS K S H Δ.nx E.nx
  rt : Ret K S H Δ.rt E.rt
  bk : NxS K S H Δ.bk E.bk
  ct : NxS K S H Δ.ct E.ct
def SimE (W : WX) (t : TE) (d : XTE) : Prop := ∀ σ H ρ S Q Φ Ω, Rel K S H → EnvR K S H σ ρ → d ρ S Φ Ω → Ret K S H Φ Q → Exc K S H Ω (WE W σ) → t σ H Q
def SimT (W : WX) (t : TT) (d : XTT) : Prop := ∀ σ H ρ S Q Φ Ω, Rel K S H → EnvR K S H σ ρ → d ρ S Φ Ω → RetT K S H Φ Q → Exc K S H Ω (WE W σ) → t σ H Q
def SimA (W : WX) (t : TA) (d : XTA) : Prop := ∀ σ H ρ S Q Φ Ω, Rel K S H → EnvR K S H σ ρ → d ρ S Φ Ω → RetA K S H Φ Q → Exc K S H Ω (WE W σ) → t σ H Q
def SimS (W : WX) (t : TS) (d : XTS) : Prop := ∀ σ H ρ S E Δ Ω, Rel K S H → EnvR K S H σ ρ → d Δ Ω ρ S → EndS K S H Δ E → ExcS K S H Ω W → t E σ H
end
section
variable {K : PySem.W.Frag} {S S' : Store} {H H' : Hp}
theorem Ret.mono {Φ : OK1} {Q : VK} (s : Step S H S' H') (h : Ret K S H Φ Q) : Ret K S' H' Φ Q := fun v H2 a S2 r t d f => h v H2 a S2 r (s.trans t) d f
theorem RetT.mono {Φ : Bool → Store → Prop} {Q : Bool → Hp → Prop} (s : Step S H S' H') (h : RetT K S H Φ Q) : RetT K S' H' Φ Q := fun v H2 S2 r t f => h v H2 S2 r (s.trans t) f
theorem RetA.mono {Φ : List Dt → Store → Prop} {Q : List V → Hp → Prop} (s : Step S H S' H') (h : RetA K S H Φ Q) : RetA K S' H' Φ Q := fun v H2 a S2 r t d f => h v H2 a S2 r (s.trans t) d f
theorem Exc.mono {Ω : XK1} {E : XK} (s : Step S H S' H') (h : Exc K S H Ω E) : Exc K S' H' Ω E := fun c o H2 S2 fs r t g f => h c o H2 S2 fs r (s.trans t) g f
theorem ExcS.mono {Ω : Value → List (Str × Dt) → Ro → Store → Prop} {W : WX} (s : Step S H S' H') (h : ExcS K S H Ω W) : ExcS K S' H' Ω W := fun c o σ2 H2 ρ2 S2 fs r t e g f => h c o σ2 H2 ρ2 S2 fs r (s.trans t) e g f
theorem NxS.mono {Φ : Ro → Store → Prop} {Q : St → Hp → Prop} (s : Step S H S' H') (h : NxS K S H Φ Q) : NxS K S' H' Φ Q := fun σ2 H2 ρ2 S2 r t e f => h σ2 H2 ρ2 S2 r (s.trans t) e f
theorem EndS.mono {Δ : XEnds} {E : Ends} (s : Step S H S' H') (h : EndS K S H Δ E) : EndS K S' H' Δ E := ⟨h.nx.mono s, h.rt.mono s, h.bk.mono s, h.ct.mono s⟩
theorem ExcS.at {Ω : Value → List (Str × Dt) → Ro → Store → Prop} {W : WX} {σ : St} {ρ : Ro} (h : ExcS K S H Ω W) (e : EnvR K S H σ ρ) : Exc K S H (fun c fs S => Ω c fs ρ S) (WE W σ) :=
  fun c o H2 S2 fs r t g f => h c o σ H2 ρ S2 fs r t (e.step t) g f
end
/-- an expression, a test, arguments, a statement, a block: with the data reading -/
def DE (X : Cx) (W : WX) (e : Expr) (d : XTE) : Prop := ∃ t, PE X e t ∧ SimE X.K W t d
def DTt (X : Cx) (W : WX) (e : Expr) (d : XTT) : Prop := ∃ t, PT X e t ∧ SimT X.K W t d
def DWt (X : Cx) (W : WX) (e : Expr) (d : XTT) : Prop := ∃ t, PW X e t ∧ SimT X.K W t d
def DA (X : Cx) (W : WX) (es : List Expr) (d : XTA) : Prop := ∃ t, PA X es t ∧ SimA X.K W t d
def DS (X : Cx) (W : WX) (s : Stmt) (d : XTS) : Prop := ∃ t, PS X s t ∧ SimS X.K W t d
def DSs (X : Cx) (W : WX) (s : List Stmt) (d : XTS) : Prop := ∃ t, PSs X s t ∧ SimS X.K W t d
end DL

set_option Elab.async false
set_option linter.all false
set_option maxRecDepth 100000
set_option maxHeartbeats 4000000
/-! The data layer: expressions. -/
namespace DL
open PySem PySem.Spec PyProof.Rows L2

/-! ### views -/
/-- a value read as a sequence -/
def Sv (S : Store) : Dt → (List Dt → Prop) → Prop
  | .lst xs, k => k xs
  | .tup xs, k => k xs
  | .rl xs, k => k xs
  | .ref p, k => ∃ xs, S p = some (.lst xs) ∧ k xs
  | _, _ => False
section
variable {K : PySem.W.Frag} {S : Store} {H : Hp}
theorem Sv.out (rel : Rel K S H) {a : Dt} {x : V} {k : List Dt → Prop} (d : D K S H a x) (h : Sv S a k) : ∃ (xs : List Dt) (vs : List V) (p : Addr), x = .ref p ∧ (SqL K H p vs ∨ SqT K H p vs) ∧ DAll K S H xs vs ∧ k xs := by
  cases a with
  | lst xs => obtain ⟨p, vs, e, f, g⟩ := d; exact ⟨xs, vs, p, e, .inl f.sq, g, h⟩
  | tup xs => obtain ⟨p, vs, e, f, g⟩ := d; exact ⟨xs, vs, p, e, .inr f.sq, g, h⟩
  | rl xs => obtain ⟨p, vs, e, f, g⟩ := d; exact ⟨xs, vs, p, e, .inl f.sq, g, h⟩
  | ref p =>
    obtain ⟨xs, e, q⟩ := h
    obtain ⟨vs, e2, g⟩ := rel p _ e
    exact ⟨xs, vs, p, d, .inl (.inl (.inl e2)), g, q⟩
  | _ => exact h.elim
/-- a list that stands by itself: data, or in the store -/
def Lv (S : Store) : Dt → (List Dt → Prop) → Prop
  | .lst xs, k => k xs
  | .ref p, k => ∃ xs, S p = some (.lst xs) ∧ k xs
  | _, _ => False
theorem Lv.out (rel : Rel K S H) {a : Dt} {x : V} {k : List Dt → Prop} (d : D K S H a x) (h : Lv S a k) : ∃ (xs : List Dt) (vs : List V) (p : Addr), x = .ref p ∧ H p = some (.lst vs) ∧ DAll K S H xs vs ∧ k xs := by
  cases a with
  | lst xs => obtain ⟨p, vs, e, f, g⟩ := d; exact ⟨xs, vs, p, e, f.2, g, h⟩
  | ref p =>
    obtain ⟨xs, e, q⟩ := h
    obtain ⟨vs, e2, g⟩ := rel p _ e
    exact ⟨xs, vs, p, d, e2, g, q⟩
  | _ => exact h.elim
end

/-! ### equality -/
mutual
def toP : Dt → PyData
  | .non => .none
  | .bl b => .bool b
  | .int i => .int i
  | .str x => .str x
  | .lst xs => .list (toPs xs)
  | .tup xs => .tuple (toPs xs)
  | .rl xs => .list (toPs xs)
  | .ref _ => .none
  | .ty _ => .none
def toPs : List Dt → List PyData
  | [] => []
  | d :: ds => toP d :: toPs ds
end
mutual
/-- data alone, no reference -/
def pureD : Dt → Bool
  | .lst xs => pureDs xs
  | .tup xs => pureDs xs
  | .rl xs => pureDs xs
  | .ref _ => false
  | .ty _ => false
  | _ => true
def pureDs : List Dt → Bool
  | [] => true
  | d :: ds => pureD d && pureDs ds
end
def eqD (a b : Dt) : Bool := PyData.eqv (toP a) (toP b)
def okD (a : Dt) : Bool := pureD a && SeqAt.shaped (toP a)
section
variable {K : PySem.W.Frag} {S : Store} {H : Hp}
mutual
theorem D.dp : ∀ (a : Dt) {x : V}, pureD a = true → D K S H a x → Dp K H x (toP a)
  | .non, _, _, h => by cases h; exact .non
  | .bl _, _, _, h => by cases h; exact .bl _
  | .int _, _, _, h => by cases h; exact .int _
  | .str _, _, _, h => by cases h; exact .str _
  | .lst xs, _, p, ⟨a, vs, e, f, g⟩ => by cases e; exact .lst f.sq (DAll.dp xs p g)
  | .tup xs, _, p, ⟨a, vs, e, f, g⟩ => by cases e; exact .tup f.sq (DAll.dp xs p g)
  | .rl xs, _, p, ⟨a, vs, e, f, g⟩ => by cases e; exact .lst f.sq (DAll.dp xs p g)
  | .ref _, _, p, _ => by cases p
  | .ty _, _, p, _ => by cases p
theorem DAll.dp : ∀ (xs : List Dt) {vs : List V}, pureDs xs = true → DAll K S H xs vs → DpAll K H vs (toPs xs)
  | [], _, _, h => by cases h; exact .nil
  | d :: ds, _, p, ⟨v, r, e, f, g⟩ => by
    cases e
    have p : (pureD d && pureDs ds) = true := p
    rw [Bool.and_eq_true] at p
    exact .cons (D.dp d p.1 f) (DAll.dp ds p.2 g)
end
end

/-! ### two operands -/
abbrev F2 := Store → Dt → Dt → OK1 → Prop
def SimR2 (K : PySem.W.Frag) (r : R2) (f : F2) : Prop := ∀ x y a b S H Q (k : OK1), Rel K S H → D K S H a x → D K S H b y → f S a b k → Ret K S H k Q → r x y H Q
@[reducible] def xOp (f : F2) (da db : XTE) : XTE := fun ρ S Φ Ω => da ρ S (fun a S1 => db ρ S1 (fun b S2 => f S2 a b Φ) Ω) Ω
section
variable {K : PySem.W.Frag} {S S' : Store} {H H' : Hp}
/-- the answer is data that stands nowhere new -/
theorem Ret.now {k : OK1} {Q : VK} {v : V} {a : Dt} (ret : Ret K S H k Q) (rel : Rel K S H) (d : D K S H a v) (h : k a S) : Q v H := ret v H a S rel Step.refl d h
/-- a new list, a new tuple, as data -/
theorem Ret.newL {k : OK1} {Q : VK} {xs : List Dt} {vs : List V} {p : Addr} (ret : Ret K S H k Q) (rel : Rel K S H) (d : DAll K S H xs vs) (hp : H p = none) (h : k (.lst xs) S) : Q (.ref p) (upd H p (.lst vs)) :=
  ret _ _ (.lst xs) S (rel.new1 hp) (Step.new1 hp) (D.lst (rel.hp hp) upd_same (DAll.step (Step.new1 hp) _ d)) h
theorem Ret.newT {k : OK1} {Q : VK} {xs : List Dt} {vs : List V} {p : Addr} (ret : Ret K S H k Q) (rel : Rel K S H) (d : DAll K S H xs vs) (hp : H p = none) (h : k (.tup xs) S) : Q (.ref p) (upd H p (.tup vs)) :=
  ret _ _ (.tup xs) S (rel.new1 hp) (Step.new1 hp) (D.tup (rel.hp hp) upd_same (DAll.step (Step.new1 hp) _ d)) h
/-- a new list in the store -/
theorem Ret.newM {k : OK1} {Q : VK} {xs : List Dt} {vs : List V} {p : Addr} (ret : Ret K S H k Q) (rel : Rel K S H) (d : DAll K S H xs vs) (hp : H p = none) (h : k (.ref p) (su S p (.lst xs))) : Q (.ref p) (upd H p (.lst vs)) :=
  ret _ _ (.ref p) (su S p (.lst xs)) (rel.put (.inr hp) ⟨vs, upd_same, DAll.step (Step.put (.inr hp)) _ d⟩) (Step.put (.inr hp)) rfl h
variable {W : WX}
theorem simOp {r : R2} {f : F2} {ta tb : TE} {da db : XTE} (hr : SimR2 K r f) (ha : SimE K W ta da) (hb : SimE K W tb db) : SimE K W (tOp r ta tb) (xOp f da db) := by
  intro σ H ρ S Q Φ Ω rel env h ret exc
  refine ha σ H ρ S _ _ Ω rel env h (fun x H1 a S1 rel1 st1 d1 h1 => ?_) exc
  refine hb σ H1 ρ S1 _ _ Ω rel1 (env.step st1) h1 (fun y H2 b S2 rel2 st2 d2 h2 => ?_) (exc.mono st1)
  exact hr x y a b S2 H2 Q _ rel2 (D.step st2 _ d1) d2 h2 (ret.mono (st1.trans st2))
end
section
variable {X : Cx} {W : WX} {a b e : Expr} {da db de : XTE} {pos : Pos}
theorem de_bin {op : Operator} {r : R2} {f : F2} (ho : OpR X (binaryOp op) r) (hr : SimR2 X.K r f) (ha : DE X W a da) (hb : DE X W b db) : DE X W (.BinOp a op b pos) (xOp f da db) :=
  let ⟨_, h1, s1⟩ := ha; let ⟨_, h2, s2⟩ := hb; ⟨_, pe_op ho h1 h2, simOp hr s1 s2⟩
theorem de_cmp {op : CmpOp} {r : R2} {f : F2} (ho : OpR X (compareOp op) r) (hr : SimR2 X.K r f) (hm : behindInMarks op b = false) (ha : DE X W a da) (hb : DE X W b db) : DE X W (.Compare a [op] [b] pos) (xOp f da db) :=
  let ⟨_, h1, s1⟩ := ha; let ⟨_, h2, s2⟩ := hb; ⟨_, pe_cmpR ho h1 h2 hm, simOp hr s1 s2⟩
/-- a test out of an operation on two values -/
@[reducible] def xTest (de : XTE) : XTT := fun ρ S Φ Ω => de ρ S (fun a S1 => match a with | .bl b => Φ b S1 | _ => False) Ω
theorem simTest {K : PySem.W.Frag} {t : TE} {d : XTE} (h : SimE K W t d) : SimT K W (tTest t) (xTest d) := by
  intro σ H ρ S Q Φ Ω rel env hd ret exc
  refine h σ H ρ S _ _ Ω rel env hd (fun x H1 a S1 rel1 st1 d1 h1 => ?_) exc
  cases a with
  | bl b => cases d1; exact ⟨b, rfl, ret b H1 S1 rel1 st1 h1⟩
  | _ => exact h1.elim
theorem dt_cmp {op : CmpOp} {r : R2} {f : F2} (ho : OpR X (compareOp op) r) (hr : SimR2 X.K r f) (hm : behindInMarks op b = false) (ha : DE X W a da) (hb : DE X W b db) : DTt X W (.Compare a [op] [b] pos) (xTest (xOp f da db)) :=
  let ⟨_, h1, s1⟩ := ha; let ⟨_, h2, s2⟩ := hb; ⟨_, pt_cmpR ho h1 h2 hm, simTest (simOp hr s1 s2)⟩
end

/-! ### names, constants -/
@[reducible] def xVar (i : Nat) : XTE := fun ρ S Φ _ => match ρ[i]? with | some (some d) => Φ d S | _ => False
@[reducible] def xC (d : Dt) : XTE := fun _ S Φ _ => Φ d S
section
variable {X : Cx} {W : WX}
theorem simVar {K : PySem.W.Frag} {i : Nat} : SimE K W (tVar i) (xVar i) := by
  intro σ H ρ S Q Φ Ω rel env h ret _
  unfold xVar at h
  split at h
  · rename_i d e
    obtain ⟨v, e1, d1⟩ := env.2 i d e
    exact ⟨v, e1, ret.now rel d1 h⟩
  · exact h.elim
theorem simC {K : PySem.W.Frag} {v : V} {d : Dt} (hd : ∀ S H, D K S H d v) : SimE K W (tC v) (xC d) := fun σ H ρ S Q Φ Ω rel _ h ret _ => ret.now rel (hd S H) h
theorem de_var (i : Nat) {x : Str} {pos : Pos} (hN : X.N[i]? = some x := by rfl) (hv : Vis X.env.scope x := by first | exact Or.inl rfl | exact Or.inr (Or.inl rfl) | exact Or.inr (Or.inr rfl)) (hd : (x == ("__debug__" : Str)) = false := by decide)
    (hcd : (x == ("__classdict__" : Str)) = false := by decide) : DE X W (.Name x pos) (xVar i) := ⟨_, pe_var hN hv hd hcd, simVar⟩
theorem de_int {i j pos} : DE X W (.Constant (.int i) j pos) (xC (.int i)) := ⟨_, pe_int, simC fun _ _ => rfl⟩
theorem de_bl {b j pos} : DE X W (.Constant (.bool b) j pos) (xC (.bl b)) := ⟨_, pe_bl, simC fun _ _ => rfl⟩
theorem de_non {j pos} : DE X W (.Constant .none j pos) (xC .non) := ⟨_, pe_non, simC fun _ _ => rfl⟩
theorem de_str {x j pos} : DE X W (.Constant (.str x) j pos) (xC (.str x)) := ⟨_, pe_str, simC fun _ _ => rfl⟩
theorem de_glob {x : Str} {v : V} {d : Dt} {u : Value} {pos : Pos} (hm : X.mg x = some u) (r : RelV v u) (hd : ∀ S H, D X.K S H d v) (hg : Gl X x := by rfl) (hdb : (x == ("__debug__" : Str)) = false := by decide) : DE X W (.Name x pos) (xC d) :=
  ⟨_, pe_glob hg hm r hdb, simC hd⟩
theorem de_bltn {x : Str} {v : V} {d : Dt} {u : Value} {pos : Pos} (hm : X.mg x = none) (hv : bootBuiltins x = some u) (r : RelV v u) (hd : ∀ S H, D X.K S H d v) (hg : Gl X x := by rfl) (hn : x ≠ "__name__" := by decide) (hdb : (x == ("__debug__" : Str)) = false := by decide) : DE X W (.Name x pos) (xC d) :=
  ⟨_, pe_bltn hg hm hv r hn hdb, simC hd⟩
end

/-! ### operations -/
section
variable {X : Cx}
def fAdd : F2 := fun S a b k => match a, b with
  | .int i, .int j => k (.int (i + j)) S
  | .int i, .bl c => k (.int (i + b2i c)) S
  | .str x, .str y => x.length + y.length ≤ sizeLine ∧ k (.str (x ++ y)) S
  | .tup xs, .tup ys => xs.length + ys.length ≤ sizeLine ∧ k (.tup (xs ++ ys)) S
  | a, b => Lv S a fun xs => Lv S b fun ys => xs.length + ys.length ≤ sizeLine ∧ k (.lst (xs ++ ys)) S
abbrev rAdd4 (K : PySem.W.Frag) : R2 := fun x y H Q => (rI0 (fun i j => .int (i + j)) x y H Q ∨ (∃ i k, x = .int i ∧ y = .bl k ∧ Q (.int (i + b2i k)) H)) ∨ ((∃ i j, x = .str i ∧ y = .str j ∧ i.length + j.length ≤ sizeLine ∧ Q (.str (i ++ j)) H) ∨ (rCat x y H Q ∨ rCatA K x y H Q))
theorem op_add4 : OpR X (binaryOp .Add) (rAdd4 X.K) := (op_add.or op_add_ib).or (op_add_str.or (op_cat.or op_catA))
theorem simAdd {K : PySem.W.Frag} : SimR2 K (rAdd4 K) fAdd := by
  intro x y a b S H Q k rel dx dy h ret
  have gen : Lv S a (fun xs => Lv S b fun ys => xs.length + ys.length ≤ sizeLine ∧ k (.lst (xs ++ ys)) S) → rAdd4 K x y H Q := fun h => by
    obtain ⟨xs, vs, p, rfl, hp, gp, h⟩ := h.out rel dx
    obtain ⟨ys, ws, q, rfl, hq, gq, hs, h⟩ := h.out rel dy
    exact .inr (.inr (.inl ⟨p, q, vs, ws, rfl, rfl, hp, hq, by rw [← gp.length, ← gq.length]; exact hs, fun l hl => ret.newL rel (gp.append gq) hl h⟩))
  unfold fAdd at h
  split at h
  · cases dx; cases dy
    exact .inl (.inl ⟨_, _, rfl, rfl, ret.now rel Din h⟩)
  · cases dx; cases dy
    exact .inl (.inr ⟨_, _, rfl, rfl, ret.now rel Din h⟩)
  · cases dx; cases dy
    exact .inr (.inl ⟨_, _, rfl, rfl, h.1, ret.now rel Dst h.2⟩)
  · rename_i xs ys
    obtain ⟨p, vs, rfl, fp, gp⟩ := dx
    obtain ⟨q, ws, rfl, fq, gq⟩ := dy
    refine .inr (.inr (.inr ⟨p, q, vs, ws, rfl, rfl, fp.sq, fq.sq, by rw [← gp.length, ← gq.length]; exact h.1, fun e => ?_, fun _ e => ?_, fun _ _ l hl => ?_⟩))
    · subst e
      have e2 : xs = [] := by have := gp.length; cases xs <;> simp_all
      subst e2
      exact ret.now rel (Dtp fq gq) h.2
    · subst e
      have e2 : ys = [] := by have := gq.length; cases ys <;> simp_all
      subst e2
      have h2 := h.2
      rw [List.append_nil] at h2
      exact ret.now rel (Dtp fp gp) h2
    · exact ret.newT rel (gp.append gq) hl h.2
  · exact gen h
def fSub : F2 := fun S a b k => match a, b with
  | .int i, .int j => k (.int (i - j)) S
  | _, _ => False
theorem simI0 {K : PySem.W.Frag} {g : Int → Int → Int} : SimR2 K (rI0 fun i j => .int (g i j)) (fun S a b k => match a, b with | .int i, .int j => k (.int (g i j)) S | _, _ => False) := by
  intro x y a b S H Q k rel dx dy h ret
  split at h
  · cases dx; cases dy
    exact ⟨_, _, rfl, rfl, ret.now rel Din h⟩
  · exact h.elim
theorem simI {K : PySem.W.Frag} {C : Int → Int → Prop} {g : Int → Int → Int} : SimR2 K (rI C fun i j => .int (g i j)) (fun S a b k => match a, b with | .int i, .int j => C i j ∧ k (.int (g i j)) S | _, _ => False) := by
  intro x y a b S H Q k rel dx dy h ret
  split at h
  · cases dx; cases dy
    exact ⟨_, _, rfl, rfl, h.1, ret.now rel Din h.2⟩
  · exact h.elim
def fI (C : Int → Int → Prop) (g : Int → Int → Int) : F2 := fun S a b k => match a, b with | .int i, .int j => C i j ∧ k (.int (g i j)) S | _, _ => False
/-- powers of any size -/
def CPowG (i j : Int) : Prop := 0 ≤ j ∧ (Builtin.Int.intBits i : Int) * j ≤ 2 ^ 27
theorem op_powG : OpR X (binaryOp .Pow) (rI CPowG fun i j => .int (i ^ j.toNat)) := opI fun _ _ _ _ _ _ _ hc q => pow_int hc.1 hc.2 q
end
section
variable {X : Cx} {W : WX} {a b : Expr} {da db : XTE} {pos : Pos}
theorem de_add (ha : DE X W a da) (hb : DE X W b db) : DE X W (.BinOp a .Add b pos) (xOp fAdd da db) := de_bin op_add4 simAdd ha hb
theorem de_sub (ha : DE X W a da) (hb : DE X W b db) : DE X W (.BinOp a .Sub b pos) (xOp fSub da db) := de_bin op_sub simI0 ha hb
theorem op_mulA {X : Cx} : OpR X (binaryOp .Mult) (rI IntMulOk fun i j => .int (i * j)) := opI fun _ _ _ _ _ _ _ hc q => mul_int q hc
theorem mul_r {i j : Int} (h : -(2 ^ 64) < j ∧ j < 2 ^ 64) : IntMulOk i j := CMul.ok (.inr h)
theorem mul_l {i j : Int} (h : -(2 ^ 64) < i ∧ i < 2 ^ 64) : IntMulOk i j := CMul.ok (.inl h)
theorem de_mul (ha : DE X W a da) (hb : DE X W b db) : DE X W (.BinOp a .Mult b pos) (xOp (fI IntMulOk fun i j => i * j) da db) := de_bin op_mulA simI ha hb
theorem de_fdiv (ha : DE X W a da) (hb : DE X W b db) : DE X W (.BinOp a .FloorDiv b pos) (xOp (fI CDivW fun i j => i / j) da db) := de_bin op_fdivW simI ha hb
theorem de_mod (ha : DE X W a da) (hb : DE X W b db) : DE X W (.BinOp a .Mod b pos) (xOp (fI (fun _ j => 0 < j) fun i j => i % j) da db) := de_bin op_mod simI ha hb
theorem de_pow (ha : DE X W a da) (hb : DE X W b db) : DE X W (.BinOp a .Pow b pos) (xOp (fI CPowG fun i j => i ^ j.toNat) da db) := de_bin op_powG simI ha hb
end

/-! ### comparisons -/
/-- two answers, as == and != give them -/
def fEq (neg : Bool) : F2 := fun S a b k => match a, b with
  | .int i, .int j => k (.bl (neg != decide (i = j))) S
  | .str i, .str j => k (.bl (neg != decide (i = j))) S
  | .bl i, .bl j => k (.bl (neg != decide (i = j))) S
  | .ref p, .ref q => ∃ xs ys, S p = some (.lst xs) ∧ S q = some (.lst ys) ∧ okD (.lst xs) = true ∧ okD (.lst ys) = true ∧ k (.bl (neg != eqD (.lst xs) (.lst ys))) S
  | .ref p, b => ∃ xs, S p = some (.lst xs) ∧ okD (.lst xs) = true ∧ okD b = true ∧ k (.bl (neg != eqD (.lst xs) b)) S
  | a, .ref q => ∃ ys, S q = some (.lst ys) ∧ okD a = true ∧ okD (.lst ys) = true ∧ k (.bl (neg != eqD a (.lst ys))) S
  | a, b => okD a = true ∧ okD b = true ∧ k (.bl (neg != eqD a b)) S
theorem D.okp {K : PySem.W.Frag} {S : Store} {H : Hp} {a : Dt} {x : V} (d : D K S H a x) (h : okD a = true) : Dp K H x (toP a) ∧ SeqAt.shaped (toP a) = true := by
  unfold okD at h
  rw [Bool.and_eq_true] at h
  exact ⟨D.dp a h.1 d, h.2⟩
theorem ref_lst {K : PySem.W.Frag} {S : Store} {H : Hp} {p : Addr} {xs : List Dt} (rel : Rel K S H) (e : S p = some (.lst xs)) : ∃ vs, H p = some (.lst vs) ∧ DAll K S H xs vs := rel p _ e
theorem ref_okp {K : PySem.W.Frag} {S : Store} {H : Hp} {p : Addr} {xs : List Dt} (rel : Rel K S H) (e : S p = some (.lst xs)) (h : okD (.lst xs) = true) : Dp K H (.ref p) (toP (.lst xs)) ∧ SeqAt.shaped (toP (.lst xs)) = true := by
  obtain ⟨vs, e2, g⟩ := rel p _ e
  unfold okD at h
  rw [Bool.and_eq_true] at h
  exact ⟨.lst (.inl (.inl e2)) (DAll.dp xs h.1 g), h.2⟩
theorem decint {i j : Int} : decide (V.int i = V.int j) = decide (i = j) := by simp
theorem decstr {i j : Str} : decide (V.str i = V.str j) = decide (i = j) := by simp
theorem decbl {i j : Bool} : decide (V.bl i = V.bl j) = decide (i = j) := by simp
theorem simEq {K : PySem.W.Frag} : SimR2 K (fun x y H Q => rEq x y H Q ∨ rEqD K x y H Q) (fEq false) := by
  intro x y a b S H Q k rel dx dy h ret
  have gen : ∀ {d e : PyData}, Dp K H x d → Dp K H y e → SeqAt.shaped d = true → SeqAt.shaped e = true → k (.bl (false != PyData.eqv d e)) S → rEq x y H Q ∨ rEqD K x y H Q := fun {d e} h1 h2 h3 h4 h5 =>
    .inr ⟨d, e, h1, h2, h3, h4, ret.now rel Dbl (by rw [Bool.false_bne] at h5; exact h5)⟩
  unfold fEq at h
  split at h
  · cases dx; cases dy
    rw [Bool.false_bne] at h
    exact .inl ⟨rfl, by rw [decint]; exact ret.now rel Dbl h⟩
  · cases dx; cases dy
    rw [Bool.false_bne] at h
    exact .inl ⟨rfl, by rw [decstr]; exact ret.now rel Dbl h⟩
  · cases dx; cases dy
    rw [Bool.false_bne] at h
    exact .inl ⟨rfl, by rw [decbl]; exact ret.now rel Dbl h⟩
  · obtain ⟨xs, ys, e1, e2, o1, o2, h⟩ := h
    cases dx; cases dy
    obtain ⟨p1, s1⟩ := ref_okp rel e1 o1
    obtain ⟨p2, s2⟩ := ref_okp rel e2 o2
    exact gen p1 p2 s1 s2 h
  · obtain ⟨xs, e1, o1, o2, h⟩ := h
    cases dx
    obtain ⟨p1, s1⟩ := ref_okp rel e1 o1
    obtain ⟨p2, s2⟩ := dy.okp o2
    exact gen p1 p2 s1 s2 h
  · obtain ⟨ys, e2, o1, o2, h⟩ := h
    cases dy
    obtain ⟨p2, s2⟩ := ref_okp rel e2 o2
    obtain ⟨p1, s1⟩ := dx.okp o1
    exact gen p1 p2 s1 s2 h
  · obtain ⟨o1, o2, h⟩ := h
    obtain ⟨p1, s1⟩ := dx.okp o1
    obtain ⟨p2, s2⟩ := dy.okp o2
    exact gen p1 p2 s1 s2 h
theorem simNe {K : PySem.W.Frag} : SimR2 K (fun x y H Q => rNe x y H Q ∨ rNeD K x y H Q) (fEq true) := by
  intro x y a b S H Q k rel dx dy h ret
  have gen : ∀ {d e : PyData}, Dp K H x d → Dp K H y e → SeqAt.shaped d = true → SeqAt.shaped e = true → k (.bl (true != PyData.eqv d e)) S → rNe x y H Q ∨ rNeD K x y H Q := fun {d e} h1 h2 h3 h4 h5 =>
    .inr ⟨d, e, h1, h2, h3, h4, ret.now rel Dbl (by rw [Bool.true_bne] at h5; exact h5)⟩
  unfold fEq at h
  split at h
  · cases dx; cases dy
    rw [Bool.true_bne] at h
    exact .inl ⟨rfl, by rw [decint]; exact ret.now rel Dbl h⟩
  · cases dx; cases dy
    rw [Bool.true_bne] at h
    exact .inl ⟨rfl, by rw [decstr]; exact ret.now rel Dbl h⟩
  · cases dx; cases dy
    rw [Bool.true_bne] at h
    exact .inl ⟨rfl, by rw [decbl]; exact ret.now rel Dbl h⟩
  · obtain ⟨xs, ys, e1, e2, o1, o2, h⟩ := h
    cases dx; cases dy
    obtain ⟨p1, s1⟩ := ref_okp rel e1 o1
    obtain ⟨p2, s2⟩ := ref_okp rel e2 o2
    exact gen p1 p2 s1 s2 h
  · obtain ⟨xs, e1, o1, o2, h⟩ := h
    cases dx
    obtain ⟨p1, s1⟩ := ref_okp rel e1 o1
    obtain ⟨p2, s2⟩ := dy.okp o2
    exact gen p1 p2 s1 s2 h
  · obtain ⟨ys, e2, o1, o2, h⟩ := h
    cases dy
    obtain ⟨p2, s2⟩ := ref_okp rel e2 o2
    obtain ⟨p1, s1⟩ := dx.okp o1
    exact gen p1 p2 s1 s2 h
  · obtain ⟨o1, o2, h⟩ := h
    obtain ⟨p1, s1⟩ := dx.okp o1
    obtain ⟨p2, s2⟩ := dy.okp o2
    exact gen p1 p2 s1 s2 h
/-- an order of ints or texts -/
def fOrd (g : Int → Int → Bool) (t : List Nat → List Nat → Bool) : F2 := fun S a b k => match a, b with
  | .int i, .int j => k (.bl (g i j)) S
  | .str i, .str j => k (.bl (t i.cps.toList j.cps.toList)) S
  | _, _ => False
theorem simOrd {K : PySem.W.Frag} {g : Int → Int → Bool} {t : List Nat → List Nat → Bool} : SimR2 K (fun x y H Q => rI0 (fun i j => .bl (g i j)) x y H Q ∨ (∃ i j, x = .str i ∧ y = .str j ∧ Q (.bl (t i.cps.toList j.cps.toList)) H)) (fOrd g t) := by
  intro x y a b S H Q k rel dx dy h ret
  unfold fOrd at h
  split at h
  · cases dx; cases dy
    exact .inl ⟨_, _, rfl, rfl, ret.now rel Dbl h⟩
  · cases dx; cases dy
    exact .inr ⟨_, _, rfl, rfl, ret.now rel Dbl h⟩
  · exact h.elim
def fLt : F2 := fOrd (fun i j => decide (i < j)) (fun x y => decide (x < y))
def fLe : F2 := fOrd (fun i j => decide (i ≤ j)) (fun x y => !decide (y < x))
def fGt : F2 := fOrd (fun i j => decide (j < i)) (fun x y => decide (y < x))
def fGe : F2 := fOrd (fun i j => decide (j ≤ i)) (fun x y => !decide (x < y))
def isNon : Dt → Bool
  | .non => true
  | _ => false
def fIs (neg : Bool) : F2 := fun S a b k => match b with
  | .non => k (.bl (neg != isNon a)) S
  | _ => False
theorem D.isNon {K : PySem.W.Frag} {S : Store} {H : Hp} {a : Dt} {x : V} (d : D K S H a x) : decide (x = .non) = isNon a := by
  cases a with
  | non => cases d; rfl
  | bl b => cases d; rfl
  | int b => cases d; rfl
  | str b => cases d; rfl
  | ref b => cases d; rfl
  | ty b => cases d; rfl
  | lst b => obtain ⟨_, _, rfl, _⟩ := d; rfl
  | tup b => obtain ⟨_, _, rfl, _⟩ := d; rfl
  | rl b => obtain ⟨_, _, rfl, _⟩ := d; rfl
theorem simIs {K : PySem.W.Frag} : SimR2 K (fun x y H Q => y = .non ∧ Q (.bl (decide (x = .non))) H) (fIs false) := by
  intro x y a b S H Q k rel dx dy h ret
  unfold fIs at h
  split at h
  · cases dy
    rw [Bool.false_bne] at h
    exact ⟨rfl, by rw [dx.isNon]; exact ret.now rel Dbl h⟩
  · exact h.elim
theorem simNIs {K : PySem.W.Frag} : SimR2 K (fun x y H Q => y = .non ∧ Q (.bl (!decide (x = .non))) H) (fIs true) := by
  intro x y a b S H Q k rel dx dy h ret
  unfold fIs at h
  split at h
  · cases dy
    rw [Bool.true_bne] at h
    exact ⟨rfl, by rw [dx.isNon]; exact ret.now rel Dbl h⟩
  · exact h.elim
/-- membership -/
def flatD : Dt → Bool
  | .non => true
  | .bl _ => true
  | .int _ => true
  | .str _ => true
  | _ => false
def fIn (neg : Bool) : F2 := fun S a b k => match b with
  | .str z => (match a with | .str w => ∃ c, w = ⟨#[c]⟩ ∧ k (.bl (neg != decide (c ∈ z.cps.toList))) S | _ => False)
  | b => Sv S b fun xs => (flatD a = true ∧ xs.all flatD = true) ∧ k (.bl (neg != xs.any fun y => eqD y a)) S
theorem D.flat {K : PySem.W.Frag} {S : Store} {H : Hp} {a : Dt} {x : V} (d : D K S H a x) (h : flatD a = true) : flatV x = true := by
  cases a with
  | non => cases d; rfl
  | bl b => cases d; rfl
  | int b => cases d; rfl
  | str b => cases d; rfl
  | _ => cases h
theorem eqV_D {K : PySem.W.Frag} {S : Store} {H : Hp} {a b : Dt} {x y : V} (dx : D K S H a x) (dy : D K S H b y) (ha : flatD a = true) (hb : flatD b = true) : eqV y x = eqD b a := by
  cases a <;> first | (cases ha; done) | skip
  all_goals (cases b <;> first | (cases hb; done) | skip)
  all_goals (cases dx; cases dy; rfl)
theorem any_eqV {K : PySem.W.Frag} {S : Store} {H : Hp} {a : Dt} {x : V} (dx : D K S H a x) (ha : flatD a = true) : ∀ {xs : List Dt} {vs : List V}, DAll K S H xs vs → xs.all flatD = true → vs.all flatV = true ∧ inV x vs = xs.any fun y => eqD y a
  | [], _, h, _ => by cases h; exact ⟨rfl, rfl⟩
  | d :: ds, _, ⟨v, r, e, f, g⟩, h => by
    subst e
    rw [List.all_cons, Bool.and_eq_true] at h
    obtain ⟨h1, h2⟩ := any_eqV dx ha g h.2
    refine ⟨by rw [List.all_cons, f.flat h.1, h1]; rfl, ?_⟩
    unfold inV at h2 ⊢
    rw [List.any_cons, List.any_cons, h2, eqV_D dx f ha h.1]
abbrev rIn3 (K : PySem.W.Frag) (neg : Bool) : R2 := fun x y H Q => rIn K neg x y H Q ∨ (∃ (c : Nat) (z : Str), x = .str ⟨#[c]⟩ ∧ y = .str z ∧ Q (.bl (if neg then !decide (c ∈ z.cps.toList) else decide (c ∈ z.cps.toList))) H)
theorem bne_if {neg b : Bool} : (neg != b) = if neg then !b else b := by cases neg <;> cases b <;> rfl
theorem simIn {K : PySem.W.Frag} {neg : Bool} : SimR2 K (rIn3 K neg) (fIn neg) := by
  intro x y a b S H Q k rel dx dy h ret
  have gen : Sv S b (fun xs => (flatD a = true ∧ xs.all flatD = true) ∧ k (.bl (neg != xs.any fun y => eqD y a)) S) → rIn3 K neg x y H Q := fun h => by
    obtain ⟨xs, vs, p, rfl, sq, g, ⟨f1, f2⟩, h⟩ := h.out rel dy
    obtain ⟨g1, g2⟩ := any_eqV dx f1 g f2
    refine .inl ⟨p, vs, rfl, sq, dx.flat f1, g1, ?_⟩
    rw [g2, ← bne_if]
    exact ret.now rel Dbl h
  unfold fIn at h
  split at h
  · split at h
    · obtain ⟨c, e, h⟩ := h
      subst e
      cases dx; cases dy
      exact .inr ⟨c, _, rfl, rfl, by rw [← bne_if]; exact ret.now rel Dbl h⟩
    · exact h.elim
  · exact gen h
section
variable {X : Cx}
theorem op_in3 : OpR X (compareOp .In) (rIn3 X.K false) := op_in_seq.or op_in_sign
theorem op_notIn3 : OpR X (compareOp .NotIn) (rIn3 X.K true) := op_notIn_seq.or op_notIn_sign
end
/-! every comparison, as a value and as a test -/
inductive CmpR (X : Cx) : CmpOp → F2 → Prop
  | lt : CmpR X .Lt fLt
  | le : CmpR X .LtE fLe
  | gt : CmpR X .Gt fGt
  | ge : CmpR X .GtE fGe
  | is : CmpR X .Is (fIs false)
  | isnt : CmpR X .IsNot (fIs true)
  | isin : CmpR X .In (fIn false)
  | notIn : CmpR X .NotIn (fIn true)
  | eq (hu : X.A.units + 65 < cLine) : CmpR X .Eq (fEq false)
  | ne (hu : X.A.units + 65 < cLine) : CmpR X .NotEq (fEq true)
section
variable {X : Cx} {W : WX} {a b c : Expr} {da db dc : XTE} {pos : Pos} {f f' : F2} {op op' : CmpOp}
theorem op_eqD' (hu : X.A.units + 65 < cLine) : OpR X (compareOp .Eq) (rEqD X.K) := op_eqD (by omega)
theorem op_neD' (hu : X.A.units + 65 < cLine) : OpR X (compareOp .NotEq) (rNeD X.K) := op_neD (by omega)
theorem CmpR.to (h : CmpR X op f) : ∃ r, OpR X (compareOp op) r ∧ SimR2 X.K r f := by
  cases h with
  | lt => exact ⟨_, op_lt.or op_lt_str, simOrd⟩
  | le => exact ⟨_, op_le.or op_le_str, simOrd (t := fun x y => !decide (y < x))⟩
  | gt => exact ⟨_, op_gt.or op_gt_str, simOrd (t := fun x y => decide (y < x))⟩
  | ge => exact ⟨_, op_ge.or op_ge_str, simOrd (t := fun x y => !decide (x < y))⟩
  | is => exact ⟨_, op_isN, simIs⟩
  | isnt => exact ⟨_, op_notN, simNIs⟩
  | isin => exact ⟨_, op_in3, simIn⟩
  | notIn => exact ⟨_, op_notIn3, simIn⟩
  | eq hu => exact ⟨_, op_eq.or (op_eqD' hu), simEq⟩
  | ne hu => exact ⟨_, op_ne.or (op_neD' hu), simNe⟩
theorem de_rel (h : CmpR X op f) (ha : DE X W a da) (hb : DE X W b db) (hm : behindInMarks op b = false := by first | exact nomark _ | rfl) : DE X W (.Compare a [op] [b] pos) (xOp f da db) :=
  let ⟨_, h1, h2⟩ := h.to; de_cmp h1 h2 hm ha hb
theorem dt_rel (h : CmpR X op f) (ha : DE X W a da) (hb : DE X W b db) (hm : behindInMarks op b = false := by first | exact nomark _ | rfl) : DTt X W (.Compare a [op] [b] pos) (xTest (xOp f da db)) :=
  let ⟨_, h1, h2⟩ := h.to; dt_cmp h1 h2 hm ha hb
end
end DL

set_option Elab.async false
set_option linter.all false
set_option maxRecDepth 100000
set_option maxHeartbeats 4000000
/-! The data layer: tests, displays, calls, statements. -/
namespace DL
open PySem PySem.Spec PyProof.Rows L2

/-! ### truth, and, or, not -/
def fTru (S : Store) (a : Dt) (k : Bool → Store → Prop) : Prop := match a with
  | .non => k false S
  | .bl b => k b S
  | .int i => k (i != 0) S
  | .str y => y.length ≤ sizeLine ∧ k ((y.length : Int) != 0) S
  | a => Sv S a fun xs => k (!xs.isEmpty) S
section
variable {K : PySem.W.Frag} {S : Store} {H : Hp}
theorem fTru.out (rel : Rel K S H) {a : Dt} {x : V} {k : Bool → Store → Prop} (d : D K S H a x) (h : fTru S a k) : ∃ b, TruV K x H b ∧ k b S := by
  have gen : Sv S a (fun xs => k (!xs.isEmpty) S) → ∃ b, TruV K x H b ∧ k b S := fun h => by
    obtain ⟨xs, vs, p, rfl, sq, g, h⟩ := h.out rel d
    refine ⟨!xs.isEmpty, ?_, h⟩
    rw [g.nil_iff]
    rcases sq with sq | sq
    · exact .inl ⟨vs, sq, rfl⟩
    · exact .inr (.inl ⟨vs, sq, rfl⟩)
  unfold fTru at h
  split at h
  · cases d; exact ⟨_, rfl, h⟩
  · cases d; exact ⟨_, rfl, h⟩
  · cases d; exact ⟨_, rfl, h⟩
  · cases d; exact ⟨_, ⟨h.1, rfl⟩, h.2⟩
  · exact gen h
end
@[reducible] def xTru (da : XTE) : XTT := fun ρ S Φ Ω => da ρ S (fun a S1 => fTru S1 a Φ) Ω
@[reducible] def xAnd (t u : XTT) : XTT := fun ρ S Φ Ω => t ρ S (fun b S1 => if b = true then u ρ S1 Φ Ω else Φ false S1) Ω
@[reducible] def xOr (t u : XTT) : XTT := fun ρ S Φ Ω => t ρ S (fun b S1 => if b = true then Φ true S1 else u ρ S1 Φ Ω) Ω
@[reducible] def xNot (t : XTT) : XTT := fun ρ S Φ Ω => t ρ S (fun b S1 => Φ (!b) S1) Ω
@[reducible] def xNotV (da : XTE) : XTE := fun ρ S Φ Ω => da ρ S (fun a S1 => fTru S1 a fun b S2 => Φ (.bl (!b)) S2) Ω
@[reducible] def xAndV (da db : XTE) : XTE := fun ρ S Φ Ω => da ρ S (fun a S1 => fTru S1 a fun b S2 => if b = true then db ρ S2 Φ Ω else Φ a S2) Ω
@[reducible] def xOrV (da db : XTE) : XTE := fun ρ S Φ Ω => da ρ S (fun a S1 => fTru S1 a fun b S2 => if b = true then Φ a S2 else db ρ S2 Φ Ω) Ω
@[reducible] def xIf (t : XTT) (da db : XTE) : XTE := fun ρ S Φ Ω => t ρ S (fun b S1 => if b = true then da ρ S1 Φ Ω else db ρ S1 Φ Ω) Ω
section
variable {X : Cx} {W : WX} {a b c : Expr} {da db : XTE} {dt du : XTT} {pos : Pos} {rest : List Expr} {K : PySem.W.Frag} {ta tb : TE} {t u : TT}
theorem simTru (h : SimE K W ta da) : SimT K W (fun σ H Q => ta σ H fun x H' => ∃ k, TruV K x H' k ∧ Q k H') (xTru da) := by
  intro σ H ρ S Q Φ Ω rel env hd ret exc
  refine h σ H ρ S _ _ Ω rel env hd (fun x H1 a S1 rel1 st1 d1 h1 => ?_) exc
  obtain ⟨b, e, h2⟩ := fTru.out rel1 d1 h1
  exact ⟨b, e, ret b H1 S1 rel1 st1 h2⟩
theorem dt_val (ha : DE X W a da) (he : ∀ whole, isTrue a X.env whole = (do let v ← whole; standAt a.pos; holding [v] (truthy v)) := by intro _; rfl) : DTt X W a (xTru da) :=
  let ⟨_, h1, s1⟩ := ha; ⟨_, pt_truth h1 he, simTru s1⟩
theorem simNot (h : SimT K W t dt) : SimT K W (tNot t) (xNot dt) := by
  intro σ H ρ S Q Φ Ω rel env hd ret exc
  exact h σ H ρ S _ _ Ω rel env hd (fun b H1 S1 rel1 st1 h1 => ret (!b) H1 S1 rel1 st1 h1) exc
theorem dt_not (h : DTt X W a dt) : DTt X W (.UnaryOp .Not a pos) (xNot dt) := let ⟨_, h1, s1⟩ := h; ⟨_, pt_not h1, simNot s1⟩
theorem simAnd (h1 : SimT K W t dt) (h2 : SimT K W u du) : SimT K W (tAnd t u) (xAnd dt du) := by
  intro σ H ρ S Q Φ Ω rel env hd ret exc
  refine h1 σ H ρ S _ _ Ω rel env hd (fun b H1 S1 rel1 st1 h => ?_) exc
  cases b with
  | true => exact h2 σ H1 ρ S1 Q Φ Ω rel1 (env.step st1) h (ret.mono st1) (exc.mono st1)
  | false => exact ret false H1 S1 rel1 st1 h
theorem simOr (h1 : SimT K W t dt) (h2 : SimT K W u du) : SimT K W (tOr t u) (xOr dt du) := by
  intro σ H ρ S Q Φ Ω rel env hd ret exc
  refine h1 σ H ρ S _ _ Ω rel env hd (fun b H1 S1 rel1 st1 h => ?_) exc
  cases b with
  | true => exact ret true H1 S1 rel1 st1 h
  | false => exact h2 σ H1 ρ S1 Q Φ Ω rel1 (env.step st1) h (ret.mono st1) (exc.mono st1)
theorem dw_and1 (h : DTt X W a dt) : DWt X W (.BoolOp .And [a] pos) dt := let ⟨_, h1, s1⟩ := h; ⟨_, pw_and1 h1, s1⟩
theorem dw_or1 (h : DTt X W a dt) : DWt X W (.BoolOp .Or [a] pos) dt := let ⟨_, h1, s1⟩ := h; ⟨_, pw_or1 h1, s1⟩
theorem dw_and (h : DTt X W a dt) (g : DWt X W (.BoolOp .And (b :: rest) pos) du) : DWt X W (.BoolOp .And (a :: b :: rest) pos) (xAnd dt du) := let ⟨_, h1, s1⟩ := h; let ⟨_, h2, s2⟩ := g; ⟨_, pw_and h1 h2, simAnd s1 s2⟩
theorem dw_or (h : DTt X W a dt) (g : DWt X W (.BoolOp .Or (b :: rest) pos) du) : DWt X W (.BoolOp .Or (a :: b :: rest) pos) (xOr dt du) := let ⟨_, h1, s1⟩ := h; let ⟨_, h2, s2⟩ := g; ⟨_, pw_or h1 h2, simOr s1 s2⟩
theorem dt_w (h : DWt X W a dt) : DTt X W a dt := let ⟨_, h1, s1⟩ := h; ⟨_, h1.pt, s1⟩
theorem simNotV (h : SimE K W ta da) : SimE K W (tNotT K ta) (xNotV da) := by
  intro σ H ρ S Q Φ Ω rel env hd ret exc
  refine h σ H ρ S _ _ Ω rel env hd (fun x H1 a S1 rel1 st1 d1 h1 => ?_) exc
  obtain ⟨b, e, h2⟩ := fTru.out rel1 d1 h1
  exact ⟨b, e, ret _ H1 (.bl (!b)) S1 rel1 st1 rfl h2⟩
theorem de_not (h : DE X W a da) : DE X W (.UnaryOp .Not a pos) (xNotV da) := let ⟨_, h1, s1⟩ := h; ⟨_, pe_notT h1, simNotV s1⟩
theorem simAndV (h : SimE K W ta da) (g : SimE K W tb db) : SimE K W (tAndT K ta tb) (xAndV da db) := by
  intro σ H ρ S Q Φ Ω rel env hd ret exc
  refine h σ H ρ S _ _ Ω rel env hd (fun x H1 a S1 rel1 st1 d1 h1 => ?_) exc
  obtain ⟨b, e, h2⟩ := fTru.out rel1 d1 h1
  refine ⟨b, e, ?_⟩
  cases b with
  | true => exact g σ H1 ρ S1 Q Φ Ω rel1 (env.step st1) h2 (ret.mono st1) (exc.mono st1)
  | false => exact ret x H1 a S1 rel1 st1 d1 h2
theorem simOrV (h : SimE K W ta da) (g : SimE K W tb db) : SimE K W (tOrT K ta tb) (xOrV da db) := by
  intro σ H ρ S Q Φ Ω rel env hd ret exc
  refine h σ H ρ S _ _ Ω rel env hd (fun x H1 a S1 rel1 st1 d1 h1 => ?_) exc
  obtain ⟨b, e, h2⟩ := fTru.out rel1 d1 h1
  refine ⟨b, e, ?_⟩
  cases b with
  | true => exact ret x H1 a S1 rel1 st1 d1 h2
  | false => exact g σ H1 ρ S1 Q Φ Ω rel1 (env.step st1) h2 (ret.mono st1) (exc.mono st1)
theorem de_one {op} (h : DE X W a da) : DE X W (.BoolOp op [a] pos) da := let ⟨_, h1, s1⟩ := h; ⟨_, pe_one h1, s1⟩
theorem de_and (h : DE X W a da) (g : DE X W (.BoolOp .And (b :: rest) pos) db) : DE X W (.BoolOp .And (a :: b :: rest) pos) (xAndV da db) := let ⟨_, h1, s1⟩ := h; let ⟨_, h2, s2⟩ := g; ⟨_, pe_andT h1 h2, simAndV s1 s2⟩
theorem de_or (h : DE X W a da) (g : DE X W (.BoolOp .Or (b :: rest) pos) db) : DE X W (.BoolOp .Or (a :: b :: rest) pos) (xOrV da db) := let ⟨_, h1, s1⟩ := h; let ⟨_, h2, s2⟩ := g; ⟨_, pe_orT h1 h2, simOrV s1 s2⟩
theorem simIf (h : SimT K W t dt) (h1 : SimE K W ta da) (h2 : SimE K W tb db) : SimE K W (tIf t ta tb) (xIf dt da db) := by
  intro σ H ρ S Q Φ Ω rel env hd ret exc
  refine h σ H ρ S _ _ Ω rel env hd (fun b H1 S1 rel1 st1 g => ?_) exc
  cases b with
  | true => exact h1 σ H1 ρ S1 Q Φ Ω rel1 (env.step st1) g (ret.mono st1) (exc.mono st1)
  | false => exact h2 σ H1 ρ S1 Q Φ Ω rel1 (env.step st1) g (ret.mono st1) (exc.mono st1)
theorem de_if (hc : DTt X W c dt) (ha : DE X W a da) (hb : DE X W b db) : DE X W (.IfExp c a b pos) (xIf dt da db) := let ⟨_, h0, s0⟩ := hc; let ⟨_, h1, s1⟩ := ha; let ⟨_, h2, s2⟩ := hb; ⟨_, pe_ifExp h0 h1 h2, simIf s0 s1 s2⟩
/-- chains of comparisons -/
@[reducible] def xChain (f g : F2) (da db dc : XTE) : XTE := fun ρ S Φ Ω => da ρ S (fun a S1 => db ρ S1 (fun b S2 => f S2 a b fun z S3 => match z with
  | .bl k => if k = true then dc ρ S3 (fun c S4 => g S4 b c Φ) Ω else Φ (.bl false) S3
  | _ => False) Ω) Ω
theorem simChain {r r' : R2} {f g : F2} {tc : TE} {dc : XTE} (hr : SimR2 K r f) (hr' : SimR2 K r' g) (h1 : SimE K W ta da) (h2 : SimE K W tb db) (h3 : SimE K W tc dc) : SimE K W (tChain r r' ta tb tc) (xChain f g da db dc) := by
  intro σ H ρ S Q Φ Ω rel env hd ret exc
  refine h1 σ H ρ S _ _ Ω rel env hd (fun x H1 a S1 rel1 st1 d1 g1 => ?_) exc
  refine h2 σ H1 ρ S1 _ _ Ω rel1 (env.step st1) g1 (fun y H2 b S2 rel2 st2 d2 g2 => ?_) (exc.mono st1)
  refine hr x y a b S2 H2 _ _ rel2 (D.step st2 _ d1) d2 g2 fun z H3 c S3 rel3 st3 d3 g3 => ?_
  cases c with
  | bl k =>
    cases d3
    refine ⟨k, rfl, ?_⟩
    have st := (st1.trans st2).trans st3
    cases k with
    | true =>
      refine h3 σ H3 ρ S3 _ _ Ω rel3 (env.step st) g3 (fun w H4 e S4 rel4 st4 d4 g4 => ?_) (exc.mono st)
      exact hr' y w b e S4 H4 Q Φ rel4 (D.step (st3.trans st4) _ d2) d4 g4 (ret.mono (st.trans st4))
    | false => exact ret _ H3 (.bl false) S3 rel3 st rfl g3
  | _ => exact g3.elim
theorem de_chain {op op' : CmpOp} {f g : F2} {dc : XTE} (h : CmpR X op f) (h' : CmpR X op' g) (ha : DE X W a da) (hb : DE X W b db) (hc : DE X W c dc)
    (hm : lastMarks [op, op'] [b, c] = false := by rfl) : DE X W (.Compare a [op, op'] [b, c] pos) (xChain f g da db dc) := by
  obtain ⟨r, o1, q1⟩ := h.to
  obtain ⟨r', o2, q2⟩ := h'.to
  obtain ⟨_, h1, s1⟩ := ha
  obtain ⟨_, h2, s2⟩ := hb
  obtain ⟨_, h3, s3⟩ := hc
  exact ⟨_, pe_chain o1 o2 h1 h2 h3 hm, simChain q1 q2 s1 s2 s3⟩
theorem dt_chain {op op' : CmpOp} {f g : F2} {dc : XTE} (h : CmpR X op f) (h' : CmpR X op' g) (ha : DE X W a da) (hb : DE X W b db) (hc : DE X W c dc)
    (hm : lastMarks [op, op'] [b, c] = false := by rfl) : DTt X W (.Compare a [op, op'] [b, c] pos) (xTest (xChain f g da db dc)) := by
  obtain ⟨r, o1, q1⟩ := h.to
  obtain ⟨r', o2, q2⟩ := h'.to
  obtain ⟨_, h1, s1⟩ := ha
  obtain ⟨_, h2, s2⟩ := hb
  obtain ⟨_, h3, s3⟩ := hc
  refine ⟨_, pt_chain o1 o2 h1 h2 h3 hm, ?_⟩
  exact simTest (simChain q1 q2 s1 s2 s3)
end

/-! ### arguments, displays, subscripts -/
@[reducible] def xNil : XTA := fun _ S Φ _ => Φ [] S
@[reducible] def xCons (da : XTE) (dr : XTA) : XTA := fun ρ S Φ Ω => da ρ S (fun a S1 => dr ρ S1 (fun as S2 => Φ (a :: as) S2) Ω) Ω
@[reducible] def xTup (dr : XTA) : XTE := fun ρ S Φ Ω => dr ρ S (fun as S1 => as.length ≤ sizeLine ∧ Φ (.tup as) S1) Ω
@[reducible] def xLst (dr : XTA) : XTE := fun ρ S Φ Ω => dr ρ S (fun as S1 => as.length ≤ sizeLine ∧ Φ (.lst as) S1) Ω
@[reducible] def xLstM (dr : XTA) : XTE := fun ρ S Φ Ω => dr ρ S (fun as S1 => as.length ≤ sizeLine ∧ ∀ p, S1 p = none → Φ (.ref p) (su S1 p (.lst as))) Ω
def fIx : F2 := fun S a i k => match i with
  | .int i => (match a with
    | .str z => z.length ≤ sizeLine ∧ ∃ c, atI z.cps.toList i = some c ∧ k (.str ⟨#[c]⟩) S
    | a => Sv S a fun xs => ∃ d, atI xs i = some d ∧ k d S)
  | _ => False
abbrev XTO := Ro → Store → (Option Int → Store → Prop) → XK1 → Prop
@[reducible] def xoNone : XTO := fun _ S Φ _ => Φ none S
@[reducible] def xoSome (da : XTE) : XTO := fun ρ S Φ Ω => da ρ S (fun a S1 => match a with | .int i => Φ (some i) S1 | _ => False) Ω
def cutL (xs : List Dt) (lo hi : Option Int) : List Dt := (xs.drop (HT.sIx xs.length 0 lo)).take (HT.sIx xs.length xs.length hi - HT.sIx xs.length 0 lo)
def fSl (S : Store) (a : Dt) (lo hi : Option Int) (k : OK1) : Prop := match a with
  | .str z => z.length ≤ sizeLine ∧ k (.str (cutS z lo hi)) S
  | .tup xs => k (.tup (cutL xs lo hi)) S
  | .lst xs => k (.lst (cutL xs lo hi)) S
  | .rl xs => k (.lst (cutL xs lo hi)) S
  | .ref p => ∃ xs, S p = some (.lst xs) ∧ k (.lst (cutL xs lo hi)) S
  | _ => False
@[reducible] def xSl (da : XTE) (dl dh : XTO) : XTE := fun ρ S Φ Ω => da ρ S (fun a S1 => dl ρ S1 (fun l S2 => dh ρ S2 (fun h S3 => fSl S3 a l h Φ) Ω) Ω) Ω
def DO (X : Cx) (W : WX) (e : Option Expr) (d : XTO) : Prop := ∃ t, PO X e t ∧ ∀ σ H ρ S Q Φ Ω, Rel X.K S H → EnvR X.K S H σ ρ → d ρ S Φ Ω → (∀ o H' S', Rel X.K S' H' → Step S H S' H' → Φ o S' → Q o H') → Exc X.K S H Ω (WE W σ) → t σ H Q
section
variable {X : Cx} {W : WX} {a b e : Expr} {es : List Expr} {da db : XTE} {dr : XTA} {pos : Pos} {K : PySem.W.Frag} {ta tb : TE} {tr : TA}
theorem da_nil : DA X W [] xNil := ⟨_, pa_nil, fun σ H ρ S Q Φ Ω rel env h ret exc => ret [] H [] S rel Step.refl rfl h⟩
theorem simCons (h1 : SimE K W ta da) (h2 : SimA K W tr dr) : SimA K W (tCons ta tr) (xCons da dr) := by
  intro σ H ρ S Q Φ Ω rel env h ret exc
  refine h1 σ H ρ S _ _ Ω rel env h (fun x H1 a S1 rel1 st1 d1 g1 => ?_) exc
  refine h2 σ H1 ρ S1 _ _ Ω rel1 (env.step st1) g1 (fun xs H2 as S2 rel2 st2 d2 g2 => ?_) (exc.mono st1)
  exact ret (x :: xs) H2 (a :: as) S2 rel2 (st1.trans st2) ⟨x, xs, rfl, D.step st2 _ d1, d2⟩ g2
theorem da_cons (h : DE X W e da) (g : DA X W es dr) (hs : starEach (e :: es) X.env = (false, eval e X.env) :: starEach es X.env := by rfl) : DA X W (e :: es) (xCons da dr) :=
  let ⟨_, h1, s1⟩ := h; let ⟨_, h2, s2⟩ := g; ⟨_, pa_cons h1 h2 hs, simCons s1 s2⟩
theorem de_tup {x1} (h : DA X W es dr) : DE X W (.Tuple es x1 pos) (xTup dr) := by
  obtain ⟨t, h1, s1⟩ := h
  refine ⟨_, pe_tup h1, fun σ H ρ S Q Φ Ω rel env h ret exc => ?_⟩
  refine s1 σ H ρ S _ _ Ω rel env h (fun xs H1 as S1 rel1 st1 d1 g1 => ?_) exc
  exact ⟨by rw [← d1.length]; exact g1.1, fun p hp => (ret.mono st1).newT rel1 d1 hp g1.2⟩
theorem de_lst (h : DA X W es dr) : DE X W (.List es pos) (xLst dr) := by
  obtain ⟨t, h1, s1⟩ := h
  refine ⟨_, pe_lst h1, fun σ H ρ S Q Φ Ω rel env h ret exc => ?_⟩
  refine s1 σ H ρ S _ _ Ω rel env h (fun xs H1 as S1 rel1 st1 d1 g1 => ?_) exc
  exact ⟨by rw [← d1.length]; exact g1.1, fun p hp => (ret.mono st1).newL rel1 d1 hp g1.2⟩
theorem de_lstM (h : DA X W es dr) : DE X W (.List es pos) (xLstM dr) := by
  obtain ⟨t, h1, s1⟩ := h
  refine ⟨_, pe_lst h1, fun σ H ρ S Q Φ Ω rel env h ret exc => ?_⟩
  refine s1 σ H ρ S _ _ Ω rel env h (fun xs H1 as S1 rel1 st1 d1 g1 => ?_) exc
  exact ⟨by rw [← d1.length]; exact g1.1, fun p hp => (ret.mono st1).newM rel1 d1 hp (g1.2 p (rel1.hp hp))⟩
theorem atI_D {S : Store} {H : Hp} {xs : List Dt} {vs : List V} (g : DAll K S H xs vs) {i : Int} {d : Dt} (h : atI xs i = some d) : ∃ v, atI vs i = some v ∧ D K S H d v := by
  unfold atI at h ⊢
  rw [← g.length]
  cases e : ixN xs.length i with
  | none => rw [e] at h; cases h
  | some j =>
    rw [e] at h
    obtain ⟨v, h1, h2⟩ := g.get (show xs[j]? = some d from h)
    exact ⟨v, h1, h2⟩
theorem simIx : SimR2 K (rIx K) fIx := by
  intro x y a i S H Q k rel dx dy h ret
  unfold fIx at h
  split at h
  · split at h
    · cases dx; cases dy
      obtain ⟨hz, c, hc, h⟩ := h
      exact .inr (.inr ⟨_, _, c, rfl, rfl, hz, hc, ret.now rel Dst h⟩)
    · obtain ⟨xs, vs, p, rfl, sq, g, d, hd, h⟩ := h.out rel dx
      cases dy
      obtain ⟨v, hv, dv⟩ := atI_D g hd
      rcases sq with sq | sq
      · exact .inl ⟨p, vs, _, v, rfl, rfl, sq, hv, ret.now rel dv h⟩
      · exact .inr (.inl ⟨p, vs, _, v, rfl, rfl, sq, hv, ret.now rel dv h⟩)
  · exact h.elim
theorem de_ix (ha : DE X W a da) (hb : DE X W b db) (hs : PlainIx b := by exact fun _ _ => rfl) : DE X W (.Subscript a b pos) (xOp fIx da db) :=
  let ⟨_, h1, s1⟩ := ha; let ⟨_, h2, s2⟩ := hb; ⟨_, pe_ix ix_seq h1 h2 hs, simOp simIx s1 s2⟩
theorem do_none : DO X W none xoNone := ⟨_, po_none, fun σ H ρ S Q Φ Ω rel env h ret exc => ret none H S rel Step.refl h⟩
theorem do_some (h : DE X W e da) : DO X W (some e) (xoSome da) := by
  obtain ⟨t, h1, s1⟩ := h
  refine ⟨_, po_some h1, fun σ H ρ S Q Φ Ω rel env h ret exc => ?_⟩
  refine s1 σ H ρ S _ _ Ω rel env h (fun x H1 a S1 rel1 st1 d1 g1 => ?_) exc
  cases a with
  | int i => cases d1; exact ⟨i, rfl, ret (some i) H1 S1 rel1 st1 g1⟩
  | _ => exact g1.elim
theorem cutL_D {S : Store} {H : Hp} {xs : List Dt} {vs : List V} (g : DAll K S H xs vs) (lo hi : Option Int) : DAll K S H (cutL xs lo hi) (cutV vs lo hi) := by
  unfold cutL cutV
  rw [g.length]
  exact (g.drop _).take _
abbrev rSl3 (K : PySem.W.Frag) : V → Option Int → Option Int → Hp → VK → Prop := fun x lo hi H Q => rSlL K x lo hi H Q ∨ rSlA K x lo hi H Q ∨ rSlS x lo hi H Q
theorem sIx_whole {xs : List Dt} {lo hi : Option Int} (h : HT.sIx xs.length 0 lo = 0 ∧ HT.sIx xs.length xs.length hi = xs.length) : cutL xs lo hi = xs := by
  unfold cutL
  rw [h.1, h.2]
  simp
theorem simSl {S : Store} {H : Hp} {a : Dt} {x : V} {lo hi : Option Int} {k : OK1} {Q : VK} (rel : Rel K S H) (dx : D K S H a x) (h : fSl S a lo hi k) (ret : Ret K S H k Q) : rSl3 K x lo hi H Q := by
  have gl : ∀ {p : Addr} {xs : List Dt} {vs : List V}, x = .ref p → SqL K H p vs → DAll K S H xs vs → k (.lst (cutL xs lo hi)) S → rSl3 K x lo hi H Q := fun {p xs vs} e sq g h =>
    .inl ⟨p, vs, e, sq, fun q hq => ret.newL rel (cutL_D g lo hi) hq h⟩
  unfold fSl at h
  split at h
  · cases dx
    exact .inr (.inr ⟨_, rfl, h.1, ret.now rel Dst h.2⟩)
  · rename_i xs
    obtain ⟨p, vs, rfl, f, g⟩ := dx
    refine .inr (.inl ⟨p, vs, rfl, f.sq, fun e => ?_, fun _ q hq => ret.newT rel (cutL_D g lo hi) hq h⟩)
    rw [← g.length] at e
    rw [sIx_whole e] at h
    exact ret.now rel (Dtp f g) h
  · obtain ⟨p, vs, e, f, g⟩ := dx
    exact gl e f.sq g h
  · obtain ⟨p, vs, e, f, g⟩ := dx
    exact gl e f.sq g h
  · obtain ⟨xs, e, h⟩ := h
    obtain ⟨vs, e2, g⟩ := rel _ _ e
    exact gl dx (.inl (.inl e2)) g h
  · exact h.elim
theorem de_sl {lo hi : Option Expr} {dl dh : XTO} {p2 : Pos} (ha : DE X W a da) (hl : DO X W lo dl) (hh : DO X W hi dh) : DE X W (.Subscript a (.Slice lo hi none p2) pos) (xSl da dl dh) := by
  obtain ⟨t, h1, s1⟩ := ha
  obtain ⟨tl, h2, s2⟩ := hl
  obtain ⟨th, h3, s3⟩ := hh
  refine ⟨_, pe_slice (sl_list.or (sl_tupA.or sl_str)) h1 h2 h3, fun σ H ρ S Q Φ Ω rel env h ret exc => ?_⟩
  refine s1 σ H ρ S _ _ Ω rel env h (fun x H1 a S1 rel1 st1 d1 g1 => ?_) exc
  refine s2 σ H1 ρ S1 _ _ Ω rel1 (env.step st1) g1 (fun l H2 S2 rel2 st2 g2 => ?_) (exc.mono st1)
  refine s3 σ H2 ρ S2 _ _ Ω rel2 (env.step (st1.trans st2)) g2 (fun u H3 S3 rel3 st3 g3 => ?_) (exc.mono (st1.trans st2))
  exact simSl rel3 (D.step (st2.trans st3) _ d1) g3 (ret.mono ((st1.trans st2).trans st3))
end

/-! ### built-in functions -/
abbrev FC := Store → List Dt → OK1 → Prop
def SimC (K : PySem.W.Frag) (r : List V → Hp → VK → Prop) (g : FC) : Prop := ∀ xs as S H Q k, Rel K S H → DAll K S H as xs → g S as k → Ret K S H k Q → r xs H Q
@[reducible] def xCB (g : FC) (dr : XTA) : XTE := fun ρ S Φ Ω => dr ρ S (fun as S1 => g S1 as Φ) Ω
section
variable {X : Cx} {W : WX} {a b e : Expr} {es : List Expr} {da db : XTE} {dr : XTA} {pos p : Pos} {K : PySem.W.Frag} {x : Str}
theorem simCB {r : List V → Hp → VK → Prop} {g : FC} {t : TA} (hr : SimC K r g) (h : SimA K W t dr) : SimE K W (tCB r t) (xCB g dr) := by
  intro σ H ρ S Q Φ Ω rel env hd ret exc
  refine h σ H ρ S _ _ Ω rel env hd (fun xs H1 as S1 rel1 st1 d1 g1 => ?_) exc
  exact hr xs as S1 H1 Q _ rel1 d1 g1 (ret.mono st1)
theorem de_callB {id : String} {r : List V → Hp → VK → Prop} {g : FC} (hc : CallR X (.builtin id) r) (hr : SimC X.K r g) (hm : X.mg x = none) (hv : bootBuiltins x = some (.builtin id)) (h : DA X W (e :: es) dr) (hg : Gl X x := by rfl) (hn : x ≠ "__name__" := by decide)
    (hdb : (x == ("__debug__" : Str)) = false := by decide) (he : starEach (e :: es) X.env = (false, eval e X.env) :: starEach es X.env := by rfl) (hpl : (backTo pos (starEach es X.env)).any (·.1) = false := by rfl) : DE X W (.Call (.Name x p) (e :: es) [] pos) (xCB g dr) :=
  let ⟨_, h1, s1⟩ := h; ⟨_, pe_callB hc hg hm hv h1 hn hdb he hpl, simCB hr s1⟩
theorem de_callTy {T : String} {r : List V → Hp → VK → Prop} {g : FC} (hc : CallR X (.type T) r) (hr : SimC X.K r g) (hm : X.mg x = none) (hv : bootBuiltins x = some (.type T)) (h : DA X W (e :: es) dr) (hg : Gl X x := by rfl) (hn : x ≠ "__name__" := by decide)
    (hdb : (x == ("__debug__" : Str)) = false := by decide) (he : starEach (e :: es) X.env = (false, eval e X.env) :: starEach es X.env := by rfl) (hpl : (backTo pos (starEach es X.env)).any (·.1) = false := by rfl) : DE X W (.Call (.Name x p) (e :: es) [] pos) (xCB g dr) :=
  let ⟨_, h1, s1⟩ := h; ⟨_, pe_callTy hc hg hm hv h1 hn hdb he hpl, simCB hr s1⟩
def gLen : FC := fun S as k => match as with
  | [.str y] => y.length ≤ sizeLine ∧ k (.int y.length) S
  | [a] => Sv S a fun xs => k (.int xs.length) S
  | _ => False
theorem DAll.one {S : Store} {H : Hp} {a : Dt} {xs : List V} (h : DAll K S H [a] xs) : ∃ v, xs = [v] ∧ D K S H a v := by
  obtain ⟨v, r, e, f, g⟩ := h
  cases g
  exact ⟨v, e, f⟩
theorem DAll.two {S : Store} {H : Hp} {a b : Dt} {xs : List V} (h : DAll K S H [a, b] xs) : ∃ v w, xs = [v, w] ∧ D K S H a v ∧ D K S H b w := by
  obtain ⟨v, r, e, f, w, r2, e2, f2, g⟩ := h
  cases g
  subst e2
  exact ⟨v, w, e, f, f2⟩
theorem simLen : SimC K (fun xs H Q => ∃ x n, xs = [x] ∧ LenV K x H n ∧ Q (.int n) H) gLen := by
  intro xs as S H Q k rel d h ret
  unfold gLen at h
  split at h
  · obtain ⟨v, rfl, dv⟩ := d.one
    cases dv
    exact ⟨_, _, rfl, ⟨h.1, rfl⟩, ret.now rel Din h.2⟩
  · obtain ⟨v, rfl, dv⟩ := d.one
    obtain ⟨ys, vs, p, rfl, sq, g, h⟩ := h.out rel dv
    refine ⟨.ref p, ys.length, rfl, ?_, ret.now rel Din h⟩
    rcases sq with sq | sq
    · exact .inl ⟨vs, sq, g.length⟩
    · exact .inr ⟨vs, sq, g.length⟩
  · exact h.elim
theorem de_len (hm : X.mg "len" = none) (h : DA X W (e :: es) dr) (hg : Gl X "len" := by rfl) (he : starEach (e :: es) X.env = (false, eval e X.env) :: starEach es X.env := by rfl) (hpl : (backTo pos (starEach es X.env)).any (·.1) = false := by rfl) :
    DE X W (.Call (.Name "len" p) (e :: es) [] pos) (xCB gLen dr) := de_callB call_len simLen hm PySem.boot_len h hg (by decide) (by decide) he hpl
/-- lists of truths, of ints, of texts -/
def isBl : Dt → Bool | .bl _ => true | _ => false
def tD : Dt → Bool | .bl b => b | _ => false
def isIn : Dt → Bool | .int _ => true | _ => false
def iD : Dt → Int | .int i => i | _ => 0
def isSt : Dt → Bool | .str _ => true | _ => false
def sD : Dt → Str | .str x => x | _ => Str.empty
theorem DAll.bls {S : Store} {H : Hp} : ∀ {xs : List Dt} {vs : List V}, DAll K S H xs vs → xs.all isBl = true → vs = (xs.map tD).map V.bl
  | [], _, h, _ => by cases h; rfl
  | d :: ds, _, ⟨v, r, e, f, g⟩, h => by
    rw [List.all_cons, Bool.and_eq_true] at h
    have := DAll.bls g h.2
    subst e this
    cases d <;> first | (cases h.1; done) | skip
    cases f
    rfl
theorem DAll.ins {S : Store} {H : Hp} : ∀ {xs : List Dt} {vs : List V}, DAll K S H xs vs → xs.all isIn = true → vs = (xs.map iD).map V.int
  | [], _, h, _ => by cases h; rfl
  | d :: ds, _, ⟨v, r, e, f, g⟩, h => by
    rw [List.all_cons, Bool.and_eq_true] at h
    have := DAll.ins g h.2
    subst e this
    cases d <;> first | (cases h.1; done) | skip
    cases f
    rfl
theorem DAll.sts {S : Store} {H : Hp} : ∀ {xs : List Dt} {vs : List V}, DAll K S H xs vs → xs.all isSt = true → vs = (xs.map sD).map V.str
  | [], _, h, _ => by cases h; rfl
  | d :: ds, _, ⟨v, r, e, f, g⟩, h => by
    rw [List.all_cons, Bool.and_eq_true] at h
    have := DAll.sts g h.2
    subst e this
    cases d <;> first | (cases h.1; done) | skip
    cases f
    rfl
def gAll : FC := fun S as k => match as with
  | [a] => Lv S a fun xs => xs.all isBl = true ∧ k (.bl (xs.all tD)) S
  | _ => False
def gAny : FC := fun S as k => match as with
  | [a] => Lv S a fun xs => xs.all isBl = true ∧ k (.bl (xs.any tD)) S
  | _ => False
def gSum : FC := fun S as k => match as with
  | [a] => Lv S a fun xs => xs.all isIn = true ∧ k (.int (xs.map iD).sum) S
  | _ => False
theorem simAll : SimC K (rAll K) gAll := by
  intro xs as S H Q k rel d h ret
  unfold gAll at h
  split at h
  · obtain ⟨v, rfl, dv⟩ := d.one
    obtain ⟨ys, vs, p, rfl, hp, g, h1, h2⟩ := h.out rel dv
    have e := g.bls h1
    subst e
    refine ⟨p, ys.map tD, rfl, .inl (.inl hp), ret.now rel Dbl ?_⟩
    rw [List.all_map]
    exact h2
  · exact h.elim
theorem simAny : SimC K (rAny K) gAny := by
  intro xs as S H Q k rel d h ret
  unfold gAny at h
  split at h
  · obtain ⟨v, rfl, dv⟩ := d.one
    obtain ⟨ys, vs, p, rfl, hp, g, h1, h2⟩ := h.out rel dv
    have e := g.bls h1
    subst e
    refine ⟨p, ys.map tD, rfl, .inl (.inl hp), ret.now rel Dbl ?_⟩
    rw [List.any_map]
    exact h2
  · exact h.elim
theorem simSum : SimC K (rSum K) gSum := by
  intro xs as S H Q k rel d h ret
  unfold gSum at h
  split at h
  · obtain ⟨v, rfl, dv⟩ := d.one
    obtain ⟨ys, vs, p, rfl, hp, g, h1, h2⟩ := h.out rel dv
    have e := g.ins h1
    subst e
    exact ⟨p, ys.map iD, rfl, .inl (.inl hp), ret.now rel Din h2⟩
  · exact h.elim
def gAbs : FC := fun S as k => match as with
  | [.int i] => k (.int (if i < 0 then -i else i)) S
  | _ => False
theorem simAbs : SimC K (fun xs H Q => ∃ i, xs = [.int i] ∧ Q (.int (if i < 0 then -i else i)) H) gAbs := by
  intro xs as S H Q k rel d h ret
  unfold gAbs at h
  split at h
  · obtain ⟨v, rfl, dv⟩ := d.one
    cases dv
    exact ⟨_, rfl, ret.now rel Din h⟩
  · exact h.elim
def gMin2 : FC := fun S as k => match as with
  | [.int i, .int j] => k (.int (if j < i then j else i)) S
  | _ => False
def gMax2 : FC := fun S as k => match as with
  | [.int i, .int j] => k (.int (if j > i then j else i)) S
  | _ => False
theorem simMin2 : SimC K (fun xs H Q => ∃ i j, xs = [.int i, .int j] ∧ Q (.int (if j < i then j else i)) H) gMin2 := by
  intro xs as S H Q k rel d h ret
  unfold gMin2 at h
  split at h
  · obtain ⟨v, w, rfl, d1, d2⟩ := d.two
    cases d1; cases d2
    exact ⟨_, _, rfl, ret.now rel Din h⟩
  · exact h.elim
theorem simMax2 : SimC K (fun xs H Q => ∃ i j, xs = [.int i, .int j] ∧ Q (.int (if j > i then j else i)) H) gMax2 := by
  intro xs as S H Q k rel d h ret
  unfold gMax2 at h
  split at h
  · obtain ⟨v, w, rfl, d1, d2⟩ := d.two
    cases d1; cases d2
    exact ⟨_, _, rfl, ret.now rel Din h⟩
  · exact h.elim
/-- str(n) -/
def gStrI : FC := fun S as k => match as with
  | [.int i] => i.natAbs.log2 < 1920 ∧ k (.str (toString i)) S
  | _ => False
theorem simStrI : SimC K (fun xs H Q => ∃ i, xs = [.int i] ∧ i.natAbs.log2 < 1920 ∧ Q (.str (toString i)) H) gStrI := by
  intro xs as S H Q k rel d h ret
  unfold gStrI at h
  split at h
  · obtain ⟨v, rfl, dv⟩ := d.one
    cases dv
    exact ⟨_, rfl, h.1, ret.now rel Dst h.2⟩
  · exact h.elim
/-- int(x) of an int, a truth, a text -/
def gInt : FC := fun S as k => match as with
  | [.int i] => k (.int i) S
  | [.bl b] => k (.int (if b then 1 else 0)) S
  | [.str a] => ∃ n, PySem.intText? a = some n ∧ a.length ≤ 640 ∧ k (.int n) S
  | _ => False
theorem simInt : SimC K (fun xs H Q => ((∃ i, xs = [V.int i] ∧ Q (.int i) H) ∨ ∃ k, xs = [.bl k] ∧ Q (.int (if k then 1 else 0)) H) ∨ (∃ a n, xs = [.str a] ∧ PySem.intText? a = some n ∧ a.length ≤ 640 ∧ Q (.int n) H)) gInt := by
  intro xs as S H Q k rel d h ret
  unfold gInt at h
  split at h
  · obtain ⟨v, rfl, dv⟩ := d.one
    cases dv
    exact .inl (.inl ⟨_, rfl, ret.now rel Din h⟩)
  · obtain ⟨v, rfl, dv⟩ := d.one
    cases dv
    exact .inl (.inr ⟨_, rfl, ret.now rel Din h⟩)
  · obtain ⟨v, rfl, dv⟩ := d.one
    cases dv
    obtain ⟨n, h1, h2, h3⟩ := h
    exact .inr ⟨_, n, rfl, h1, h2, ret.now rel Din h3⟩
  · exact h.elim
/-- list(x), tuple(x) of a sequence -/
def gList : FC := fun S as k => match as with
  | [a] => Sv S a fun xs => k (.lst xs) S
  | _ => False
def gListM : FC := fun S as k => match as with
  | [a] => Sv S a fun xs => ∀ p, S p = none → k (.ref p) (su S p (.lst xs))
  | _ => False
abbrev rListOf (K : PySem.W.Frag) : List V → Hp → VK → Prop := fun xs H Q => ∃ p ys, xs = [.ref p] ∧ (SqL K H p ys ∨ SqT K H p ys) ∧ ∀ l, H l = none → Q (.ref l) (upd H l (.lst ys))
theorem simList : SimC K (rListOf K) gList := by
  intro xs as S H Q k rel d h ret
  unfold gList at h
  split at h
  · obtain ⟨v, rfl, dv⟩ := d.one
    obtain ⟨ys, vs, p, rfl, sq, g, h⟩ := h.out rel dv
    exact ⟨p, vs, rfl, sq, fun l hl => ret.newL rel g hl h⟩
  · exact h.elim
theorem simListM : SimC K (rListOf K) gListM := by
  intro xs as S H Q k rel d h ret
  unfold gListM at h
  split at h
  · obtain ⟨v, rfl, dv⟩ := d.one
    obtain ⟨ys, vs, p, rfl, sq, g, h⟩ := h.out rel dv
    exact ⟨p, vs, rfl, sq, fun l hl => ret.newM rel g hl (h l (rel.hp hl))⟩
  · exact h.elim
def gTuple : FC := fun S as k => match as with
  | [a] => Sv S a fun xs => k (.tup xs) S
  | _ => False
theorem simTuple : SimC K (fun xs H Q => ∃ p ys, xs = [.ref p] ∧ ((SqL K H p ys ∧ ∀ l, H l = none → Q (.ref l) (upd H l (.tup ys))) ∨ (SqT K H p ys ∧ Q (.ref p) H))) gTuple := by
  intro xs as S H Q k rel d h ret
  unfold gTuple at h
  split at h
  · obtain ⟨v, rfl, dv⟩ := d.one
    rename_i a
    match a, dv, h with
    | .tup ys, dv, h =>
      obtain ⟨p, vs, rfl, f, g⟩ := dv
      exact ⟨p, vs, rfl, .inr ⟨f.sq, ret.now rel (Dtp f g) h⟩⟩
    | .lst ys, dv, h =>
      obtain ⟨p, vs, rfl, f, g⟩ := dv
      exact ⟨p, vs, rfl, .inl ⟨f.sq, fun l hl => ret.newT rel g hl h⟩⟩
    | .rl ys, dv, h =>
      obtain ⟨p, vs, rfl, f, g⟩ := dv
      exact ⟨p, vs, rfl, .inl ⟨f.sq, fun l hl => ret.newT rel g hl h⟩⟩
    | .ref q, dv, h =>
      obtain ⟨ys, e, h⟩ := h
      obtain ⟨vs, e2, g⟩ := rel _ _ e
      exact ⟨q, vs, by rw [show v = V.ref q from dv], .inl ⟨.inl (.inl e2), fun l hl => ret.newT rel g hl h⟩⟩
  · exact h.elim
end
end DL

set_option Elab.async false
set_option linter.all false
set_option maxRecDepth 100000
set_option maxHeartbeats 4000000
/-! The data layer: the canonical readings, statements, loops, comprehensions, calls. -/
namespace DL
open PySem PySem.Spec PyProof.Rows L2

/-! ### canonical readings -/
section
variable (K : PySem.W.Frag) (W : WX)
def tE (d : XTE) : TE := fun σ H Q => ∃ ρ S Φ Ω, Rel K S H ∧ EnvR K S H σ ρ ∧ d ρ S Φ Ω ∧ Ret K S H Φ Q ∧ Exc K S H Ω (WE W σ)
def tT (d : XTT) : TT := fun σ H Q => ∃ ρ S Φ Ω, Rel K S H ∧ EnvR K S H σ ρ ∧ d ρ S Φ Ω ∧ RetT K S H Φ Q ∧ Exc K S H Ω (WE W σ)
def tS (d : XTS) : TS := fun E σ H => ∃ ρ S Δ Ω, Rel K S H ∧ EnvR K S H σ ρ ∧ d Δ Ω ρ S ∧ EndS K S H Δ E ∧ ExcS K S H Ω W
end
section
variable {X : Cx} {W : WX} {e : Expr} {d : XTE} {dt : XTT} {ds : XTS} {s : Stmt} {b : List Stmt}
theorem DE.can (h : DE X W e d) : PE X e (tE X.K W d) := by
  obtain ⟨t, h1, s1⟩ := h
  exact ⟨fun pins s σ H Q I ⟨ρ, S, Φ, Ω, r, en, hd, ret, exc⟩ => h1.run pins s σ H Q I (s1 σ H ρ S Q Φ Ω r en hd ret exc)⟩
theorem DTt.can (h : DTt X W e dt) : PT X e (tT X.K W dt) := by
  obtain ⟨t, h1, s1⟩ := h
  exact ⟨fun pins s σ H Q I ⟨ρ, S, Φ, Ω, r, en, hd, ret, exc⟩ => h1.run pins s σ H Q I (s1 σ H ρ S Q Φ Ω r en hd ret exc)⟩
theorem DSs.can (h : DSs X W b ds) : PSs X b (tS X.K W ds) := by
  obtain ⟨t, h1, s1⟩ := h
  exact ⟨fun pins s σ H D I ⟨ρ, S, Δ, Ω, r, en, hd, ret, exc⟩ => h1.run pins s σ H D I (s1 σ H ρ S D Δ Ω r en hd ret exc)⟩
end

/-! ### the context -/
structure Cxt (X : Cx) (W : WX) (k : Nat) : Prop where
  calm : X.calm = true
  nd : X.N.Nodup
  tk : Takes X W
  po : PassesOwn (model X.prog X.w) X.A X.env X.xe
  hr : Room k X.A
abbrev W0 : WX := fun _ _ _ _ => False
section
variable {X : Cx} {W : WX} {k : Nat}
theorem Cxt.hu (c : Cxt X W k) : X.A.units + 65 < cLine := by have := c.hr.un; omega
theorem Cxt.hu1 (c : Cxt X W k) : X.A.units + 1 < cLine := by have := c.hr.un; omega
theorem Cxt.hu0 (c : Cxt X W k) : X.A.units < cLine := by have := c.hr.un; omega
theorem Cxt.eq (c : Cxt X W k) : CmpR X .Eq (fEq false) := .eq c.hu
theorem Cxt.ne (c : Cxt X W k) : CmpR X .NotEq (fEq true) := .ne c.hu
theorem Cxt.blk (c : Cxt X W k) {s : Shared} {H : Hp} {scope : Scope} {cenv : Env} {fp : List Addr} : Cxt (X.blk s H scope cenv fp) W0 k :=
  ⟨c.calm, c.nd, fun _ _ x => by obtain ⟨_, _, _, _, _, _, _, _, _, _, _, _, _, _, _, _, z⟩ := x; exact z.elim, PassesOwn.never, c.hr⟩
theorem Cxt.tr (c : Cxt X W k) {W' : WX} {pn : List (Addr × Obj)} {xe : Value → Shared → Prop} (tk : Takes (X.tr pn xe) W') (po : PassesOwn (model X.prog X.w) X.A X.env xe) : Cxt (X.tr pn xe) W' k := ⟨c.calm, c.nd, tk, po, c.hr⟩
theorem Cxt.mono {j : Nat} (c : Cxt X W k) (h : j ≤ k) : Cxt X W j := ⟨c.calm, c.nd, c.tk, c.po, c.hr.mono h⟩
end

/-! ### statements -/
@[reducible] def xNext : XTS := fun Δ _ ρ S => Δ.nx ρ S
@[reducible] def xSeq (t u : XTS) : XTS := fun Δ Ω ρ S => t { Δ with nx := fun ρ' S' => u Δ Ω ρ' S' } Ω ρ S
@[reducible] def xBrk : XTS := fun Δ _ ρ S => Δ.bk ρ S
@[reducible] def xCnt : XTS := fun Δ _ ρ S => Δ.ct ρ S
@[reducible] def xDrop (da : XTE) : XTS := fun Δ Ω ρ S => da ρ S (fun _ S1 => Δ.nx ρ S1) fun c fs S1 => Ω c fs ρ S1
@[reducible] def xRet (da : XTE) : XTS := fun Δ Ω ρ S => da ρ S Δ.rt fun c fs S1 => Ω c fs ρ S1
@[reducible] def xRetN : XTS := fun Δ _ _ S => Δ.rt .non S
@[reducible] def xIfS (c : XTT) (t u : XTS) : XTS := fun Δ Ω ρ S => c ρ S (fun b S1 => if b = true then t Δ Ω ρ S1 else u Δ Ω ρ S1) fun c fs S1 => Ω c fs ρ S1
abbrev XTG := Dt → Ro → Store → (Ro → Store → Prop) → Prop
abbrev XTGs := List Dt → Ro → Store → (Ro → Store → Prop) → Prop
def SimG (K : PySem.W.Frag) (g : TG) (d : XTG) : Prop := ∀ v a σ H ρ S Q Φ, Rel K S H → EnvR K S H σ ρ → D K S H a v → d a ρ S Φ → NxS K S H Φ Q → g v σ H Q
def SimGs (K : PySem.W.Frag) (g : TGs) (d : XTGs) : Prop := ∀ vs as σ H ρ S Q Φ, Rel K S H → EnvR K S H σ ρ → DAll K S H as vs → d as ρ S Φ → NxS K S H Φ Q → g vs σ H Q
def DG (X : Cx) (e : Expr) (d : XTG) : Prop := ∃ g, PG X e g ∧ SimG X.K g d
def DGs (X : Cx) (es : List Expr) (d : XTGs) : Prop := ∃ g, PGs X es g ∧ SimGs X.K g d
@[reducible] def xgN (i : Nat) : XTG := fun a ρ S Φ => Φ (ρ.set i (some a)) S
@[reducible] def xgNil : XTGs := fun as ρ S Φ => match as with | [] => Φ ρ S | _ => False
@[reducible] def xgCons (g : XTG) (h : XTGs) : XTGs := fun as ρ S Φ => match as with | a :: r => g a ρ S fun ρ' S' => h r ρ' S' Φ | [] => False
@[reducible] def xgTup (n : Nat) (h : XTGs) : XTG := fun a ρ S Φ => Sv S a fun xs => xs.length = n ∧ h xs ρ S Φ
@[reducible] def xAsg (da : XTE) (g : XTG) : XTS := fun Δ Ω ρ S => da ρ S (fun a S1 => g a ρ S1 Δ.nx) fun c fs S1 => Ω c fs ρ S1
section
variable {X : Cx} {W : WX} {e c : Expr} {st : Stmt} {rest b₁ b₂ : List Stmt} {da : XTE} {dt : XTT} {d u : XTS} {pos : Pos} {K : PySem.W.Frag}
theorem dss_nil : DSs X W [] xNext := ⟨_, pss_nil, fun σ H ρ S E Δ Ω rel env h en exc => en.nx σ H ρ S rel Step.refl env h⟩
theorem simSeq {t t' : TS} (h1 : SimS K W t d) (h2 : SimS K W t' u) : SimS K W (tSeq t t') (xSeq d u) := by
  intro σ H ρ S E Δ Ω rel env h en exc
  refine h1 σ H ρ S _ _ Ω rel env h ⟨fun σ' H' ρ' S' rel' st' env' h' => ?_, en.rt, en.bk, en.ct⟩ exc
  exact h2 σ' H' ρ' S' E Δ Ω rel' env' h' (en.mono st') (exc.mono st')
theorem dss_cons (h : DS X W st d) (g : DSs X W rest u) : DSs X W (st :: rest) (xSeq d u) := let ⟨_, h1, s1⟩ := h; let ⟨_, h2, s2⟩ := g; ⟨_, pss_cons h1 h2, simSeq s1 s2⟩
theorem dss_one (h : DS X W st d) : DSs X W [st] d := let ⟨_, h1, s1⟩ := h; ⟨_, pss_one h1, s1⟩
theorem ds_pass : DS X W (.Pass pos) xNext := ⟨_, ps_pass, fun σ H ρ S E Δ Ω rel env h en exc => en.nx σ H ρ S rel Step.refl env h⟩
theorem ds_brk : DS X W (.Break pos) xBrk := ⟨_, ps_break, fun σ H ρ S E Δ Ω rel env h en exc => en.bk σ H ρ S rel Step.refl env h⟩
theorem ds_cnt : DS X W (.Continue pos) xCnt := ⟨_, ps_continue, fun σ H ρ S E Δ Ω rel env h en exc => en.ct σ H ρ S rel Step.refl env h⟩
theorem ds_expr (h : DE X W e da) (hs : swapsWith e none pos.line X.env = pure false := by rfl) : DS X W (.Expr e pos) (xDrop da) := by
  obtain ⟨t, h1, s1⟩ := h
  refine ⟨_, ps_expr h1 hs, fun σ H ρ S E Δ Ω rel env h en exc => ?_⟩
  exact s1 σ H ρ S _ _ _ rel env h (fun x H1 a S1 rel1 st1 _ h1 => en.nx σ H1 ρ S1 rel1 st1 (env.step st1) h1) (exc.at env)
theorem ds_ret (h : DE X W e da) : DS X W (.Return (some e) pos) (xRet da) := by
  obtain ⟨t, h1, s1⟩ := h
  exact ⟨_, ps_ret h1, fun σ H ρ S E Δ Ω rel env h en exc => s1 σ H ρ S _ _ _ rel env h en.rt (exc.at env)⟩
theorem ds_retN : DS X W (.Return none pos) xRetN := ⟨_, ps_retN, fun σ H ρ S E Δ Ω rel env h en exc => en.rt .non H .non S rel Step.refl rfl h⟩
theorem ds_if (hc : DTt X W c dt) (ha : DSs X W b₁ d) (hb : DSs X W b₂ u) : DS X W (.If c b₁ b₂ pos) (xIfS dt d u) := by
  obtain ⟨t, h1, s1⟩ := hc
  obtain ⟨t2, h2, s2⟩ := ha
  obtain ⟨t3, h3, s3⟩ := hb
  refine ⟨_, ps_if h1 h2 h3, fun σ H ρ S E Δ Ω rel env h en exc => ?_⟩
  refine s1 σ H ρ S _ _ _ rel env h (fun b H1 S1 rel1 st1 g => ?_) (exc.at env)
  cases b with
  | true => exact s2 σ H1 ρ S1 E Δ Ω rel1 (env.step st1) g (en.mono st1) (exc.mono st1)
  | false => exact s3 σ H1 ρ S1 E Δ Ω rel1 (env.step st1) g (en.mono st1) (exc.mono st1)
/-! targets -/
theorem simgN {i : Nat} : SimG K (gName i) (xgN i) := fun v a σ H ρ S Q Φ rel env d h nx => nx _ H _ S rel Step.refl (env.set i d) h
theorem dg_name {i : Nat} {x : Str} (hN : X.N.Nodup) (hi : X.N[i]? = some x := by rfl) (hx : Loc X.env.scope x := by first | exact Or.inl rfl | exact Or.inr rfl) (hf : X.fn x = true ∨ X.env.scope.names.lookup x = some .local := by first | exact .inl rfl | exact .inr rfl | assumption) : DG X (.Name x pos) (xgN i) :=
  ⟨_, pg_name hN hi hx hf, simgN⟩
theorem dgs_nil : DGs X [] xgNil := ⟨_, pgs_nil, fun vs as σ H ρ S Q Φ rel env d h nx => by
  unfold xgNil at h
  split at h
  · cases d; exact ⟨rfl, nx σ H ρ S rel Step.refl env h⟩
  · exact h.elim⟩
theorem dgs_cons {es : List Expr} {g : XTG} {r : XTGs} (h1 : DG X e g) (h2 : DGs X es r) (hs : (assignEach (e :: es) X.env).map (·.2) = assign e X.env :: (assignEach es X.env).map (·.2) := by rfl) : DGs X (e :: es) (xgCons g r) := by
  obtain ⟨t, p1, s1⟩ := h1
  obtain ⟨t2, p2, s2⟩ := h2
  refine ⟨_, pgs_cons p1 p2 hs, fun vs as σ H ρ S Q Φ rel env d h nx => ?_⟩
  unfold xgCons at h
  split at h
  · obtain ⟨v, w, rfl, dv, dw⟩ := d
    refine ⟨v, w, rfl, s1 v _ σ H ρ S _ _ rel env dv h fun σ' H' ρ' S' rel' st' env' h' => ?_⟩
    exact s2 w _ σ' H' ρ' S' _ _ rel' env' (DAll.step st' _ dw) h' (nx.mono st')
  · exact h.elim
/-- a tuple or a list unpacked -/
theorem dg_tup {es : List Expr} {k : Nat} {r : XTGs} {n : Nat} (hc : X.calm = true) (h : DGs X es r) (hn : (assignEach es X.env).length = n := by rfl) (hst : (assignEach es X.env).findIdx? (·.1) = none := by rfl) : DG X (.Tuple es k pos) (xgTup n r) := by
  obtain ⟨t, p1, s1⟩ := h
  have q1 := pg_tup (k := k) (pos := pos) hc p1 hn hst
  have q2 := pg_lst (k := k) (pos := pos) hc p1 hn hst
  refine ⟨fun v σ H Q => gTup X.K n t v σ H Q ∨ gLst X.K n t v σ H Q, ⟨fun pins s σ H v u Q I rv hw => ?_⟩, fun v a σ H ρ S Q Φ rel env d h nx => ?_⟩
  · rcases hw with hw | hw
    · exact q1.run pins s σ H v u Q I rv hw
    · exact q2.run pins s σ H v u Q I rv hw
  · obtain ⟨xs, vs, p, rfl, sq, g, hl, h⟩ := h.out rel d
    have z := s1 vs xs σ H ρ S Q Φ rel env g h nx
    have hl' : vs.length = n := by rw [← g.length]; exact hl
    rcases sq with sq | sq
    · exact .inr ⟨p, vs, rfl, sq, hl', z⟩
    · exact .inl ⟨p, vs, rfl, sq, hl', z⟩
theorem simAsg {t : TE} {g : TG} {dg : XTG} (h : SimE K W t da) (hg : SimG K g dg) : SimS K W (tAsg t g) (xAsg da dg) := by
  intro σ H ρ S E Δ Ω rel env h' en exc
  refine h σ H ρ S _ _ _ rel env h' (fun x H1 a S1 rel1 st1 d1 h1 => ?_) (exc.at env)
  exact hg x a σ H1 ρ S1 _ _ rel1 (env.step st1) d1 h1 (en.nx.mono st1)
theorem ds_asg {tg : Expr} {dg : XTG} (h : DE X W e da) (g : DG X tg dg) (hs : swapsWithSole [tg] e pos.line X.env = pure false := by rfl) (hw : swappedStores [tg] e X.env = pure none := by rfl)
    (h1 : (assignEach [tg] X.env).map (·.2) = [assign tg X.env] := by rfl) : DS X W (.Assign [tg] e pos) (xAsg da dg) := let ⟨_, a1, s1⟩ := h; let ⟨_, a2, s2⟩ := g; ⟨_, ps_asg a1 a2 hs hw h1, simAsg s1 s2⟩
theorem ds_set (i : Nat) {x : Str} {pos' : Pos} (hN : X.N.Nodup) (h : DE X W e da) (hi : X.N[i]? = some x := by rfl) (hx : Loc X.env.scope x := by first | exact Or.inl rfl | exact Or.inr rfl) (hs : swapsWith e (some (.Name x pos')) pos.line X.env = pure false := by rfl)
    (hf : X.fn x = true ∨ X.env.scope.names.lookup x = some .local := by first | exact .inl rfl | exact .inr rfl | assumption) : DS X W (.Assign [.Name x pos'] e pos) (xAsg da (xgN i)) := let ⟨_, a1, s1⟩ := h; ⟨_, ps_set hN hi hx a1 hs hf, simAsg s1 simgN⟩
/-- name op= e -/
@[reducible] def xAug (i : Nat) (f : F2) (da : XTE) : XTS := fun Δ Ω ρ S => match ρ[i]? with
  | some (some x) => da ρ S (fun a S1 => f S1 x a fun z S2 => Δ.nx (ρ.set i (some z)) S2) fun c fs S1 => Ω c fs ρ S1
  | _ => False
theorem ds_augI {i : Nat} {x : Str} {op : Operator} {f : Int → Int → Int} {pos' : Pos} (ho : PIp X op (ipI f)) (hN : X.N.Nodup) (h : DE X W e da) (hi : X.N[i]? = some x := by rfl) (hx : Loc X.env.scope x := by first | exact Or.inl rfl | exact Or.inr rfl)
    (hf : X.fn x = true ∨ X.env.scope.names.lookup x = some .local := by first | exact .inl rfl | exact .inr rfl | assumption) : DS X W (.AugAssign (.Name x pos') op e pos) (xAug i (fun S a b k => match a, b with | .int i, .int j => k (.int (f i j)) S | _, _ => False) da) := by
  obtain ⟨t, a1, s1⟩ := h
  refine ⟨_, ps_aug hN hi hx a1 ho hf, fun σ H ρ S E Δ Ω rel env h en exc => ?_⟩
  unfold xAug at h
  split at h
  · rename_i d e
    obtain ⟨v, e1, dv⟩ := env.2 i d e
    refine ⟨v, e1, ?_⟩
    refine s1 σ H ρ S _ _ _ rel env h (fun y H1 a S1 rel1 st1 d1 h1 => ?_) (exc.at env)
    have dv1 := D.step st1 _ dv
    dsimp only at h1
    split at h1
    · cases dv1; cases d1
      exact ⟨_, _, rfl, rfl, en.nx _ H1 _ S1 rel1 st1 ((env.step st1).set i Din) h1⟩
    · exact h1.elim
  · exact h.elim
/-- o[i] = e, o a list of the store -/
@[reducible] def xSetL (do_ di de : XTE) : XTS := fun Δ Ω ρ S => de ρ S (fun a S1 => do_ ρ S1 (fun o S2 => di ρ S2 (fun i S3 => match o, i with
  | .ref p, .int i => ∃ xs j, S3 p = some (.lst xs) ∧ ixN xs.length i = some j ∧ Δ.nx ρ (su S3 p (.lst (xs.set j a)))
  | _, _ => False) fun c fs S1 => Ω c fs ρ S1) fun c fs S1 => Ω c fs ρ S1) fun c fs S1 => Ω c fs ρ S1
theorem ds_setL {o i : Expr} {do_ di : XTE} {tpos : Pos} (ho : DE X W o do_) (hi : DE X W i di) (h : DE X W e da) (hs : swapsWithSole [.Subscript o i tpos] e pos.line X.env = pure false := by rfl) (hw : swappedStores [.Subscript o i tpos] e X.env = pure none := by rfl)
    (h1 : (assignEach [.Subscript o i tpos] X.env).map (·.2) = [assign (.Subscript o i tpos) X.env] := by rfl)
    (ha : ∀ v, assign (.Subscript o i tpos) X.env v = (do
      let ov ← holding [v] (eval o X.env)
      let iv ← holding [v, ov] (eval i X.env)
      standAt tpos
      holding [v, ov, iv] (setItem ov iv v)
      release [v, ov, iv] []) := by intro _; rfl) : DS X W (.Assign [.Subscript o i tpos] e pos) (xSetL do_ di da) := by
  obtain ⟨t, p1, s1⟩ := h
  obtain ⟨t2, p2, s2⟩ := ho
  obtain ⟨t3, p3, s3⟩ := hi
  refine ⟨_, ps_asg p1 (pg_sub p2 p3 set_list ha) hs hw h1, fun σ H ρ S E Δ Ω rel env h en exc => ?_⟩
  refine s1 σ H ρ S _ _ _ rel env h (fun x H1 a S1 rel1 st1 d1 g1 => ?_) (exc.at env)
  refine s2 σ H1 ρ S1 _ _ _ rel1 (env.step st1) g1 (fun y H2 o' S2 rel2 st2 d2 g2 => ?_) ((exc.at env).mono st1)
  have st12 := st1.trans st2
  refine s3 σ H2 ρ S2 _ _ _ rel2 (env.step st12) g2 (fun z H3 i' S3 rel3 st3 d3 g3 => ?_) ((exc.at env).mono st12)
  have st := st12.trans st3
  have d1' := D.step (st2.trans st3) _ d1
  have d2' := D.step st3 _ d2
  split at g3
  · rename_i p iv
    obtain ⟨xs, j, e1, e2, g3⟩ := g3
    obtain ⟨vs, e3, g⟩ := rel3 p _ e1
    cases d2'; cases d3
    have ne : S3 p ≠ none := by rw [e1]; intro z; cases z
    have st4 : Step S3 H3 (su S3 p (.lst (xs.set j a))) (upd H3 p (.lst (vs.set j x))) := Step.put (.inl ne)
    refine ⟨p, vs, iv, j, rfl, rfl, e3, by rw [← g.length]; exact e2, ?_⟩
    exact en.nx σ _ ρ _ (rel3.put (m := .lst (xs.set j a)) (.inl ne) ⟨_, upd_same, DAll.step st4 _ (DAll.set d1' j g)⟩) (st.trans st4) (env.step (st.trans st4)) g3
  · exact g3.elim
end

/-! ### what is walked -/
/-- J walks the data its, while stay holds of the store -/
def ItD (K : PySem.W.Frag) (S₁ : Store) (H₁ : Hp) (J : It) (its : List Dt) (stay : Store → Prop) : Prop := ∀ S H (i : Nat), Rel K S H → Step S₁ H₁ S H → stay S →
  (its.length ≤ i → J.stop i H) ∧ ∀ d, its[i]? = some d → J.go i H ∧ ∀ x H', J.yld i H x H' → Rel K S H' ∧ Step S H S H' ∧ D K S H' d x
abbrev XTI := Ro → Store → (List Dt → (Store → Prop) → Store → Prop) → XK1 → Prop
def SimI (K : PySem.W.Frag) (W : WX) (wi : TI) (d : XTI) : Prop := ∀ σ H ρ S R Φ Ω, Rel K S H → EnvR K S H σ ρ → d ρ S Φ Ω →
  (∀ J H' S' its stay, Rel K S' H' → Step S H S' H' → ItD K S' H' J its stay → Φ its stay S' → R J H') → Exc K S H Ω (WE W σ) → wi σ H R
def DI (X : Cx) (W : WX) (tg e : Expr) (d : XTI) : Prop := ∃ t, PI X tg e t ∧ SimI X.K W t d
@[reducible] def xiSeq (da : XTE) : XTI := fun ρ S Φ Ω => da ρ S (fun a S1 => match a with
  | .lst xs => Φ xs (fun _ => True) S1
  | .tup xs => Φ xs (fun _ => True) S1
  | .rl xs => Φ xs (fun _ => True) S1
  | .ref p => ∃ xs, S1 p = some (.lst xs) ∧ Φ xs (fun S => S p = some (.lst xs)) S1
  | _ => False) Ω
def rngD (lo : Int) (n : Nat) : List Dt := (List.range n).map fun (i : Nat) => Dt.int (lo + (i : Int))
@[reducible] def xiRange1 (dr : XTA) : XTI := fun ρ S Φ Ω => dr ρ S (fun as S1 => match as with
  | [.int j] => (-(2 ^ 62) ≤ j ∧ j < 2 ^ 62) ∧ Φ (rngD 0 j.toNat) (fun _ => True) S1
  | _ => False) Ω
@[reducible] def xiRange2 (dr : XTA) : XTI := fun ρ S Φ Ω => dr ρ S (fun as S1 => match as with
  | [.int i, .int j] => (-(2 ^ 62) ≤ i ∧ i < 2 ^ 62 ∧ -(2 ^ 62) ≤ j ∧ j < 2 ^ 62) ∧ Φ (rngD i (j - i).toNat) (fun _ => True) S1
  | _ => False) Ω
section
variable {X : Cx} {W : WX} {tg e : Expr} {da : XTE} {dr : XTA} {K : PySem.W.Frag}
theorem itd_list {S₁ : Store} {H₁ : Hp} {a : Addr} {xs : List Dt} {stay : Store → Prop} (h : ∀ S H, Rel K S H → Step S₁ H₁ S H → stay S → ∃ vs, SqL K H a vs ∧ DAll K S H xs vs) : ItD K S₁ H₁ (Itl K a) xs stay := by
  intro S H i rel st sy
  obtain ⟨vs, sq, g⟩ := h S H rel st sy
  refine ⟨fun hi => ⟨vs, sq, by rw [← g.length]; exact hi⟩, fun d hd => ?_⟩
  obtain ⟨v, hv, dv⟩ := g.get hd
  refine ⟨⟨vs, v, sq, hv⟩, fun x H' y => ?_⟩
  obtain ⟨e1, e2⟩ := y
  subst e1
  have e3 := e2 vs sq
  rw [hv] at e3
  cases e3
  exact ⟨rel, Step.refl, dv⟩
theorem itd_tup {S₁ : Store} {H₁ : Hp} {a : Addr} {xs : List Dt} {stay : Store → Prop} (h : ∀ S H, Rel K S H → Step S₁ H₁ S H → stay S → ∃ vs, SqT K H a vs ∧ DAll K S H xs vs) : ItD K S₁ H₁ (Itt K a) xs stay := by
  intro S H i rel st sy
  obtain ⟨vs, sq, g⟩ := h S H rel st sy
  refine ⟨fun hi => ⟨vs, sq, by rw [← g.length]; exact hi⟩, fun d hd => ?_⟩
  obtain ⟨v, hv, dv⟩ := g.get hd
  refine ⟨⟨vs, v, sq, hv⟩, fun x H' y => ?_⟩
  obtain ⟨e1, e2⟩ := y
  subst e1
  have e3 := e2 vs sq
  rw [hv] at e3
  cases e3
  exact ⟨rel, Step.refl, dv⟩
theorem itd_range {S₁ : Store} {H₁ : Hp} {lo : Int} {n : Nat} {stay : Store → Prop} : ItD K S₁ H₁ (Itr lo n) (rngD lo n) stay := by
  intro S H i rel st sy
  have hl : (rngD lo n).length = n := by unfold rngD; rw [List.length_map, List.length_range]
  refine ⟨fun hi => by rw [hl] at hi; exact hi, fun d hd => ?_⟩
  have hi : i < n := by
    have := (List.getElem?_eq_some_iff.mp hd).1
    rw [hl] at this
    exact this
  have e : d = .int (lo + (i : Int)) := by
    unfold rngD at hd
    rw [List.getElem?_map, List.getElem?_range hi] at hd
    exact (Option.some.inj hd).symm
  subst e
  refine ⟨hi, fun x H' y => ?_⟩
  obtain ⟨e1, e2⟩ := y
  subst e1 e2
  exact ⟨rel, Step.refl, Din⟩

def iAny (K : PySem.W.Frag) (tl : TE) : TI := fun σ H R => tl σ H fun x H1 => (∃ a, x = .ref a ∧ (∃ xs, SqL K H1 a xs) ∧ R (Itl K a) H1) ∨ (∃ a, x = .ref a ∧ (∃ xs, SqT K H1 a xs) ∧ R (Itt K a) H1) ∨ (∃ y, x = .str y ∧ R (Its y) H1)
theorem pi_any {l : Expr} {tl : TE} (hl : PE X l tl) : PI X tg l (iAny X.K tl) := by
  refine ⟨fun pins s σ H R I h => ?_⟩
  refine thn (hl.run pins s σ H _ I h) fun v s1 ⟨x, H1, I1, r1, q1⟩ => ?_
  rcases q1 with ⟨a, e, ⟨xs, hq⟩, q⟩ | ⟨a, e, ⟨xs, hq⟩, q⟩ | ⟨y, e, q⟩
  · subst e
    cases r1
    obtain ⟨its, rv, p, hz⟩ := I1.list hq
    refine wpAny_pyIter_list p.isList ?_
    refine ⟨s1.heap.objs.size, [s1.heap.objs.size], _, _, H1, rfl, I1.kept (t' := s1.toks) fun b o e => Heap.get?_push_of_some _ e, turn_list a _, ⟨_, Heap.get?_push_size _ rfl, rfl, rfl⟩, fun b hb => ?_, q⟩
    have e : b = s1.heap.objs.size := by simpa using hb
    subst e
    exact I1.fpOk (Nat.le_refl _) (I1.hok.fresh (Nat.le_refl _))
  · subst e
    cases r1
    obtain ⟨its, rv, p, hz⟩ := I1.tuple hq
    refine wpAny_pyIter_tuple (show s1.heap.IsTuple a its.toArray from p) ?_
    refine ⟨s1.heap.objs.size, [s1.heap.objs.size], _, _, H1, rfl, I1.kept (t' := s1.toks) fun b o e => Heap.get?_push_of_some _ e, turn_tuple a _, ⟨_, Heap.get?_push_size _ rfl, rfl, rfl⟩, fun b hb => ?_, q⟩
    have e : b = s1.heap.objs.size := by simpa using hb
    subst e
    exact I1.fpOk (Nat.le_refl _) (I1.hok.fresh (Nat.le_refl _))
  · subst e
    obtain ⟨t, rfl⟩ := r1
    cases ha : y.cps.all (· < 128)
    · exact wpAny_pyIter_wide ha (pi_one (tk := s1.toks) I1 _ (turn_str _ y t "str_iterator" (.inr rfl)) ⟨_, Heap.get?_push_size _ rfl, rfl, rfl⟩ q)
    · exact wpAny_pyIter_ascii ha (pi_one (tk := s1.toks) I1 _ (turn_str _ y t "str_ascii_iterator" (.inl rfl)) ⟨_, Heap.get?_push_size _ rfl, rfl, rfl⟩ q)
/-- the signs of a text -/
def signs (x : Str) : List Dt := x.cps.toList.map fun c => .str ⟨#[c]⟩
theorem itd_str {S₁ : Store} {H₁ : Hp} {x : Str} {stay : Store → Prop} : ItD K S₁ H₁ (Its x) (signs x) stay := by
  intro S H i rel st sy
  have hl : (signs x).length = x.cps.size := by unfold signs; rw [List.length_map, Array.length_toList]
  refine ⟨fun hi => by rw [hl] at hi; exact hi, fun d hd => ?_⟩
  have hi : i < x.cps.size := by
    have := (List.getElem?_eq_some_iff.mp hd).1
    rw [hl] at this
    exact this
  refine ⟨hi, fun v H' y => ?_⟩
  obtain ⟨e1, c, e2, e3⟩ := y
  subst e1 e3
  unfold signs at hd
  rw [List.getElem?_map, Array.getElem?_toList, e2] at hd
  cases hd
  exact ⟨rel, Step.refl, Dst⟩
theorem simiAny {t : TE} (h : SimE K W t da) : SimI K W (iAny K t) (fun ρ S Φ Ω => da ρ S (fun a S1 => match a with
  | .lst xs => Φ xs (fun _ => True) S1
  | .tup xs => Φ xs (fun _ => True) S1
  | .rl xs => Φ xs (fun _ => True) S1
  | .ref p => ∃ xs, S1 p = some (.lst xs) ∧ Φ xs (fun S => S p = some (.lst xs)) S1
  | .str y => Φ (signs y) (fun _ => True) S1
  | _ => False) Ω) := by
  intro σ H ρ S R Φ Ω rel env hd nx exc
  refine h σ H ρ S _ _ Ω rel env hd (fun x H1 a S1 rel1 st1 d1 g1 => ?_) exc
  split at g1
  · obtain ⟨p, vs, rfl, f, g⟩ := d1
    exact .inl ⟨p, rfl, ⟨vs, f.sq⟩, nx _ H1 S1 _ _ rel1 st1 (itd_list fun S H _ st _ => ⟨vs, (f.step st).sq, DAll.step st _ g⟩) g1⟩
  · obtain ⟨p, vs, rfl, f, g⟩ := d1
    exact .inr (.inl ⟨p, rfl, ⟨vs, f.sq⟩, nx _ H1 S1 _ _ rel1 st1 (itd_tup fun S H _ st _ => ⟨vs, (f.step st).sq, DAll.step st _ g⟩) g1⟩)
  · obtain ⟨p, vs, rfl, f, g⟩ := d1
    exact .inl ⟨p, rfl, ⟨vs, f.sq⟩, nx _ H1 S1 _ _ rel1 st1 (itd_list fun S H _ st _ => ⟨vs, (f.step st).sq, DAll.step st _ g⟩) g1⟩
  · obtain ⟨xs, e, g1⟩ := g1
    cases d1
    obtain ⟨vs, e2, g⟩ := rel1 _ _ e
    refine .inl ⟨_, rfl, ⟨vs, .inl (.inl e2)⟩, nx _ H1 S1 _ _ rel1 st1 (itd_list fun S H rel st sy => ?_) g1⟩
    obtain ⟨ws, e3, g'⟩ := rel _ _ sy
    exact ⟨ws, .inl (.inl e3), g'⟩
  · cases d1
    exact .inr (.inr ⟨_, rfl, nx _ H1 S1 _ _ rel1 st1 itd_str g1⟩)
  · exact g1.elim
@[reducible] def xiAny (da : XTE) : XTI := fun ρ S Φ Ω => da ρ S (fun a S1 => match a with
  | .lst xs => Φ xs (fun _ => True) S1
  | .tup xs => Φ xs (fun _ => True) S1
  | .rl xs => Φ xs (fun _ => True) S1
  | .ref p => ∃ xs, S1 p = some (.lst xs) ∧ Φ xs (fun S => S p = some (.lst xs)) S1
  | .str y => Φ (signs y) (fun _ => True) S1
  | _ => False) Ω
theorem di_any (h : DE X W e da) : DI X W tg e (xiAny da) := let ⟨_, p1, s1⟩ := h; ⟨_, pi_any p1, simiAny s1⟩
theorem di_range1 {a : Expr} {p pos : Pos} (hm : X.mg "range" = none) (h : DA X W [a] dr) (hg : Gl X "range" := by rfl) (hs : starEach [a] X.env = [(false, eval a X.env)] := by rfl) : DI X W tg (.Call (.Name "range" p) [a] [] pos) (xiRange1 dr) := by
  obtain ⟨t, p1, s1⟩ := h
  refine ⟨_, pi_range1 hg hm p1 hs, fun σ H ρ S R Φ Ω rel env hd nx exc => ?_⟩
  refine s1 σ H ρ S _ _ Ω rel env hd (fun xs H1 as S1 rel1 st1 d1 g1 => ?_) exc
  split at g1
  · obtain ⟨v, rfl, dv⟩ := d1.one
    cases dv
    refine ⟨_, rfl, g1.1.1, g1.1.2, nx _ H1 S1 _ _ rel1 st1 itd_range g1.2⟩
  · exact g1.elim
theorem di_range2 {a b : Expr} {p pos : Pos} (hm : X.mg "range" = none) (h : DA X W [a, b] dr) (hg : Gl X "range" := by rfl) (hs : starEach [a, b] X.env = [(false, eval a X.env), (false, eval b X.env)] := by rfl) (hs2 : starEach [b] X.env = [(false, eval b X.env)] := by rfl) : DI X W tg (.Call (.Name "range" p) [a, b] [] pos) (xiRange2 dr) := by
  obtain ⟨t, p1, s1⟩ := h
  refine ⟨_, pi_range2 hg hm p1 hs hs2, fun σ H ρ S R Φ Ω rel env hd nx exc => ?_⟩
  refine s1 σ H ρ S _ _ Ω rel env hd (fun xs H1 as S1 rel1 st1 d1 g1 => ?_) exc
  split at g1
  · obtain ⟨v, w, rfl, d1, d2⟩ := d1.two
    cases d1; cases d2
    refine ⟨_, _, rfl, g1.1, nx _ H1 S1 _ _ rel1 st1 itd_range g1.2⟩
  · exact g1.elim
end

/-! ### loops -/
@[reducible] def xFor (di : XTI) (g : XTG) (tb : XTS) : XTS := fun Δ Ω ρ S => di ρ S (fun its stay S1 => ∃ I : Nat → Ro → Store → Prop, I 0 ρ S1 ∧
  (∀ i ρ' S', I i ρ' S' → stay S') ∧
  (∀ i d ρ' S', its[i]? = some d → I i ρ' S' → g d ρ' S' fun ρ2 S2 => tb { Δ with nx := I (i + 1), ct := I (i + 1), bk := Δ.nx } Ω ρ2 S2) ∧
  (∀ ρ' S', I its.length ρ' S' → Δ.nx ρ' S')) fun c fs S1 => Ω c fs ρ S1
@[reducible] def xWhile (c : XTT) (tb : XTS) : XTS := fun Δ Ω ρ S => ∃ I : Nat → Ro → Store → Prop, (∃ m, I m ρ S) ∧ ∀ m ρ' S', I m ρ' S' →
  c ρ' S' (fun b S1 => if b = true then tb { Δ with nx := fun ρ2 S2 => ∃ m', m' < m ∧ I m' ρ2 S2, ct := fun ρ2 S2 => ∃ m', m' < m ∧ I m' ρ2 S2, bk := Δ.nx } Ω ρ' S1 else Δ.nx ρ' S1) fun c fs S1 => Ω c fs ρ' S1
section
variable {X : Cx} {W : WX} {tg e c : Expr} {body : List Stmt} {di : XTI} {dg : XTG} {db : XTS} {dt : XTT} {pos : Pos} {K : PySem.W.Frag}
theorem simFor {wi : TI} {g : TG} {tb : TS} (h : SimI K W wi di) (hg : SimG K g dg) (hb : SimS K W tb db) : SimS K W (tFor wi g tb) (xFor di dg db) := by
  intro σ H ρ S E Δ Ω rel env h' en exc
  refine h σ H ρ S _ _ _ rel env h' (fun J H1 S1 its stay rel1 st1 it g1 => ?_) (exc.at env)
  obtain ⟨I, i0, is_, turn, done⟩ := g1
  refine ⟨fun i m σ' H' => m = its.length - i ∧ i ≤ its.length ∧ ∃ ρ' S', Rel K S' H' ∧ Step S1 H1 S' H' ∧ EnvR K S' H' σ' ρ' ∧ I i ρ' S', ⟨its.length, by simp, Nat.zero_le _, ρ, S1, rel1, Step.refl, env.step st1, i0⟩, ?_⟩
  rintro i m σ' H' ⟨rfl, hi, ρ', S', rel', st', env', hI⟩
  obtain ⟨a1, a2⟩ := it S' H' i rel' st' (is_ i ρ' S' hI)
  by_cases hlt : i < its.length
  · refine .inr ?_
    have hd : its[i]? = some its[i] := List.getElem?_eq_getElem hlt
    obtain ⟨go, b2⟩ := a2 _ hd
    refine ⟨go, fun σ2 H2 => ∃ ρ2 S2, Rel K S2 H2 ∧ Step S1 H1 S2 H2 ∧ EnvR K S2 H2 σ2 ρ2 ∧ I (i + 1) ρ2 S2, fun σ2 H2 ⟨ρ2, S2, r2, s2, e2, h2⟩ => ⟨its.length - (i + 1), by omega, rfl, hlt, ρ2, S2, r2, s2, e2, h2⟩, fun x H'' y => ?_⟩
    obtain ⟨r3, s3, d3⟩ := b2 x H'' y
    refine hg x _ σ' H'' ρ' S' _ _ r3 (env'.step s3) d3 (turn i _ ρ' S' hd hI) fun σ4 H4 ρ4 S4 r4 s4 e4 h4 => ?_
    have st4 := (st'.trans s3).trans s4
    refine hb σ4 H4 ρ4 S4 _ _ Ω r4 e4 h4 ⟨fun σ5 H5 ρ5 S5 r5 s5 e5 h5 => ⟨ρ5, S5, r5, st4.trans s5, e5, h5⟩, en.rt.mono (st1.trans st4), fun σ5 H5 ρ5 S5 r5 s5 e5 h5 => en.nx σ5 H5 ρ5 S5 r5 ((st1.trans st4).trans s5) e5 h5,
      fun σ5 H5 ρ5 S5 r5 s5 e5 h5 => ⟨ρ5, S5, r5, st4.trans s5, e5, h5⟩⟩ (exc.mono (st1.trans st4))
  · have e : i = its.length := by omega
    subst e
    exact .inl ⟨a1 (Nat.le_refl _), en.nx σ' H' ρ' S' rel' (st1.trans st') env' (done ρ' S' hI)⟩
theorem ds_for {k : Nat} (c : Cxt X W k) (h : DI X W tg e di) (g : DG X tg dg) (hb : DSs X W body db) (hs : ∀ x, foldedSetIterable e X.env x = pure x := by intro _; rfl) : DS X W (.For tg e body [] pos) (xFor di dg db) :=
  let ⟨_, h1, s1⟩ := h; let ⟨_, h2, s2⟩ := g; let ⟨_, h3, s3⟩ := hb; ⟨_, ps_for c.po c.calm h1 h2 h3 hs, simFor s1 s2 s3⟩
theorem simWhile {t : TT} {tb : TS} (h : SimT K W t dt) (hb : SimS K W tb db) : SimS K W (tWhile t tb) (xWhile dt db) := by
  intro σ H ρ S E Δ Ω rel env h' en exc
  obtain ⟨I, ⟨m0, i0⟩, turn⟩ := h'
  refine ⟨fun m σ' H' => ∃ ρ' S', Rel K S' H' ∧ Step S H S' H' ∧ EnvR K S' H' σ' ρ' ∧ I m ρ' S', ⟨m0, ρ, S, rel, Step.refl, env, i0⟩, ?_⟩
  rintro m σ' H' ⟨ρ', S', rel', st', env', hI⟩
  refine h σ' H' ρ' S' _ _ _ rel' env' (turn m ρ' S' hI) (fun b H1 S1 rel1 st1 g => ?_) ((exc.mono st').at env')
  have st1' := st'.trans st1
  cases b with
  | true =>
    rw [if_pos rfl] at g ⊢
    refine ⟨fun σ2 H2 => ∃ m', m' < m ∧ ∃ ρ2 S2, Rel K S2 H2 ∧ Step S H S2 H2 ∧ EnvR K S2 H2 σ2 ρ2 ∧ I m' ρ2 S2, fun σ2 H2 z => z, ?_⟩
    have nx : NxS K S1 H1 (fun ρ2 S2 => ∃ m', m' < m ∧ I m' ρ2 S2) (fun σ2 H2 => ∃ m', m' < m ∧ ∃ ρ2 S2, Rel K S2 H2 ∧ Step S H S2 H2 ∧ EnvR K S2 H2 σ2 ρ2 ∧ I m' ρ2 S2) :=
      fun σ5 H5 ρ5 S5 r5 s5 e5 ⟨m', l, h5⟩ => ⟨m', l, ρ5, S5, r5, st1'.trans s5, e5, h5⟩
    exact hb σ' H1 ρ' S1 _ _ Ω rel1 (env'.step st1) g ⟨nx, en.rt.mono st1', en.nx.mono st1', nx⟩ (exc.mono st1')
  | false =>
    rw [if_neg Bool.false_ne_true] at g ⊢
    exact en.nx σ' H1 ρ' S1 rel1 st1' (env'.step st1) g
theorem ds_while {k : Nat} (cx : Cxt X W k) (h : DTt X W c dt) (hb : DSs X W body db) : DS X W (.While c body [] pos) (xWhile dt db) :=
  let ⟨_, h1, s1⟩ := h; let ⟨_, h3, s3⟩ := hb; ⟨_, ps_while cx.po h1 h3, simWhile s1 s3⟩
end

/-! ### comprehensions -/
/-- the new list stands at p in the store; at the end it is data (xLc) or stays (xLcM) -/
@[reducible] def xLcG (fin : Addr → List Dt → Store → OK1 → Prop) (di : XTI) (g : XTG) (tt : XTT) (te : XTE) (vs : List Nat) : XTE := fun ρ S Φ Ω => di ρ S (fun its stay S1 => ∀ p, S1 p = none → ∃ I : Nat → List Dt → Store → Prop, I 0 [] (su S1 p (.lst [])) ∧
  (∀ i acc S', I i acc S' → stay S' ∧ S' p = some (.lst acc)) ∧
  (∀ i d acc S', its[i]? = some d → I i acc S' → acc.length < sizeLine ∧ g d (wipeR ρ vs) S' fun ρ2 S2 => tt ρ2 S2 (fun b S3 =>
    if b = true then te ρ2 S3 (fun y S4 => S4 p = some (.lst acc) ∧ I (i + 1) (acc ++ [y]) (su S4 p (.lst (acc ++ [y])))) (fun _ _ _ => False)
    else I (i + 1) acc S3) (fun _ _ _ => False)) ∧
  (∀ acc S', I its.length acc S' → fin p acc S' Φ)) Ω
@[reducible] def xLc : XTI → XTG → XTT → XTE → List Nat → XTE := xLcG fun p acc S Φ => Φ (.lst acc) (sdel S p)
@[reducible] def xLcM : XTI → XTG → XTT → XTE → List Nat → XTE := xLcG fun p acc S Φ => Φ (.ref p) S
/-- a target that sets slots out of vs alone -/
def TgOk (g : TG) (vs : List Nat) : Prop := ∀ v σ H Q, g v σ H Q → g v σ H fun σ' H' => wipe σ' vs = wipe σ vs ∧ Q σ' H'
def TgsOk (g : TGs) (vs : List Nat) : Prop := ∀ v σ H Q, g v σ H Q → g v σ H fun σ' H' => wipe σ' vs = wipe σ vs ∧ Q σ' H'
section
variable {X : Cx} {W : WX} {tg iter elt : Expr} {ifs : List Expr} {di : XTI} {dg : XTG} {dt : XTT} {de : XTE} {pos : Pos} {K : PySem.W.Frag} {scope : Scope} {own : List (Str × Nat)}
theorem wipe_get (σ : St) : ∀ (vs : List Nat) (j : Nat), (wipe σ vs)[j]? = if j ∈ vs ∧ j < σ.length then some none else σ[j]?
  | [], j => by simp [wipe]
  | v :: vs, j => by
    have ih := wipe_get σ vs j
    unfold wipe
    by_cases e : v = j
    · subst e
      by_cases l : v < σ.length
      · rw [List.getElem?_set_self (by rw [wipe_length]; exact l), if_pos ⟨by simp, l⟩]
      · rw [List.getElem?_eq_none (by rw [List.length_set, wipe_length]; omega), if_neg (by omega), List.getElem?_eq_none (by omega)]
    · rw [List.getElem?_set_ne e, ih]
      have m : j ∈ v :: vs ↔ j ∈ vs := by
        rw [List.mem_cons]
        exact ⟨fun h => h.resolve_left (fun q => e q.symm), .inr⟩
      by_cases q : j ∈ vs ∧ j < σ.length
      · rw [if_pos q, if_pos ⟨m.mpr q.1, q.2⟩]
      · rw [if_neg q, if_neg fun z => q ⟨m.mp z.1, z.2⟩]
theorem wipe_set {σ : St} {vs : List Nat} {i : Nat} {x : Option V} (h : i ∈ vs) : wipe (σ.set i x) vs = wipe σ vs := by
  apply List.ext_getElem?
  intro j
  rw [wipe_get, wipe_get, List.length_set]
  by_cases e : j ∈ vs ∧ j < σ.length
  · rw [if_pos e, if_pos e]
  · rw [if_neg e, if_neg e]
    by_cases q : i = j
    · subst q
      have l : ¬ i < σ.length := fun l => e ⟨h, l⟩
      rw [List.getElem?_eq_none (by rw [List.length_set]; omega), List.getElem?_eq_none (by omega)]
    · rw [List.getElem?_set_ne q]
theorem wipe_wipe {σ : St} {vs : List Nat} : wipe (wipe σ vs) vs = wipe σ vs := by
  apply List.ext_getElem?
  intro j
  rw [wipe_get, wipe_get, wipe_length]
  by_cases e : j ∈ vs ∧ j < σ.length
  · rw [if_pos e, if_pos e]
  · rw [if_neg e, if_neg e]
theorem tgok_name {i : Nat} {vs : List Nat} (h : i ∈ vs) : TgOk (gName i) vs := fun v σ H Q q => ⟨wipe_set h, q⟩
theorem tgsok_nil {vs : List Nat} : TgsOk gNil vs := fun v σ H Q q => ⟨q.1, rfl, q.2⟩
theorem tgsok_cons {t : TG} {u : TGs} {vs : List Nat} (mono : ∀ v σ H Q Q', (∀ σ' H', Q σ' H' → Q' σ' H') → t v σ H Q → t v σ H Q') (h : TgOk t vs) (g : TgsOk u vs) : TgsOk (gCons t u) vs := fun ws σ H Q ⟨v, r, e, q⟩ =>
  ⟨v, r, e, mono _ _ _ _ _ (fun σ' H' ⟨h1, h2⟩ => g r σ' H' _ (show u r σ' H' fun σ'' H'' => wipe σ'' vs = wipe σ vs ∧ Q σ'' H'' from by
    have z := g r σ' H' Q h2
    rw [h1] at z
    exact z) |> fun z => by
      have z := g r σ' H' Q h2
      rw [h1] at z
      exact z) (h v σ H _ q)⟩
/-- tests of a comprehension -/
def DTs (X : Cx) (W : WX) (ifs : List Expr) (d : XTT) : Prop := ∃ t, PTs X ifs t ∧ SimT X.K W t d
@[reducible] def xYes : XTT := fun _ S Φ _ => Φ true S
theorem dts_nil : DTs X W [] xYes := ⟨_, pts_nil, fun σ H ρ S Q Φ Ω rel env h ret exc => ret true H S rel Step.refl h⟩
theorem dts_one {c : Expr} (h : DTt X W c dt) : DTs X W [c] dt := let ⟨_, h1, s1⟩ := h; ⟨_, pts_one h1, s1⟩
theorem DTs.can (h : DTs X W ifs dt) : PTs X ifs (tT X.K W dt) := by
  obtain ⟨t, h1, s1⟩ := h
  exact ⟨fun pins s σ H Q I ⟨ρ, S, Φ, Ω, r, en, hd, ret, exc⟩ => h1.run pins s σ H Q I (s1 σ H ρ S Q Φ Ω r en hd ret exc)⟩
/-- the target of a comprehension -/
structure DGx (X : Cx) (scope : Scope) (tg : Expr) (vs : List Nat) (g : TG) (dg : XTG) : Prop where
  pg : ∀ (s : Shared) (H : Hp) (C : Addr) (cl : List (Str × Addr)) (fp : List Addr), PG (X.blk s H scope (compEnvC scope cl C X.env) fp) tg g
  sim : SimG X.K g dg
  ok : TgOk g vs
theorem simLc {wi : TI} {g : TG} {vs : List Nat} {fin : Addr → List Dt → Store → OK1 → Prop} (h : SimI K W wi di) (hg : SimG K g dg) (ok : TgOk g vs)
    (hf : ∀ p acc S H Φ Q, Rel K S H → S p = some (.lst acc) → fin p acc S Φ → Ret K S H Φ Q → Q (.ref p) H) : SimE K W (tLc wi g (tT K W0 dt) (tE K W0 de) vs) (xLcG fin di dg dt de vs) := by
  intro σ H ρ S Q Φ Ω rel env h' ret exc
  refine h σ H ρ S _ _ _ rel env h' (fun J H1 S1 its stay rel1 st1 it g1 Dl hD => ?_) exc
  obtain ⟨I, i0, inv, turn, done⟩ := g1 Dl (rel1.hp hD)
  refine ⟨fun i m H' => m = its.length - i ∧ i ≤ its.length ∧ ∃ acc S', Rel K S' H' ∧ Step S1 H1 S' H' ∧ I i acc S', ⟨its.length, by simp, Nat.zero_le _, [], _, rel1.put (m := .lst []) (.inr hD) ⟨[], upd_same, rfl⟩, Step.put (.inr hD), i0⟩, ?_⟩
  rintro i m H' ⟨rfl, hi, acc, S', rel', st', hI⟩
  obtain ⟨sy, hp⟩ := inv i acc S' hI
  obtain ⟨a1, a2⟩ := it S' H' i rel' st' sy
  by_cases hlt : i < its.length
  · refine .inr ?_
    have hd : its[i]? = some its[i] := List.getElem?_eq_getElem hlt
    obtain ⟨go, b2⟩ := a2 _ hd
    refine ⟨go, fun H2 => ∃ acc S2, Rel K S2 H2 ∧ Step S1 H1 S2 H2 ∧ I (i + 1) acc S2, fun H2 ⟨acc, S2, r2, s2, h2⟩ => ⟨its.length - (i + 1), by omega, rfl, hlt, acc, S2, r2, s2, h2⟩, fun x H'' y => ?_⟩
    obtain ⟨r3, s3, d3⟩ := b2 x H'' y
    obtain ⟨hz, tn⟩ := turn i _ acc S' hd hI
    have env' : EnvR K S' H'' (wipe σ vs) (wipeR ρ vs) := ((env.step ((st1.trans st').trans s3)).wipe vs)
    have z := ok x (wipe σ vs) H'' _ (hg x _ (wipe σ vs) H'' (wipeR ρ vs) S' (fun σ2 H2 => tT K W0 dt σ2 H2 fun b H3 => if b = true then tE K W0 de σ2 H3 fun y H4 => ∃ accV, H4 Dl = some (.lst accV) ∧ accV.length < sizeLine ∧ ∃ acc S2, Rel K S2 (upd H4 Dl (.lst (accV ++ [y]))) ∧ Step S1 H1 S2 (upd H4 Dl (.lst (accV ++ [y]))) ∧ I (i + 1) acc S2
        else ∃ acc S2, Rel K S2 H3 ∧ Step S1 H1 S2 H3 ∧ I (i + 1) acc S2) _ r3 env' d3 tn fun σ2 H2 ρ2 S2 r2 s2 e2 h2 => ?_)
    · have e := @wipe_wipe σ vs
      rw [e] at z
      exact z
    · refine ⟨ρ2, S2, _, _, r2, e2, h2, fun b H3 S3 r5 s5 h5 => ?_, fun _ _ _ _ _ _ _ _ z => z.elim⟩
      have st5 := ((st'.trans s3).trans s2).trans s5
      cases b with
      | true =>
        rw [if_pos rfl] at h5
        refine iteT ?_
        refine ⟨ρ2, S3, _, _, r5, e2.step s5, h5, fun y H4 yd S4 r6 s6 d6 h6 => ?_, fun _ _ _ _ _ _ _ _ z => z.elim⟩
        obtain ⟨hp6, h6⟩ := h6
        obtain ⟨accV, e6, g6⟩ := r6 Dl _ hp6
        have ne : S4 Dl ≠ none := by rw [hp6]; intro z; cases z
        have sp : Step S4 H4 (su S4 Dl (.lst (acc ++ [yd]))) (upd H4 Dl (.lst (accV ++ [y]))) := Step.put (.inl ne)
        exact ⟨accV, e6, by rw [← g6.length]; exact hz, acc ++ [yd], _, r6.put (m := .lst (acc ++ [yd])) (.inl ne) ⟨_, upd_same, (DAll.step sp _ g6).snoc (D.step sp _ d6)⟩, (st5.trans s6).trans sp, h6⟩
      | false =>
        rw [if_neg Bool.false_ne_true] at h5
        refine iteF ?_
        exact ⟨acc, S3, r5, st5, h5⟩
  · have e : i = its.length := by omega
    subst e
    exact .inl ⟨a1 (Nat.le_refl _), hf Dl acc S' H' Φ Q rel' hp (done acc S' hI) (ret.mono (st1.trans st'))⟩
theorem fin_data {p : Addr} {acc : List Dt} {S : Store} {H : Hp} {Φ : OK1} {Q : VK} (rel : Rel K S H) (hp : S p = some (.lst acc)) (h : Φ (.lst acc) (sdel S p)) (ret : Ret K S H Φ Q) : Q (.ref p) H := by
  obtain ⟨vs, e, g⟩ := rel p _ hp
  have sb : Sub (sdel S p) S := Sub.del
  exact ret _ H (.lst acc) (sdel S p) (sb.rel rel) sb.step (D.lst sdel_same e (DAll.step sb.step _ g)) h
theorem fin_stay {p : Addr} {acc : List Dt} {S : Store} {H : Hp} {Φ : OK1} {Q : VK} (rel : Rel K S H) (hp : S p = some (.lst acc)) (h : Φ (.ref p) S) (ret : Ret K S H Φ Q) : Q (.ref p) H := ret _ H (.ref p) S rel Step.refl Drf h
theorem de_lc {k : Nat} {g : TG} (c : Cxt X W k) (hi : DI X W tg iter di) (ok : BlkOk X.N X.env.scope scope own) (hg : DGx X scope tg (own.map (·.2)) g dg)
    (ht : ∀ (s : Shared) (H : Hp) (C : Addr) (cl : List (Str × Addr)) (fp : List Addr), DTs (X.blk s H scope (compEnvC scope cl C X.env) fp) W0 ifs dt)
    (he : ∀ (s : Shared) (H : Hp) (C : Addr) (cl : List (Str × Addr)) (fp : List Addr), DE (X.blk s H scope (compEnvC scope cl C X.env) fp) W0 elt de) (hs : ∀ x, foldedSetIterable iter X.env x = pure x := by intro _; rfl) :
    DE X W (.ListComp elt [⟨tg, iter, ifs, 0⟩] scope pos) (xLc di dg dt de (own.map (·.2))) := by
  obtain ⟨t, p1, s1⟩ := hi
  exact ⟨_, pe_lc c.calm c.nd p1 ok hg.pg (fun s H C cl fp => (ht s H C cl fp).can) (fun s H C cl fp => (he s H C cl fp).can) hs, simLc s1 hg.sim hg.ok fun p acc S H Φ Q => fin_data⟩
theorem de_lcM {k : Nat} {g : TG} (c : Cxt X W k) (hi : DI X W tg iter di) (ok : BlkOk X.N X.env.scope scope own) (hg : DGx X scope tg (own.map (·.2)) g dg)
    (ht : ∀ (s : Shared) (H : Hp) (C : Addr) (cl : List (Str × Addr)) (fp : List Addr), DTs (X.blk s H scope (compEnvC scope cl C X.env) fp) W0 ifs dt)
    (he : ∀ (s : Shared) (H : Hp) (C : Addr) (cl : List (Str × Addr)) (fp : List Addr), DE (X.blk s H scope (compEnvC scope cl C X.env) fp) W0 elt de) (hs : ∀ x, foldedSetIterable iter X.env x = pure x := by intro _; rfl) :
    DE X W (.ListComp elt [⟨tg, iter, ifs, 0⟩] scope pos) (xLcM di dg dt de (own.map (·.2))) := by
  obtain ⟨t, p1, s1⟩ := hi
  exact ⟨_, pe_lc c.calm c.nd p1 ok hg.pg (fun s H C cl fp => (ht s H C cl fp).can) (fun s H C cl fp => (he s H C cl fp).can) hs, simLc s1 hg.sim hg.ok fun p acc S H Φ Q => fin_stay⟩
/-- name = [..] -/
theorem ds_setLc {i k : Nat} {y : Str} {py spos : Pos} {g : TG} (c : Cxt X W k) (hsw : swapsWith (.ListComp elt [⟨tg, iter, ifs, 0⟩] scope pos) (some (.Name y py)) spos.line X.env = pure true) (hi : DI X W tg iter di) (ok : BlkOk X.N X.env.scope scope own) (hg : DGx X scope tg (own.map (·.2)) g dg)
    (ht : ∀ (s : Shared) (H : Hp) (C : Addr) (cl : List (Str × Addr)) (fp : List Addr), DTs (X.blk s H scope (compEnvC scope cl C X.env) fp) W0 ifs dt)
    (he : ∀ (s : Shared) (H : Hp) (C : Addr) (cl : List (Str × Addr)) (fp : List Addr), DE (X.blk s H scope (compEnvC scope cl C X.env) fp) W0 elt de) (hy : X.N[i]? = some y := by rfl) (hyl : X.env.scope.names.lookup y = some .local := by rfl) (hs : ∀ x, foldedSetIterable iter X.env x = pure x := by intro _; rfl) :
    DS X W (.Assign [.Name y py] (.ListComp elt [⟨tg, iter, ifs, 0⟩] scope pos) spos) (xAsg (xLc di dg dt de (own.map (·.2))) (xgN i)) := by
  obtain ⟨t, p1, s1⟩ := hi
  exact ⟨_, ps_setLc c.calm c.nd hy hyl hsw p1 ok hg.pg (fun s H C cl fp => (ht s H C cl fp).can) (fun s H C cl fp => (he s H C cl fp).can) hs, simAsg (simLc s1 hg.sim hg.ok fun p acc S H Φ Q => fin_data) simgN⟩
theorem ds_setLcM {i k : Nat} {y : Str} {py spos : Pos} {g : TG} (c : Cxt X W k) (hsw : swapsWith (.ListComp elt [⟨tg, iter, ifs, 0⟩] scope pos) (some (.Name y py)) spos.line X.env = pure true) (hi : DI X W tg iter di) (ok : BlkOk X.N X.env.scope scope own) (hg : DGx X scope tg (own.map (·.2)) g dg)
    (ht : ∀ (s : Shared) (H : Hp) (C : Addr) (cl : List (Str × Addr)) (fp : List Addr), DTs (X.blk s H scope (compEnvC scope cl C X.env) fp) W0 ifs dt)
    (he : ∀ (s : Shared) (H : Hp) (C : Addr) (cl : List (Str × Addr)) (fp : List Addr), DE (X.blk s H scope (compEnvC scope cl C X.env) fp) W0 elt de) (hy : X.N[i]? = some y := by rfl) (hyl : X.env.scope.names.lookup y = some .local := by rfl) (hs : ∀ x, foldedSetIterable iter X.env x = pure x := by intro _; rfl) :
    DS X W (.Assign [.Name y py] (.ListComp elt [⟨tg, iter, ifs, 0⟩] scope pos) spos) (xAsg (xLcM di dg dt de (own.map (·.2))) (xgN i)) := by
  obtain ⟨t, p1, s1⟩ := hi
  exact ⟨_, ps_setLc c.calm c.nd hy hyl hsw p1 ok hg.pg (fun s H C cl fp => (ht s H C cl fp).can) (fun s H C cl fp => (he s H C cl fp).can) hs, simAsg (simLc s1 hg.sim hg.ok fun p acc S H Φ Q => fin_stay) simgN⟩
end
end DL

set_option Elab.async false
set_option linter.all false
set_option maxRecDepth 100000
set_option maxHeartbeats 4000000
/-! The data layer: star targets, own defs, methods, isinstance, a def's promise. -/
namespace DL
open PySem PySem.Spec PyProof.Rows L2

/-! ### a, *b = e -/
section
variable {fs ex : List Addr} {H : Hp} {h h' : Heap} {a : Addr} {o : HO} {P : Program} {w : World}
theorem un_laid (k : ∀ b u, h.get? b = some u → h'.get? b = some u) (hg : h.get? a = none) (hn : H a = none) : Un fs ex H (upd H a o) h h' where
  keep := fun b u q _ _ _ => k b u q
  slot := fun b u q _ _ _ => ⟨u.slots, k b u q⟩
  free := fun b u q n _ => by rw [upd_ne (fun e => by rw [e, hg] at q; cases q)]; exact n
  there := fun b u q _ => ⟨u, k b u q⟩
  tups := fun b xs q => by rw [upd_ne (ne_of_none q hn)]; exact q
  frzs := fun b u xs q => by rw [upd_ne (ne_of_none q hn)]; exact q
  tbls := fun b ps q => ⟨#[], by rw [upd_ne (ne_of_none q hn), q]; simp⟩
theorem hok_laid (x : HOk P w H h) (k : ∀ b u, h.get? b = some u → h'.get? b = some u) (hn : H a = none) (new : ObjOk P w (upd H a o) h' a o) : HOk P w (upd H a o) h' := fun b u e => by
  by_cases hb : b = a
  · subst hb; rw [upd_same] at e; cases e; exact new
  · rw [upd_ne hb] at e
    exact (x b u e).stay (fun c v _ q => k c v q) (fun c q => by rw [upd_ne (ne_of_none q hn)]; exact q) fun c xs q => by rw [upd_ne (ne_of_none q hn)]; exact q
end
section
variable {prog : Program} {w : World} {A : Around} {E : Value → Shared → Prop} {s : Shared}
theorem star_L {l : Addr} {items : Array Value} {n i : Nat} {Q : List Value → Shared → Prop} (hl : s.heap.IsList l items) (hh : A.handled = none) (hi : i < n) (hn : n ≤ items.size + 1) (hz : items.size ≤ sizeLine)
    (h : ∀ D h' tk, s.heap.get? D = none → (∀ b o, s.heap.get? b = some o → h'.get? b = some o) → h'.get? D = some { cls := .type "list", data := .seq ((items.toList.drop i).take (items.size + 1 - n)).toArray } →
      Q (items.toList.take i ++ [.ref D] ++ (items.toList.drop i).drop (items.size + 1 - n)) { s with heap := h', toks := tk }) : wpAny (model prog w) A (unpackItems (.ref l) n (some i)) Q E s := by
  have hlt : l ≠ s.heap.objs.size := by obtain ⟨o, ho, _⟩ := hl; exact Nat.ne_of_lt (Heap.lt_size ho)
  unfold unpackItems
  refine wpAny_bind ?_
  unfold notIterableAtAll
  refine wpAny_bind (wpAny_specialOf hl.typeIs slot_list_iter.lookup ?_)
  refine wpAny_pure ?_
  simp only [Bool.false_eq_true, if_false]
  refine wpAny_bind (wpAny_holding (wpAny_pyIter_list hl ?_))
  refine wpAny_bind (wpAny_holding (PySem.W.kun_draw hlt i 0 _ _ ⟨_, Heap.get?_push_size _ rfl, rfl, rfl⟩ (hl.push _) (by omega) fun h₁ hit₁ hs₁ => ?_))
  have hl₁ : h₁.IsList l items := (hl.push _).extBut hs₁.extBut hlt
  rw [Nat.zero_add] at hit₁
  obtain ⟨oi, hoi, _⟩ := id hit₁
  obtain ⟨ol, hol, _⟩ := id hl₁
  rw [List.drop_zero]
  have hfl : (items.toList.take i).length = i := by rw [List.length_take, Array.length_toList]; omega
  rw [if_neg (show ¬ ((items.toList.take i).length < i) by rw [hfl]; omega)]
  refine wpAny_bind (wpAny_holding (PySem.W.kun_collect (s := { s with heap := h₁ }) (T := "list_iterator") (.inr (.inr (.inl rfl))) (Walks.list (A := A.in1) hh s.heap.objs.size l hlt items) (fun j u st => st.1.typeIs) (k := i) (by omega) ⟨hit₁, hl₁⟩ (Heap.lt_size hoi) (Heap.lt_size hol) (fun h₂ tk hk => ?_) hz))
  have hrl : (items.toList.drop i).length = items.size - i := by rw [List.length_drop, Array.length_toList]
  have hmid : (items.toList.drop i).length - (n - 1 - i) = items.size + 1 - n := by rw [hrl]; omega
  show wpAny _ _ (if (items.toList.drop i).length < n - 1 - i then _ else _) _ _ _
  rw [if_neg (by rw [hrl]; omega)]
  show wpAny _ _ (newList ((items.toList.drop i).take ((items.toList.drop i).length - (n - 1 - i))) >>= fun d => pure (items.toList.take i ++ [d] ++ (items.toList.drop i).drop ((items.toList.drop i).length - (n - 1 - i)))) _ _ _
  rw [hmid]
  have he : Heap.ExtBut s.heap.objs.size s.heap h₂ := fun b o hb e => hk b o hb (hs₁.extBut b o hb (Heap.get?_push_of_some _ e))
  refine wpAny_bind (wpAny_newObj_type (wpAny_pure (h h₂.objs.size _ _ ?_ (fun b o e => Heap.get?_push_of_some _ (he b o (Nat.ne_of_lt (Heap.lt_size e)) e)) (Heap.get?_push_size _ rfl))) ?_)
  · cases q : s.heap.get? h₂.objs.size with
    | none => rfl
    | some o => exact absurd (Heap.lt_size (he _ o (Nat.ne_of_lt (Heap.lt_size q)) q)) (Nat.lt_irrefl _)
  · show ((items.toList.drop i).take (items.size + 1 - n)).toArray.size ≤ sizeLine
    rw [List.size_toArray, List.length_take, hrl]; omega
theorem star_T {l : Addr} {items : Array Value} {n i : Nat} {Q : List Value → Shared → Prop} (hl : IsTup s.heap l items) (hh : A.handled = none) (hi : i < n) (hn : n ≤ items.size + 1) (hz : items.size ≤ sizeLine)
    (h : ∀ D h' tk, s.heap.get? D = none → (∀ b o, s.heap.get? b = some o → h'.get? b = some o) → h'.get? D = some { cls := .type "list", data := .seq ((items.toList.drop i).take (items.size + 1 - n)).toArray } →
      Q (items.toList.take i ++ [.ref D] ++ (items.toList.drop i).drop (items.size + 1 - n)) { s with heap := h', toks := tk }) : wpAny (model prog w) A (unpackItems (.ref l) n (some i)) Q E s := by
  have hlt : l ≠ s.heap.objs.size := by obtain ⟨o, ho, _⟩ := hl; exact Nat.ne_of_lt (Heap.lt_size ho)
  unfold unpackItems
  refine wpAny_bind ?_
  unfold notIterableAtAll
  refine wpAny_bind (wpAny_specialOf hl.typeIs slot_tuple_iter.lookup ?_)
  refine wpAny_pure ?_
  simp only [Bool.false_eq_true, if_false]
  refine wpAny_bind (wpAny_holding (iter_tuple hl ?_))
  refine wpAny_bind (wpAny_holding (draw_tuple hlt i 0 _ _ ⟨_, Heap.get?_push_size _ rfl, rfl, rfl⟩ (hl.push _) (by omega) fun h₁ hit₁ hs₁ => ?_))
  have hl₁ : IsTup h₁ l items := (hl.push _).extBut hs₁.extBut hlt
  rw [Nat.zero_add] at hit₁
  obtain ⟨oi, hoi, _⟩ := id hit₁
  obtain ⟨ol, hol, _⟩ := id hl₁
  rw [List.drop_zero]
  have hfl : (items.toList.take i).length = i := by rw [List.length_take, Array.length_toList]; omega
  rw [if_neg (show ¬ ((items.toList.take i).length < i) by rw [hfl]; omega)]
  refine wpAny_bind (wpAny_holding (PySem.W.kun_collect (s := { s with heap := h₁ }) (T := "tuple_iterator") (.inr (.inr (.inr rfl))) (Walks.tuple (A := A.in1) hh s.heap.objs.size l hlt items) (fun j u st => st.1.typeIs) (k := i) (by omega) ⟨hit₁, hl₁⟩ (Heap.lt_size hoi) (Heap.lt_size hol) (fun h₂ tk hk => ?_) hz))
  have hrl : (items.toList.drop i).length = items.size - i := by rw [List.length_drop, Array.length_toList]
  have hmid : (items.toList.drop i).length - (n - 1 - i) = items.size + 1 - n := by rw [hrl]; omega
  show wpAny _ _ (if (items.toList.drop i).length < n - 1 - i then _ else _) _ _ _
  rw [if_neg (by rw [hrl]; omega)]
  show wpAny _ _ (newList ((items.toList.drop i).take ((items.toList.drop i).length - (n - 1 - i))) >>= fun d => pure (items.toList.take i ++ [d] ++ (items.toList.drop i).drop ((items.toList.drop i).length - (n - 1 - i)))) _ _ _
  rw [hmid]
  have he : Heap.ExtBut s.heap.objs.size s.heap h₂ := fun b o hb e => hk b o hb (hs₁.extBut b o hb (Heap.get?_push_of_some _ e))
  refine wpAny_bind (wpAny_newObj_type (wpAny_pure (h h₂.objs.size _ _ ?_ (fun b o e => Heap.get?_push_of_some _ (he b o (Nat.ne_of_lt (Heap.lt_size e)) e)) (Heap.get?_push_size _ rfl))) ?_)
  · cases q : s.heap.get? h₂.objs.size with
    | none => rfl
    | some o => exact absurd (Heap.lt_size (he _ o (Nat.ne_of_lt (Heap.lt_size q)) q)) (Nat.lt_irrefl _)
  · show ((items.toList.drop i).take (items.size + 1 - n)).toArray.size ≤ sizeLine
    rw [List.size_toArray, List.length_take, hrl]; omega
end
def gStar (K : PySem.W.Frag) (n i : Nat) (t : TGs) : TG := fun v σ H Q => ∃ a xs, v = .ref a ∧ (SqL K H a xs ∨ SqT K H a xs) ∧ n ≤ xs.length + 1 ∧
  ∀ p, H p = none → t (xs.take i ++ [.ref p] ++ (xs.drop i).drop (xs.length + 1 - n)) σ (upd H p (.lst ((xs.drop i).take (xs.length + 1 - n)))) Q
section
variable {X : Cx} {pos : Pos}
theorem pg_star {es : List Expr} {k n i : Nat} {t : TGs} (hc : X.calm = true) (h : PGs X es t) (hi : i < n) (hn : (assignEach es X.env).length = n) (hst : (assignEach es X.env).findIdx? (·.1) = some i) : PG X (.Tuple es k pos) (gStar X.K n i t) := by
  refine ⟨fun pins s σ H v u Q I r hw => ?_⟩
  obtain ⟨a, xs, rfl, hq, hl, hw⟩ := hw
  cases r
  have fin : ∀ (its : List Value), Vals xs its → ∀ (D : Addr) (h' : Heap) (tk : Nat), s.heap.get? D = none → (∀ b o, s.heap.get? b = some o → h'.get? b = some o) → h'.get? D = some { cls := .type "list", data := .seq ((its.drop i).take (its.length + 1 - n)).toArray } → xs.length ≤ sizeLine →
      wpAny (model X.prog X.w) X.A (assignInOrder ((assignEach es X.env).map (·.2)) (its.take i ++ [.ref D] ++ (its.drop i).drop (its.length + 1 - n))) (fun _ s' => ∃ σ' H', Inv X pins σ' H' s' ∧ Q σ' H') X.xe { s with heap := h', toks := tk } := by
    intro its rv D h' tk hD hk hDl hz
    have hn' : H D = none := I.hok.gone hD
    have rl := rv.length
    have hok : HOk X.prog X.w (upd H D (.lst ((xs.drop i).take (xs.length + 1 - n)))) h' := hok_laid I.hok hk hn' ⟨by rw [List.length_take, List.length_drop]; omega, (its.drop i).take (its.length + 1 - n), 0, by rw [rl]; exact (rv.drop i).take _, hDl⟩
    have I1 := I.un (t' := tk) (un_laid (o := .lst ((xs.drop i).take (xs.length + 1 - n))) hk hD hn') hok
    refine h.run pins _ σ _ _ _ Q I1 ?_ (hw D hn')
    refine Vals.append (Vals.append (rv.take i) (.cons rfl .nil)) ?_
    rw [rl]
    exact (rv.drop i).drop _
  rw [PyProof.Rows.assign_Tuple]
  refine wpAny_bind (wpAny_standAt ?_)
  unfold unpack
  rw [hn, hst]
  rcases hq with hq | hq
  · obtain ⟨its, rv, pl, hz⟩ := I.list hq
    have rl := rv.length
    refine wpAny_bind (wpAny_holding (star_L pl.isList (I.ok.hd hc) hi (by simp only [List.size_toArray]; omega) (by simp only [List.size_toArray]; omega) fun D h' tk hD hk hDl => ?_))
    simp only [List.size_toArray, List.toList_toArray] at hDl ⊢
    exact fin its rv D h' tk hD hk hDl hz
  · obtain ⟨its, rv, pl, hz⟩ := I.tuple hq
    have rl := rv.length
    refine wpAny_bind (wpAny_holding (star_T pl (I.ok.hd hc) hi (by simp only [List.size_toArray]; omega) (by simp only [List.size_toArray]; omega) fun D h' tk hD hk hDl => ?_))
    simp only [List.size_toArray, List.toList_toArray] at hDl ⊢
    exact fin its rv D h' tk hD hk hDl hz
/-- the data reading; the new list is data -/
@[reducible] def xgStar (n i : Nat) (t : XTGs) : XTG := fun a ρ S Φ => Sv S a fun xs => n ≤ xs.length + 1 ∧ t (xs.take i ++ [.lst ((xs.drop i).take (xs.length + 1 - n))] ++ (xs.drop i).drop (xs.length + 1 - n)) ρ S Φ
theorem dg_star {es : List Expr} {k n i : Nat} {r : XTGs} (hc : X.calm = true) (h : DGs X es r) (hi : i < n := by decide) (hn : (assignEach es X.env).length = n := by rfl) (hst : (assignEach es X.env).findIdx? (·.1) = some i := by rfl) : DG X (.Tuple es k pos) (xgStar n i r) := by
  obtain ⟨t, p1, s1⟩ := h
  refine ⟨_, pg_star hc p1 hi hn hst, fun v a σ H ρ S Q Φ rel env d h nx => ?_⟩
  obtain ⟨xs, vs, p, rfl, sq, g, hl, h⟩ := h.out rel d
  refine ⟨p, vs, rfl, sq, by rw [← g.length]; exact hl, fun q hq => ?_⟩
  have st : Step S H S (upd H q (.lst ((vs.drop i).take (vs.length + 1 - n)))) := Step.new1 hq
  refine s1 _ _ σ _ ρ S Q Φ (rel.new1 hq) (env.step st) ?_ h (nx.mono st)
  have g' := DAll.step st _ g
  rw [g.length]
  refine DAll.append (DAll.append (g'.take i) ⟨.ref q, [], rfl, D.lst (rel.hp hq) upd_same ((g'.drop i).take _), rfl⟩) ((g'.drop i).drop _)
theorem dgs_star {e : Expr} {es : List Expr} {g : XTG} {r : XTGs} {p : Pos} (h1 : DG X e g) (h2 : DGs X es r) (hs : (assignEach (.Starred e p :: es) X.env).map (·.2) = assign e X.env :: (assignEach es X.env).map (·.2) := by rfl) : DGs X (.Starred e p :: es) (xgCons g r) := by
  obtain ⟨t, p1, s1⟩ := h1
  obtain ⟨t2, p2, s2⟩ := h2
  refine ⟨gCons t t2, ⟨fun pins s σ H vs us Q I r h => ?_⟩, fun vs as σ H ρ S Q Φ rel env d h nx => ?_⟩
  · obtain ⟨v, vr, e1, h⟩ := h
    subst e1
    cases r with
    | cons r rr =>
      rw [hs]
      refine assignInOrder_cons (thn (p1.run pins s σ H _ _ _ I r h) fun _ s1 ⟨σ1, H1, I1, q1⟩ => ?_)
      exact p2.run pins s1 σ1 H1 _ _ Q I1 rr q1
  · unfold xgCons at h
    split at h
    · obtain ⟨v, w, rfl, dv, dw⟩ := d
      refine ⟨v, w, rfl, s1 v _ σ H ρ S _ _ rel env dv h fun σ' H' ρ' S' rel' st' env' h' => ?_⟩
      exact s2 w _ σ' H' ρ' S' _ _ rel' env' (DAll.step st' _ dw) h' (nx.mono st')
    · exact h.elim
end

/-! ### own defs -/
abbrev Fsp := List Dt → Store → OK1 → XK1 → Prop
def spOf (K : PySem.W.Frag) (R : Fsp) : Sp := fun vs H Q E => ∃ ds S Φ Ω, Rel K S H ∧ DAll K S H ds vs ∧ R ds S Φ Ω ∧ Ret K S H Φ Q ∧ Exc K S H Ω E
/-- a def's promise in data -/
abbrev FnD (P : Program) (w : World) (K : PySem.W.Frag) (mg : Str → Option Value) (base : Heap) (k : Nat) (f : Addr) (fd : FuncData) (ps : List Str) (R : Fsp) : Prop := FnOk P w K mg base (L2.CX P w) k f fd ps (spOf K R)
@[reducible] def xCall (R : Fsp) (dr : XTA) : XTE := fun ρ S Φ Ω => dr ρ S (fun as S1 => R as S1 Φ Ω) Ω
@[reducible] def xCallD (R : Fsp) (dv : List Dt) (dr : XTA) : XTE := fun ρ S Φ Ω => dr ρ S (fun as S1 => R (as ++ dv) S1 Φ Ω) Ω
@[reducible] def xCallK (R : Fsp) (gD : List Dt → List Dt → List Dt) (n m : Nat) (dr dk : XTA) : XTE := fun ρ S Φ Ω => dr ρ S (fun as S1 => dk ρ S1 (fun bs S2 => as.length = n ∧ bs.length = m ∧ R (gD as bs) S2 Φ Ω) Ω) Ω
def startR (n : Nat) (ds : List Dt) : Ro := ds.map some ++ List.replicate (n - ds.length) none
@[reducible] def bodyEnds (Φ : OK1) : XEnds := { nx := fun _ S => Φ .non S, rt := Φ }
section
variable {P : Program} {w : World} {K : PySem.W.Frag} {mg : Str → Option Value} {base : Heap}
theorem env_start {S : Store} {H : Hp} {N : List Str} {ds : List Dt} {vs : List V} (d : DAll K S H ds vs) : EnvR K S H (L2.start N vs) (startR N.length ds) := by
  have hl := d.length
  refine ⟨by unfold L2.start startR; simp [hl], fun i x h => ?_⟩
  unfold startR at h
  unfold L2.start
  by_cases hi : i < ds.length
  · rw [List.getElem?_append_left (by simpa using hi), List.getElem?_map] at h
    cases e : ds[i]? with
    | none => rw [e] at h; simp at h
    | some y =>
      rw [e] at h
      have q : y = x := by simpa using h
      subst q
      obtain ⟨v, hv, dv⟩ := d.get e
      exact ⟨v, by rw [List.getElem?_append_left (by simpa [← hl] using hi), List.getElem?_map, hv]; rfl, dv⟩
  · rw [List.getElem?_append_right (by simpa using hi), List.getElem?_replicate] at h
    split at h <;> cases h
/-- THE RULE for a def: from its body's derivation c, and R shown by the body's data reading -/
theorem fnD {x qual : Str} {st : Stmt} {f : Addr} {fd : FuncData} {N ps : List Str} {k : Nat} {R : Fsp} {d : XTS} (F : Fun K x qual st f fd) (Sc : FnScope N ps (defScope st)) (len : ∀ ds S Φ Ω, R ds S Φ Ω → ds.length = ps.length)
    (hbody : ∀ (cdv : Value) (A : Around) (outer : List Env) (s : Shared) (H : Hp) (E : XK), Cxt (cxOf (L2.CX P w) P w K mg base N qual (defScope st) f cdv A outer s H E) (fun cls d _ H => E cls d H) k →
      DSs (cxOf (L2.CX P w) P w K mg base N qual (defScope st) f cdv A outer s H E) (fun cls d _ H => E cls d H) (defBody st) d)
    (hR : ∀ ds S Φ Ω, R ds S Φ Ω → d (bodyEnds Φ) (fun c fs _ S => Ω c fs S) (startR N.length ds) S) : FnD P w K mg base (k + 1) f fd ps R := by
  refine F.okX Sc (fun vs H Q E h => ?_) (fun cdv A outer s H vs Q E hr h => ?_)
  · obtain ⟨ds, S, Φ, Ω, _, d, r, _⟩ := h
    rw [← d.length]
    exact len ds S Φ Ω r
  · obtain ⟨ds, S, Φ, Ω, rel, da, r, ret, exc⟩ := h
    have cx : Cxt (cxOf (L2.CX P w) P w K mg base N qual (defScope st) f cdv A outer s H E) (fun cls d _ H => E cls d H) k := ⟨rfl, Sc.nd, takes_of rfl rfl rfl rfl, passes_of rfl, hr⟩
    obtain ⟨t, p1, s1⟩ := hbody cdv A outer s H E cx
    refine ⟨t, p1, s1 _ H _ S _ _ _ rel (env_start da) (hR ds S Φ Ω r) ⟨fun σ' H' ρ' S' r' st' _ h' => ret .non H' .non S' r' st' rfl h', ret, fun _ _ _ _ _ _ _ z => z.elim, fun _ _ _ _ _ _ _ z => z.elim⟩ fun cls o σ' H' ρ' S' fs r' st' _ g h' => exc cls o H' S' fs r' st' g h'⟩
variable {X : Cx} {W : WX} {k j : Nat} {f : Addr} {fd : FuncData} {ps : List Str} {R : Fsp} {x : Str} {e : Expr} {es : List Expr} {dr : XTA} {p pos : Pos}
theorem simCall {t : TA} (h : SimA X.K W t dr) : SimE X.K W (tCallS (spOf X.K R) (WE W) t) (xCall R dr) := by
  intro σ H ρ S Q Φ Ω rel env hd ret exc
  refine h σ H ρ S _ _ Ω rel env hd (fun vs H1 as S1 rel1 st1 d1 g1 => ?_) exc
  exact ⟨as, S1, Φ, Ω, rel1, d1, g1, ret.mono st1, exc.mono st1⟩
theorem de_call (c : Cxt X W k) (F : FnD X.prog X.w X.K X.mg X.base j f fd ps R) (hj : j ≤ k) (hm : X.mg x = some (.ref f)) (hk : PySem.W.keepIn X.K (.ref f) = true) (hb : Binds X.K fd ps []) (h : DA X W (e :: es) dr) (hg : Gl X x := by rfl) (hdb : (x == ("__debug__" : Str)) = false := by decide)
    (he : starEach (e :: es) X.env = (false, eval e X.env) :: starEach es X.env := by rfl) (hpl : (backTo pos (starEach es X.env)).any (·.1) = false := by rfl) : DE X W (.Call (.Name x p) (e :: es) [] pos) (xCall R dr) :=
  let ⟨_, p1, s1⟩ := h; ⟨_, pe_callS F (c.hr.mono hj) hg hm hk hb (fun σ => passAt c.tk σ) p1 hdb he hpl, simCall s1⟩
theorem de_call0 (c : Cxt X W k) (F : FnD X.prog X.w X.K X.mg X.base j f fd ps R) (hj : j ≤ k) (hm : X.mg x = some (.ref f)) (hk : PySem.W.keepIn X.K (.ref f) = true) (hb : Binds X.K fd ps []) (hg : Gl X x := by rfl) (hdb : (x == ("__debug__" : Str)) = false := by decide) :
    DE X W (.Call (.Name x p) [] [] pos) (xCall R xNil) := by
  refine ⟨tCallS (spOf X.K R) (WE W) tNil, ⟨fun pins s σ H Q I h => ?_⟩, simCall fun σ H ρ S Q Φ Ω rel env h ret exc => ret [] H [] S rel Step.refl rfl h⟩
  refine wpAny_Call_Name_kw (ld_glob I hg hm ?_ hdb)
  exact PySem.W.callWith_K0 I.kIn hk (run_fnS (E := WE W) (us := []) F (c.hr.mono hj) hb (passAt c.tk σ) I .nil h)
/-- the written arguments, then the defaults' values dv -/
theorem de_callD {dv : List Dt} {dvs : List V} {ds : List Value} (c : Cxt X W k) (F : FnD X.prog X.w X.K X.mg X.base j f fd ps R) (hj : j ≤ k) (hm : X.mg x = some (.ref f)) (hk : PySem.W.keepIn X.K (.ref f) = true) (hb : Binds X.K fd ps ds) (hd : Vals dvs ds) (hdv : ∀ S H, DAll X.K S H dv dvs) (h : DA X W (e :: es) dr) (hg : Gl X x := by rfl) (hdb : (x == ("__debug__" : Str)) = false := by decide)
    (he : starEach (e :: es) X.env = (false, eval e X.env) :: starEach es X.env := by rfl) (hpl : (backTo pos (starEach es X.env)).any (·.1) = false := by rfl) : DE X W (.Call (.Name x p) (e :: es) [] pos) (xCallD R dv dr) := by
  obtain ⟨t, p1, s1⟩ := h
  refine ⟨_, pe_callSD (E := WE W) F (c.hr.mono hj) hg hm hk hb hd (fun σ => passAt c.tk σ) p1 hdb he hpl, fun σ H ρ S Q Φ Ω rel env hd ret exc => ?_⟩
  refine s1 σ H ρ S _ _ Ω rel env hd (fun vs H1 as S1 rel1 st1 d1 g1 => ?_) exc
  exact ⟨as ++ dv, S1, Φ, Ω, rel1, d1.append (hdv S1 H1), g1, ret.mono st1, exc.mono st1⟩
end
end DL

set_option Elab.async false
set_option linter.all false
set_option maxRecDepth 100000
set_option maxHeartbeats 4000000
/-! The data layer: methods, isinstance, slices backwards, keywords. -/
namespace DL
open PySem PySem.Spec PyProof.Rows L2

/-! ### x[::-1] -/
def revS (x : Str) : Str := ⟨x.cps.toList.reverse.toArray⟩
theorem range_rev {α : Type} (l : List α) (d : α) : (List.range l.length).map (fun k => l.toArray.getD (l.length - 1 - k) d) = l.reverse := by
  apply List.ext_getElem?
  intro j
  by_cases h : j < l.length
  · rw [List.getElem?_map, List.getElem?_range h, List.getElem?_reverse h]
    have h2 : l.length - 1 - j < l.length := by omega
    simp [Array.getD, h2]
  · rw [List.getElem?_eq_none (by simp; omega), List.getElem?_eq_none (by simp; omega)]
theorem sliceBy_rev (x : Str) (u : Tok) : Txt.sliceBy x none none (-1, u) = revS x := by
  have h := PyProof.Rows.step_rev_list x u
  obtain ⟨⟨l⟩⟩ := x
  have e := range_rev l 0
  have h2 : (Txt.sliceBy ⟨⟨l⟩⟩ none none (-1, u)).cps.toList = l.reverse := by rw [h]; exact e
  generalize Txt.sliceBy ⟨⟨l⟩⟩ none none (-1, u) = z at h2
  obtain ⟨⟨m⟩⟩ := z
  have h3 : m = l.reverse := h2
  subst h3
  rfl
theorem revS_length (x : Str) : (revS x).length = x.length := by
  obtain ⟨⟨l⟩⟩ := x
  show l.reverse.length = l.length
  rw [List.length_reverse]
def tRevA (K : PySem.W.Frag) (te : TE) : TE := fun σ H Q => te σ H fun x H1 => (∃ a xs, x = .ref a ∧ SqL K H1 a xs ∧ ∀ p, H1 p = none → Q (.ref p) (upd H1 p (.lst xs.reverse))) ∨ (∃ y, x = .str y ∧ y.length ≤ sizeLine ∧ Q (.str (revS y)) H1)
section
variable {X : Cx} {W : WX} {e : Expr} {te : TE} {da : XTE} {k : Nat} {p1 p2 p3 pos : Pos}
theorem pe_revA (he : PE X e te) : PE X (.Subscript e (.Slice none none (some (.UnaryOp .USub (.Constant (.int 1) k p1) p2)) p3) pos) (tRevA X.K te) := by
  refine ⟨fun pins s σ H Q I h => ?_⟩
  refine Subscript_ (thn (he.run pins s σ H _ I h) fun v s1 ⟨x, H1, I1, r1, q1⟩ => ?_)
  have hst : PO X (some (.UnaryOp .USub (.Constant (.int 1) k p1) p2)) (tPart (tUn (rU fun i => .int (-i)) (tC (.int 1)))) := po_some (pe_un un_neg pe_int)
  refine wpAny_Slice (thn (po_none.run pins s1 σ H1 (fun o H2 => o = none ∧ H2 = H1) I1 ⟨rfl, rfl⟩) fun vl s2 ⟨l, H2, I2, pl, el, e2⟩ => ?_)
  subst el e2
  refine thn (po_none.run pins s2 σ H2 (fun o H3 => o = none ∧ H3 = H2) I2 ⟨rfl, rfl⟩) fun vu s3 ⟨u, H3, I3, pu, eu, e3⟩ => ?_
  subst eu e3
  refine thn (hst.run pins s3 σ H3 (fun o H4 => o = some (-1) ∧ H4 = H3) I3 ⟨1, rfl, -1, rfl, rfl, rfl⟩) fun vs s4 ⟨o, H4, I4, ps, eo, e4⟩ => ?_
  subst eo e4
  have I5 : Inv X pins σ H4 { s4 with heap := s4.heap.push { cls := .type "slice", data := .fields #[vl, vu, vs] } } := I4.kept (t' := s4.toks) fun b ob q => Heap.get?_push_of_some _ q
  rcases q1 with ⟨a, xs, ex, hx, q⟩ | ⟨y, ex, hz, q⟩
  · subst ex
    cases r1
    obtain ⟨its, r, ht, hz⟩ := I5.list hx
    have hlen := r.length
    show wpAny (model X.prog X.w) X.A (subscriptTail e (.Slice none none (some (.UnaryOp .USub (.Constant (.int 1) k p1) p2)) p3) (.ref a) (.ref s4.heap.objs.size)) (EP X pins σ Q) X.xe { s4 with heap := s4.heap.push { cls := .type "slice", data := .fields #[vl, vu, vs] } }
    refine tail_any (ops := [.ref a, .ref s4.heap.objs.size]) ht.isList.typeIs (PySem.slot_list_getitem.lookup) ?_ (by with_unfolding_all rfl)
    refine wpAny_getItem_list_slice ht.isList (Heap.IsSliceOf.new _ vl vu vs) pl pu ps (by decide) ?_ (by rw [List.size_toArray]; omega)
    rw [PySem.W.krv_pick]
    refine ⟨.ref _, _, I5.laid (t' := s4.toks) (o := .lst xs.reverse) (fun b ob q => Heap.get?_push_of_some _ q) (Nat.le_refl _) ?_, rfl, q _ (I5.hok.fresh (Nat.le_refl _))⟩
    exact ⟨by rw [List.length_reverse]; exact hz, _, 0, r.reverse, Heap.get?_push_size _ rfl⟩
  · subst ex
    obtain ⟨t, rfl⟩ := r1
    obtain ⟨l, rfl, hl0⟩ := IsPart.raw pl
    obtain ⟨u, rfl, hu0⟩ := IsPart.raw pu
    obtain ⟨st, rfl, hs0⟩ := IsPart.raw ps
    have el : l = none := by cases l with | none => rfl | some z => cases hl0
    have eu : u = none := by cases u with | none => rfl | some z => cases hu0
    subst el eu
    obtain ⟨st, rfl, es⟩ : ∃ z : Int × Tok, st = some z ∧ z.1 = -1 := by
      cases st with
      | none => cases hs0
      | some z => exact ⟨z, rfl, Option.some.inj hs0⟩
    obtain ⟨si, su⟩ := st
    dsimp only at es
    subst es
    show wpAny (model X.prog X.w) X.A (subscriptTail e (.Slice none none (some (.UnaryOp .USub (.Constant (.int 1) k p1) p2)) p3) (.str y t) (.ref s4.heap.objs.size)) (EP X pins σ Q) X.xe _
    refine tail_any (ops := [.str y t, .ref s4.heap.objs.size]) (typeIs_str _ _ _) (F.slot_str_getitem.lookup) ?_ (by with_unfolding_all rfl)
    refine wpAny_getItem_str_slice (l := none) (u := none) (st := some (-1, su)) ⟨_, Heap.get?_push_size _ rfl, rfl, rfl⟩ (by rfl) ?_
    have e0 := sliceBy_rev y su
    unfold Txt.sliceBy at e0
    refine post_val_or_str ⟨?_, fun t' c => ?_⟩
    · have := revS_length y
      rw [← e0] at this
      exact Nat.le_trans (Nat.le_of_eq this) hz
    · refine ⟨.str (revS y), H4, I5.tok c, ⟨t', ?_⟩, q⟩
      rw [← e0]
@[reducible] def xRev (da : XTE) : XTE := fun ρ S Φ Ω => da ρ S (fun a S1 => match a with
  | .str y => y.length ≤ sizeLine ∧ Φ (.str (revS y)) S1
  | a => Lv S1 a fun xs => Φ (.lst xs.reverse) S1) Ω
theorem de_rev (h : DE X W e da) : DE X W (.Subscript e (.Slice none none (some (.UnaryOp .USub (.Constant (.int 1) k p1) p2)) p3) pos) (xRev da) := by
  obtain ⟨t, h1, s1⟩ := h
  refine ⟨_, pe_revA h1, fun σ H ρ S Q Φ Ω rel env h ret exc => ?_⟩
  refine s1 σ H ρ S _ _ Ω rel env h (fun x H1 a S1 rel1 st1 d1 g1 => ?_) exc
  split at g1
  · cases d1
    exact .inr ⟨_, rfl, g1.1, (ret.mono st1).now rel1 Dst g1.2⟩
  · obtain ⟨xs, vs, p, rfl, hp, g, h⟩ := g1.out rel1 d1
    exact .inl ⟨p, vs, rfl, .inl (.inl hp), fun q hq => (ret.mono st1).newL rel1 g.rev hq h⟩
/-- -a -/
@[reducible] def xNeg (da : XTE) : XTE := fun ρ S Φ Ω => da ρ S (fun a S1 => match a with | .int i => Φ (.int (-i)) S1 | _ => False) Ω
theorem de_neg (h : DE X W e da) : DE X W (.UnaryOp .USub e pos) (xNeg da) := by
  obtain ⟨t, h1, s1⟩ := h
  refine ⟨_, pe_un un_neg h1, fun σ H ρ S Q Φ Ω rel env h ret exc => ?_⟩
  refine s1 σ H ρ S _ _ Ω rel env h (fun x H1 a S1 rel1 st1 d1 g1 => ?_) exc
  split at g1
  · cases d1
    exact ⟨_, rfl, (ret.mono st1).now rel1 Din g1⟩
  · exact g1.elim
end

/-! ### methods -/
abbrev FM := Store → Dt → List Dt → OK1 → Prop
def SimM (K : PySem.W.Frag) (r : V → List V → Hp → VK → Prop) (g : FM) : Prop := ∀ x xs a as S H Q k, Rel K S H → D K S H a x → DAll K S H as xs → g S a as k → Ret K S H k Q → r x xs H Q
@[reducible] def xM (ty : Store → Dt → Prop) (g : FM) (da : XTE) (dr : XTA) : XTE := fun ρ S Φ Ω => da ρ S (fun a S1 => ty S1 a ∧ dr ρ S1 (fun as S2 => g S2 a as Φ) Ω) Ω
def tyS (_ : Store) : Dt → Prop | .str _ => True | _ => False
def tyL (S : Store) : Dt → Prop | .lst _ => True | .ref p => ∃ xs, S p = some (.lst xs) | _ => False
section
variable {X : Cx} {W : WX} {o e : Expr} {es : List Expr} {da : XTE} {dr : XTA} {apos cpos pos p : Pos} {K : PySem.W.Frag} {T id : String} {name : Str} {r : V → List V → Hp → VK → Prop} {g : FM} {ty : Store → Dt → Prop}
def TyOk (K : PySem.W.Frag) (T : String) (ty : Store → Dt → Prop) : Prop := ∀ S H a x, Rel K S H → D K S H a x → ty S a → tyV K T x H
theorem tyS_ok : TyOk K "str" tyS := fun S H a x rel d h => by
  cases a with
  | str y => cases d; rfl
  | _ => exact h.elim
theorem tyL_ok : TyOk K "list" tyL := fun S H a x rel d h => by
  cases a with
  | lst xs => obtain ⟨p, vs, rfl, f, g⟩ := d; exact .inl ⟨rfl, vs, f.sq⟩
  | ref p =>
    obtain ⟨xs, e⟩ := h
    cases d
    obtain ⟨vs, e2, _⟩ := rel p _ e
    exact .inl ⟨rfl, vs, .inl (.inl e2)⟩
  | _ => exact h.elim
theorem de_m (pa : PlainAttrs T) (slot : Slot T name id) (hty : typeOf (.builtin id) = pure (.type "method_descriptor")) (hm : MtR X id r) (hs : SimM X.K r g) (ht : TyOk X.K T ty) (ho : DE X W o da) (ha : DA X W (e :: es) dr)
    (hbase : attributeBase o name X.env (eval o X.env) = eval o X.env := by rfl)
    (hfew : ((backTo cpos (starEach (e :: es) X.env)).all (fun x => !x.1) && (backToKw cpos (keywordEach [] X.env)).all (fun x => x.1.isSome)
      && decide ((e :: es).length + ([] : List Keyword).length + (if ([] : List Keyword).isEmpty then 0 else 1) < 30)) = true := by rfl)
    (hline : (apos.endLine == cpos.line) = true := by rfl) (hst : starEach (e :: es) X.env = (false, eval e X.env) :: starEach es X.env := by rfl) (hplain : (backTo cpos (starEach es X.env)).any (·.1) = false := by rfl) :
    DE X W (.Call (.Attribute o name apos) (e :: es) [] cpos) (xM ty g da dr) := by
  obtain ⟨t, p1, s1⟩ := ho
  obtain ⟨t2, p2, s2⟩ := ha
  refine ⟨_, pe_bm pa slot hty hm p1 p2 hbase hfew hline hst hplain, fun σ H ρ S Q Φ Ω rel env hd ret exc => ?_⟩
  refine s1 σ H ρ S _ _ Ω rel env hd (fun x H1 a S1 rel1 st1 d1 g1 => ⟨ht S1 H1 a x rel1 d1 g1.1, ?_⟩) exc
  refine s2 σ H1 ρ S1 _ _ Ω rel1 (env.step st1) g1.2 (fun vs H2 as S2 rel2 st2 d2 g2 => ?_) (exc.mono st1)
  exact hs x vs a as S2 H2 Q _ rel2 (D.step st2 _ d1) d2 g2 (ret.mono (st1.trans st2))
theorem de_m0 (pa : PlainAttrs T) (slot : Slot T name id) (hty : typeOf (.builtin id) = pure (.type "method_descriptor")) (hm : MtR X id r) (hs : SimM X.K r g) (ht : TyOk X.K T ty) (ho : DE X W o da)
    (hbase : attributeBase o name X.env (eval o X.env) = eval o X.env := by rfl) (hline : (apos.endLine == cpos.line) = true := by rfl) :
    DE X W (.Call (.Attribute o name apos) [] [] cpos) (xM ty g da xNil) := by
  obtain ⟨t, p1, s1⟩ := ho
  refine ⟨_, pe_bm0 pa slot hty hm p1 hbase hline, fun σ H ρ S Q Φ Ω rel env hd ret exc => ?_⟩
  refine s1 σ H ρ S _ _ Ω rel env hd (fun x H1 a S1 rel1 st1 d1 g1 => ⟨ht S1 H1 a x rel1 d1 g1.1, ?_⟩) exc
  exact hs x [] a [] S1 H1 Q _ rel1 d1 rfl g1.2 (ret.mono st1)
/-- xs.append(d) of a list of the store -/
def gApp : FM := fun S a as k => match a, as with
  | .ref p, [d] => ∃ xs, S p = some (.lst xs) ∧ xs.length < sizeLine ∧ k .non (su S p (.lst (xs ++ [d])))
  | _, _ => False
theorem simApp : SimM K rAppend gApp := by
  intro x xs a as S H Q k rel dx d h ret
  unfold gApp at h
  split at h
  · rename_i p d0
    obtain ⟨v, rfl, dv⟩ := d.one
    cases dx
    obtain ⟨ys, e, hz, h⟩ := h
    obtain ⟨vs, e2, g⟩ := rel p _ e
    have ne : S p ≠ none := by rw [e]; intro z; cases z
    refine ⟨_, vs, v, rfl, rfl, e2, by rw [← g.length]; exact hz, ?_⟩
    have st : Step S H (su S p (.lst (ys ++ [d0]))) (upd H p (.lst (vs ++ [v]))) := Step.put (.inl ne)
    exact ret _ _ .non _ (rel.put (m := .lst (ys ++ [d0])) (.inl ne) ⟨_, upd_same, (DAll.step st _ g).snoc (D.step st _ dv)⟩) st rfl h
  · exact h.elim
theorem de_append (ho : DE X W o da) (ha : DA X W [e] dr) (hbase : attributeBase o "append" X.env (eval o X.env) = eval o X.env := by rfl)
    (hfew : ((backTo cpos (starEach [e] X.env)).all (fun x => !x.1) && (backToKw cpos (keywordEach [] X.env)).all (fun x => x.1.isSome)
      && decide ([e].length + ([] : List Keyword).length + (if ([] : List Keyword).isEmpty then 0 else 1) < 30)) = true := by rfl)
    (hline : (apos.endLine == cpos.line) = true := by rfl) (hst : starEach [e] X.env = (false, eval e X.env) :: starEach [] X.env := by rfl) (hplain : (backTo cpos (starEach [] X.env)).any (·.1) = false := by rfl) :
    DE X W (.Call (.Attribute o "append" apos) [e] [] cpos) (xM tyL gApp da dr) :=
  de_m PySem.F.plainAttrs_list PySem.F.slot_list_append PySem.F.type_list_append mt_append simApp tyL_ok ho ha hbase hfew hline hst hplain
/-- sep.join(xs) -/
def gJoin (S : Store) (a b : Dt) (k : OK1) : Prop := match a with
  | .str s => Sv S b fun xs => xs.all isSt = true ∧ (xs.map fun d => (sD d).length).sum + xs.length * s.length ≤ 16777216 ∧ k (.str (Txt.join s (xs.map sD))) S
  | _ => False
@[reducible] def xJoin (da de : XTE) : XTE := fun ρ S Φ Ω => da ρ S (fun a S1 => tyS S1 a ∧ de ρ S1 (fun b S2 => gJoin S2 a b Φ) Ω) Ω
theorem de_join {de : XTE} (ho : DE X W o da) (he : DE X W e de) (hs : starEach [e] X.env = [(false, eval e X.env)] := by rfl) (hbase : attributeBase o "join" X.env (eval o X.env) = eval o X.env := by rfl) (hline : (apos.endLine == cpos.line) = true := by rfl) :
    DE X W (.Call (.Attribute o "join" apos) [e] [] cpos) (xJoin da de) := by
  obtain ⟨t, p1, s1⟩ := ho
  obtain ⟨t2, p2, s2⟩ := he
  refine ⟨_, pe_join p1 p2 hs hbase hline, fun σ H ρ S Q Φ Ω rel env hd ret exc => ?_⟩
  refine s1 σ H ρ S _ _ Ω rel env hd (fun x H1 a S1 rel1 st1 d1 g1 => ?_) exc
  obtain ⟨ty, g1⟩ := g1
  cases a with
  | str y =>
    cases d1
    refine ⟨⟨y, rfl⟩, ?_⟩
    refine s2 σ H1 ρ S1 _ _ Ω rel1 (env.step st1) g1 (fun z H2 b S2 rel2 st2 d2 g2 => ?_) (exc.mono st1)
    obtain ⟨xs, vs, p, rfl, sq, g, h1, h2, h3⟩ := g2.out rel2 d2
    have e := g.sts h1
    subst e
    refine ⟨y, p, xs.map sD, rfl, rfl, sq, ?_, (ret.mono (st1.trans st2)).now rel2 Dst h3⟩
    rw [List.map_map, List.length_map]
    exact h2
  | _ => exact ty.elim
/-- n.bit_length() -/
@[reducible] def xBits (da : XTE) : XTE := fun ρ S Φ Ω => da ρ S (fun a S1 => match a with | .int i => Φ (.int (Builtin.Int.intBits i : Nat)) S1 | _ => False) Ω
theorem de_bits (ho : DE X W o da) (hbase : attributeBase o "bit_length" X.env (eval o X.env) = eval o X.env := by rfl) (hline : (apos.endLine == cpos.line) = true := by rfl) : DE X W (.Call (.Attribute o "bit_length" apos) [] [] cpos) (xBits da) := by
  obtain ⟨t, p1, s1⟩ := ho
  refine ⟨_, pe_bits p1 hbase hline, fun σ H ρ S Q Φ Ω rel env hd ret exc => ?_⟩
  refine s1 σ H ρ S _ _ Ω rel env hd (fun x H1 a S1 rel1 st1 d1 g1 => ?_) exc
  split at g1
  · cases d1
    exact ⟨_, rfl, (ret.mono st1).now rel1 Din g1⟩
  · exact g1.elim
end

/-! ### isinstance with built-in classes -/
def tyN (S : Store) : Dt → (String → Prop) → Prop
  | .non, k => k "NoneType"
  | .bl _, k => k "bool"
  | .int _, k => k "int"
  | .str _, k => k "str"
  | .lst _, k => k "list"
  | .tup _, k => k "tuple"
  | .ref p, k => ∃ xs, S p = some (.lst xs) ∧ k "list"
  | _, _ => False
def isT (a n : String) : Bool := a == n || (a == "bool" && n == "int")
theorem kit_tab : ∀ a ∈ ["NoneType", "bool", "int", "str", "list", "tuple"], ∀ n ∈ ["bool", "int", "str", "list", "tuple"], kitB a n = some (isT a n) := by decide +kernel
def okN (n : String) : Bool := ["bool", "int", "str", "list", "tuple"].contains n
def gIsi : FC := fun S as k => match as with
  | [a, .ty n] => okN n = true ∧ tyN S a fun t => k (.bl (isT t n)) S
  | [a, .tup [.ty n, .ty m]] => (okN n = true ∧ okN m = true) ∧ tyN S a fun t => k (.bl (isT t n || isT t m)) S
  | _ => False
section
variable {K : PySem.W.Frag} {S : Store} {H : Hp}
theorem tyN.out (rel : Rel K S H) {a : Dt} {x : V} {k : String → Prop} (d : D K S H a x) (h : tyN S a k) : ∃ t, TyX K H x (.type t) ∧ t ∈ ["NoneType", "bool", "int", "str", "list", "tuple"] ∧ k t := by
  cases a with
  | non => cases d; exact ⟨_, .base .non, by simp, h⟩
  | bl b => cases d; exact ⟨_, .base (.bl b), by simp, h⟩
  | int b => cases d; exact ⟨_, .base (.int b), by simp, h⟩
  | str b => cases d; exact ⟨_, .base (.str b), by simp, h⟩
  | lst xs => obtain ⟨p, vs, rfl, f, g⟩ := d; exact ⟨_, .base (.lst f.2), by simp, h⟩
  | tup xs =>
    obtain ⟨p, vs, rfl, f, g⟩ := d
    rcases f with ⟨_, f⟩ | ⟨o, its, n, f1, f2, _⟩
    · exact ⟨_, .base (.tup f), by simp, h⟩
    · exact ⟨_, .kTuple f1 f2, by simp, h⟩
  | ref p =>
    obtain ⟨xs, e, h⟩ := h
    cases d
    obtain ⟨vs, e2, _⟩ := rel p _ e
    exact ⟨_, .base (.lst e2), by simp, h⟩
  | _ => exact h.elim
theorem kit_of2 {t n : String} (ht : t ∈ ["NoneType", "bool", "int", "str", "list", "tuple"]) (hn : okN n = true) : PySem.W.kitOne K (.type t) (.type n) = some (isT t n) :=
  kit_ty (kit_tab t ht n (by unfold okN at hn; exact List.contains_iff_mem.mp hn))
theorem simIsi : SimC K (fun xs H Q => (rIsi K xs H Q ∨ rIsiT K xs H Q) ∨ rIsiK K xs H Q) gIsi := by
  intro xs as S H Q k rel d h ret
  unfold gIsi at h
  split at h
  · obtain ⟨v, w, rfl, d1, d2⟩ := d.two
    obtain ⟨h0, h⟩ := h
    obtain ⟨t, ty, mt, h⟩ := h.out rel d1
    cases d2
    exact .inl (.inl ⟨v, _, _, _, _, rfl, .ty _, ty, kit_of2 mt h0, ret.now rel Dbl h⟩)
  · obtain ⟨v, w, rfl, d1, d2⟩ := d.two
    obtain ⟨⟨h0, h1⟩, h⟩ := h
    rename_i a n m
    obtain ⟨t, ty, mt, h⟩ := h.out rel d1
    have ka : PySem.W.kitAny K (.type t) [.type n, .type m] = some (isT t n || isT t m) := by
      refine kitAny_cons (kit_of2 mt h0) (fun e => ?_) (fun e => by rw [e]; rfl)
      refine kitAny_cons (kit_of2 mt h1) (fun e2 => ?_) (fun e2 => by rw [e2, Bool.or_true])
      rw [e, e2]; rfl
    obtain ⟨p, vs, rfl, f, g⟩ := d2
    obtain ⟨u1, u2, rfl, g1, g2⟩ := g.two
    cases g1; cases g2
    rcases f with ⟨_, f⟩ | ⟨o, its, l, f1, f2, f3, _, f5⟩
    · exact .inl (.inr ⟨v, p, _, _, _, _, rfl, f, .cons (.ty n) (.cons (.ty m) .nil), ty, ka, ret.now rel Dbl h⟩)
    · have eu := ClsV.all (.cons (.ty n) (.cons (.ty m) .nil)) f5
      obtain ⟨oc, od, dt, sl⟩ := o
      simp only at f2 f3
      subst f2 f3
      refine .inr ⟨v, p, od, [.type n, .type m], l, sl, _, _, rfl, ?_, ty, ka, ret.now rel Dbl h⟩
      rw [f1, show its = ([.type n, .type m] : List Value).toArray from by rw [← eu]]
  · exact h.elim
end
section
variable {X : Cx} {W : WX} {e : Expr} {es : List Expr} {dr : XTA} {p pos : Pos}
theorem de_isi (hm : X.mg "isinstance" = none) (h : DA X W (e :: es) dr) (hg : Gl X "isinstance" := by rfl) (he : starEach (e :: es) X.env = (false, eval e X.env) :: starEach es X.env := by rfl) (hpl : (backTo pos (starEach es X.env)).any (·.1) = false := by rfl) :
    DE X W (.Call (.Name "isinstance" p) (e :: es) [] pos) (xCB gIsi dr) := de_callB ((call_isi.or call_isiT).or call_isiK) simIsi hm (by decide +kernel) h hg (by decide) (by decide) he hpl
/-- a built-in class as a value -/
theorem de_ty {x : Str} {n : String} {pos : Pos} (hm : X.mg x = none) (hv : bootBuiltins x = some (.type n)) (hg : Gl X x := by rfl) (hn : x ≠ "__name__" := by decide) (hdb : (x == ("__debug__" : Str)) = false := by decide) : DE X W (.Name x pos) (xC (.ty n)) :=
  de_bltn hm hv (v := .ty n) rfl (fun _ _ => rfl) hg hn hdb
end

/-! ### keywords -/
section
variable {X : Cx} {W : WX} {e : Expr} {es : List Expr} {da : XTE} {dr dk : XTA} {kws : List Keyword} {p pos : Pos} {k j : Nat} {f : Addr} {fd : FuncData} {ps : List Str} {R : Fsp} {x nm : Str} {kpos : Pos}
def DKw (X : Cx) (W : WX) (kws : List Keyword) (d : XTA) : Prop := ∃ t, PK X kws t ∧ SimA X.K W t d
theorem dk_nil : DKw X W [] xNil := ⟨_, pk_nil, fun σ H ρ S Q Φ Ω rel env h ret exc => ret [] H [] S rel Step.refl rfl h⟩
theorem dk_cons (h : DE X W e da) (g : DKw X W kws dk) : DKw X W (⟨nm, e, kpos⟩ :: kws) (xCons da dk) := let ⟨_, h1, s1⟩ := h; let ⟨_, h2, s2⟩ := g; ⟨_, pk_cons h1 h2, simCons s1 s2⟩
theorem run_fnNS {CX : CXT} {n : Nat} {ks : List Str} {sp : Sp} {E : XK} {g : List Value → List Value → List Value} {gV : List V → List V → List V} {pins : List (Addr × Obj)} {σ : St} {H : Hp} {s : Shared} {Q : VK} {us ws : List Value} {vs zs : List V} (F : FnOk X.prog X.w X.K X.mg X.base CX k f fd ps sp) (hr : Room k X.A) (hb : KBn X.K fd ps n ks g gV) (hx : PassesAt CX X σ E)
    (I : Inv X pins σ H s) (r : Vals vs us) (rz : Vals zs ws) (l1 : vs.length = n) (l2 : zs.length = ks.length) (h : sp (gV vs zs) H Q E) : wpAny (model X.prog X.w) X.A (call (.ref f) us (ks.zip ws)) (EP X pins σ Q) X.xe s := by
  have r2 := hb.rel r rz
  refine wpAny_call (codeAny_mono (F.run X.A X.stack s H ⟨us, ks.zip ws⟩ (g us ws) (gV vs zs) Q E hr I.env0 (hb.to s us ws I.kIn (r.length.symm.trans l1) (rz.length.symm.trans l2)) r2 h) fun r s' hq => ?_)
  cases r with
  | error e => exact hx pins H s e s' I hq
  | ok fl =>
    cases fl with
    | ret u => exact I.after hq
    | next => exact False.elim hq
    | brk => exact False.elim hq
    | cont => exact False.elim hq
/-- f(a, .., k = v, ..): n written values, the keywords ks; gD puts them into the parameters' order -/
theorem de_callK {n : Nat} {ks : List Str} {g : List Value → List Value → List Value} {gV : List V → List V → List V} {gD : List Dt → List Dt → List Dt} (c : Cxt X W k) (F : FnD X.prog X.w X.K X.mg X.base j f fd ps R) (hj : j ≤ k) (hm : X.mg x = some (.ref f)) (hk : PySem.W.keepIn X.K (.ref f) = true) (hb : KBn X.K fd ps n ks g gV)
    (hgd : ∀ S H as bs vs zs, as.length = n → bs.length = ks.length → DAll X.K S H as vs → DAll X.K S H bs zs → DAll X.K S H (gD as bs) (gV vs zs)) (h : DA X W es dr) (hkw : DKw X W kws dk) (hg : Gl X x := by rfl) (hdb : (x == ("__debug__" : Str)) = false := by decide)
    (hall : (backToKw pos (keywordEach kws X.env)).all (·.1.isSome) = true := by rfl) (hks : (backToKw pos (keywordEach kws X.env)).filterMap (·.1) = ks := by rfl)
    (hcw : X.K.In X.base → ∀ {first : List Value} {Q : Value → Shared → Prop} {s : Shared}, wpAny (model X.prog X.w) X.A (spliced (backTo pos (starEach es X.env))) (fun us s1 => wpAny (model X.prog X.w) X.A (evalAll ((backToKw pos (keywordEach kws X.env)).map (·.2))) (fun ws s2 => X.K.In s2.heap ∧ wpAny (model X.prog X.w) X.A (call (.ref f) (first ++ us) ((backToKw pos (keywordEach kws X.env)).filterMap (·.1) |>.zip ws)) Q X.xe s2) X.xe s1) X.xe s →
      wpAny (model X.prog X.w) X.A (callWith pos (.ref f) first (backTo pos (starEach es X.env)) (backToKw pos (keywordEach kws X.env))) Q X.xe s) :
    DE X W (.Call (.Name x p) es kws pos) (xCallK R gD n ks.length dr dk) := by
  obtain ⟨t, p1, s1⟩ := h
  obtain ⟨t2, p2, s2⟩ := hkw
  refine ⟨fun σ H Q => t σ H fun vs H1 => t2 σ H1 fun zs H2 => vs.length = n ∧ zs.length = ks.length ∧ spOf X.K R (gV vs zs) H2 Q (WE W σ), ⟨fun pins s σ H Q I h => ?_⟩, fun σ H ρ S Q Φ Ω rel env hd ret exc => ?_⟩
  · refine wpAny_Call_Name_kw (ld_glob I hg hm ?_ hdb)
    refine hcw I.ok.mod.kin (first := []) (thn (p1.run pos pins s σ H _ I h) fun us s1 ⟨vs, H1, I1, r, q⟩ => ?_)
    refine thn (p2.run pos pins s1 σ H1 _ I1 q) fun ws s2 ⟨zs, H2, I2, rz, l1, l2, q2⟩ => ⟨I2.kIn, ?_⟩
    rw [hks]
    exact run_fnNS F (c.hr.mono hj) hb (passAt c.tk σ) I2 r rz l1 l2 q2
  · refine s1 σ H ρ S _ _ Ω rel env hd (fun vs H1 as S1 rel1 st1 d1 g1 => ?_) exc
    refine s2 σ H1 ρ S1 _ _ Ω rel1 (env.step st1) g1 (fun zs H2 bs S2 rel2 st2 d2 g2 => ?_) (exc.mono st1)
    obtain ⟨l1, l2, g2⟩ := g2
    exact ⟨by rw [← d1.length]; exact l1, by rw [← d2.length]; exact l2, _, S2, Φ, Ω, rel2, hgd S2 H2 as bs vs zs l1 l2 (DAll.step st2 _ d1) d2, g2, ret.mono (st1.trans st2), exc.mono (st1.trans st2)⟩
end
end DL

set_option Elab.async false
set_option linter.all false
set_option maxRecDepth 100000
set_option maxHeartbeats 4000000
/-! The data layer: comprehension targets, keyword calls, the law's end. -/
namespace DL
open PySem PySem.Spec PyProof.Rows L2

/-! ### targets of comprehensions -/
section
variable {X : Cx} {scope : Scope} {vs : List Nat} {pos : Pos}
theorem dgx_name {i : Nat} {x : Str} (hN : X.N.Nodup) (hi : ∀ (s : Shared) (H : Hp) (C : Addr) (cl : List (Str × Addr)) (fp : List Addr), (X.blk s H scope (compEnvC scope cl C X.env) fp).N[i]? = some x)
    (hx : ∀ (s : Shared) (H : Hp) (C : Addr) (cl : List (Str × Addr)) (fp : List Addr), Loc (X.blk s H scope (compEnvC scope cl C X.env) fp).env.scope x)
    (hf : ∀ (s : Shared) (H : Hp) (C : Addr) (cl : List (Str × Addr)) (fp : List Addr), (X.blk s H scope (compEnvC scope cl C X.env) fp).fn x = true ∨ (X.blk s H scope (compEnvC scope cl C X.env) fp).env.scope.names.lookup x = some .local) (hv : i ∈ vs) : DGx X scope (.Name x pos) vs (gName i) (xgN i) :=
  ⟨fun s H C cl fp => pg_name hN (hi s H C cl fp) (hx s H C cl fp) (hf s H C cl fp), simgN, tgok_name hv⟩
structure DGxs (X : Cx) (scope : Scope) (ts : List Expr) (vs : List Nat) (g : TGs) (dg : XTGs) : Prop where
  pg : ∀ (s : Shared) (H : Hp) (C : Addr) (cl : List (Str × Addr)) (fp : List Addr), PGs (X.blk s H scope (compEnvC scope cl C X.env) fp) ts g
  sim : SimGs X.K g dg
  ok : TgsOk g vs
  mono : ∀ v σ H Q Q', (∀ σ' H', Q σ' H' → Q' σ' H') → g v σ H Q → g v σ H Q'
structure DGm (X : Cx) (scope : Scope) (tg : Expr) (vs : List Nat) (g : TG) (dg : XTG) : Prop where
  x : DGx X scope tg vs g dg
  mono : ∀ v σ H Q Q', (∀ σ' H', Q σ' H' → Q' σ' H') → g v σ H Q → g v σ H Q'
theorem dgm_name {i : Nat} {x : Str} {tg : Expr} {dg : XTG} (h : DGx X scope tg vs (gName i) dg) : DGm X scope tg vs (gName i) dg := ⟨h, fun v σ H Q Q' m q => m _ _ q⟩
theorem dgxs_nil : DGxs X scope [] vs gNil xgNil :=
  ⟨fun _ _ _ _ _ => pgs_nil, fun ws as σ H ρ S Q Φ rel env d h nx => by
    unfold xgNil at h
    split at h
    · cases d; exact ⟨rfl, nx σ H ρ S rel Step.refl env h⟩
    · exact h.elim, tgsok_nil, fun v σ H Q Q' m q => ⟨q.1, m _ _ q.2⟩⟩
theorem dgxs_cons {e : Expr} {es : List Expr} {t : TG} {u : TGs} {g : XTG} {r : XTGs} (h : DGm X scope e vs t g) (k : DGxs X scope es vs u r)
    (hs : ∀ (s : Shared) (H : Hp) (C : Addr) (cl : List (Str × Addr)) (fp : List Addr), (assignEach (e :: es) (X.blk s H scope (compEnvC scope cl C X.env) fp).env).map (·.2) = assign e (X.blk s H scope (compEnvC scope cl C X.env) fp).env :: (assignEach es (X.blk s H scope (compEnvC scope cl C X.env) fp).env).map (·.2) := by intro _ _ _ _ _; rfl) : DGxs X scope (e :: es) vs (gCons t u) (xgCons g r) :=
  ⟨fun s H C cl fp => pgs_cons (h.x.pg s H C cl fp) (k.pg s H C cl fp) (hs s H C cl fp), fun ws as σ H ρ S Q Φ rel env d q nx => by
    unfold xgCons at q
    split at q
    · obtain ⟨v, w, rfl, dv, dw⟩ := d
      refine ⟨v, w, rfl, h.x.sim v _ σ H ρ S _ _ rel env dv q fun σ' H' ρ' S' rel' st' env' h' => ?_⟩
      exact k.sim w _ σ' H' ρ' S' _ _ rel' env' (DAll.step st' _ dw) h' (nx.mono st')
    · exact q.elim, tgsok_cons h.mono h.x.ok k.ok, fun v σ H Q Q' m ⟨a, b, e, q⟩ => ⟨a, b, e, h.mono _ _ _ _ _ (fun σ' H' q' => k.mono _ _ _ _ _ m q') q⟩⟩
theorem dgx_tup {es : List Expr} {k n : Nat} {t : TGs} {r : XTGs} (hc : X.calm = true) (h : DGxs X scope es vs t r)
    (hn : ∀ (s : Shared) (H : Hp) (C : Addr) (cl : List (Str × Addr)) (fp : List Addr), (assignEach es (X.blk s H scope (compEnvC scope cl C X.env) fp).env).length = n := by intro _ _ _ _ _; rfl)
    (hst : ∀ (s : Shared) (H : Hp) (C : Addr) (cl : List (Str × Addr)) (fp : List Addr), (assignEach es (X.blk s H scope (compEnvC scope cl C X.env) fp).env).findIdx? (·.1) = none := by intro _ _ _ _ _; rfl) : DGx X scope (.Tuple es k pos) vs (fun v σ H Q => gTup X.K n t v σ H Q ∨ gLst X.K n t v σ H Q) (xgTup n r) := by
  refine ⟨fun s H0 C cl fp => ⟨fun pins s' σ H v u Q I rv hw => ?_⟩, fun v a σ H ρ S Q Φ rel env d h' nx => ?_, fun v σ H Q q => ?_⟩
  · have q1 := pg_tup (k := k) (pos := pos) (show (X.blk s H0 scope (compEnvC scope cl C X.env) fp).calm = true from hc) (h.pg s H0 C cl fp) (hn s H0 C cl fp) (hst s H0 C cl fp)
    have q2 := pg_lst (k := k) (pos := pos) (show (X.blk s H0 scope (compEnvC scope cl C X.env) fp).calm = true from hc) (h.pg s H0 C cl fp) (hn s H0 C cl fp) (hst s H0 C cl fp)
    rcases hw with hw | hw
    · exact q1.run pins s' σ H v u Q I rv hw
    · exact q2.run pins s' σ H v u Q I rv hw
  · obtain ⟨xs, ws, p, rfl, sq, g, hl, h'⟩ := h'.out rel d
    have z := h.sim ws xs σ H ρ S Q Φ rel env g h' nx
    have hl' : ws.length = n := by rw [← g.length]; exact hl
    rcases sq with sq | sq
    · exact .inr ⟨p, ws, rfl, sq, hl', z⟩
    · exact .inl ⟨p, ws, rfl, sq, hl', z⟩
  · rcases q with ⟨a, xs, e, sq, hl, q⟩ | ⟨a, xs, e, sq, hl, q⟩
    · exact .inl ⟨a, xs, e, sq, hl, h.ok _ _ _ _ q⟩
    · exact .inr ⟨a, xs, e, sq, hl, h.ok _ _ _ _ q⟩
end

/-! ### keyword calls -/
section
variable {X : Cx} {W : WX} {e : Expr} {es : List Expr} {da : XTE} {dr dk : XTA} {kws : List Keyword} {p pos : Pos} {k j : Nat} {f : Addr} {fd : FuncData} {ps : List Str} {R : Fsp} {x : Str}
/-- how a keyword call binds: in values, and in data -/
structure KBd (K : PySem.W.Frag) (fd : FuncData) (ps : List Str) (n : Nat) (ks : List Str) (gD : List Dt → List Dt → List Dt) : Prop where
  ex : ∃ (g : List Value → List Value → List Value) (gV : List V → List V → List V), KBn K fd ps n ks g gV ∧ ∀ S H as bs vs zs, as.length = n → bs.length = ks.length → DAll K S H as vs → DAll K S H bs zs → DAll K S H (gD as bs) (gV vs zs)
theorem de_callK1 {n : Nat} {ks : List Str} {gD : List Dt → List Dt → List Dt} (c : Cxt X W k) (F : FnD X.prog X.w X.K X.mg X.base j f fd ps R) (hj : j ≤ k) (hm : X.mg x = some (.ref f)) (hk : PySem.W.keepIn X.K (.ref f) = true) (hb : KBd X.K fd ps n ks gD) (h : DA X W (e :: es) dr) (hkw : DKw X W kws dk) (hg : Gl X x := by rfl) (hdb : (x == ("__debug__" : Str)) = false := by decide)
    (hall : (backToKw pos (keywordEach kws X.env)).all (·.1.isSome) = true := by rfl) (hks : (backToKw pos (keywordEach kws X.env)).filterMap (·.1) = ks := by rfl) (he : starEach (e :: es) X.env = (false, eval e X.env) :: starEach es X.env := by rfl)
    (hpl : ((backTo pos (starEach (e :: es) X.env)).any (·.1) || (backToKw pos (keywordEach kws X.env)).any (·.1.isNone)) = false := by rfl) : DE X W (.Call (.Name x p) (e :: es) kws pos) (xCallK R gD n ks.length dr dk) := by
  obtain ⟨g, gV, hb, hgd⟩ := hb.ex
  exact de_callK c F hj hm hk hb hgd h hkw hg hdb hall hks fun kin {first Q s} hh => PySem.W.callWith_KW kin hk hall hh hpl he
theorem de_callK0 {ks : List Str} {gD : List Dt → List Dt → List Dt} (c : Cxt X W k) (F : FnD X.prog X.w X.K X.mg X.base j f fd ps R) (hj : j ≤ k) (hm : X.mg x = some (.ref f)) (hk : PySem.W.keepIn X.K (.ref f) = true) (hb : KBd X.K fd ps 0 ks gD) (hkw : DKw X W kws dk) (hg : Gl X x := by rfl) (hdb : (x == ("__debug__" : Str)) = false := by decide)
    (hall : (backToKw pos (keywordEach kws X.env)).all (·.1.isSome) = true := by rfl) (hks : (backToKw pos (keywordEach kws X.env)).filterMap (·.1) = ks := by rfl)
    (hpl : ((backTo pos (starEach [] X.env)).any (·.1) || (backToKw pos (keywordEach kws X.env)).any (·.1.isNone)) = false := by rfl) : DE X W (.Call (.Name x p) [] kws pos) (xCallK R gD 0 ks.length xNil dk) := by
  obtain ⟨g, gV, hb, hgd⟩ := hb.ex
  obtain ⟨t2, p2, s2⟩ := hkw
  refine ⟨fun σ H Q => t2 σ H fun zs H2 => zs.length = ks.length ∧ spOf X.K R (gV [] zs) H2 Q (WE W σ), ⟨fun pins s σ H Q I h => ?_⟩, fun σ H ρ S Q Φ Ω rel env hd ret exc => ?_⟩
  · refine wpAny_Call_Name_kw (ld_glob I hg hm ?_ hdb)
    refine PySem.W.callWith_KW0 I.ok.mod.kin hk hall (thn (p2.run pos pins s σ H _ I h) fun ws s2 ⟨zs, H2, I2, rz, l2, q2⟩ => ⟨I2.kIn, ?_⟩) hpl
    rw [hks]
    exact run_fnNS (us := []) (vs := []) F (c.hr.mono hj) hb (passAt c.tk σ) I2 .nil rz rfl l2 q2
  · refine s2 σ H ρ S _ _ Ω rel env hd (fun zs H2 bs S2 rel2 st2 d2 g2 => ?_) exc
    obtain ⟨l1, l2, g2⟩ := g2
    exact ⟨by rw [← d2.length]; exact l2, _, S2, Φ, Ω, rel2, hgd S2 H2 [] bs [] zs rfl l2 rfl d2, g2, ret.mono st2, exc.mono st2⟩
def pick {α : Type} (idx : List Nat) (l : List α) : List α := idx.filterMap (l[·]?)
theorem paired_get {α β : Type} {Rr : α → β → Prop} {as : List α} {us : List β} (h : Paired Rr as us) : ∀ i : Nat, (as[i]? = none ∧ us[i]? = none) ∨ ∃ a u, as[i]? = some a ∧ us[i]? = some u ∧ Rr a u := by
  induction h with
  | nil => exact fun i => .inl ⟨rfl, rfl⟩
  | cons r t ih =>
    intro i
    cases i with
    | zero => exact .inr ⟨_, _, rfl, rfl, r⟩
    | succ i => exact ih i
theorem paired_pick {α β : Type} {Rr : α → β → Prop} {as : List α} {us : List β} (h : Paired Rr as us) : ∀ idx : List Nat, Paired Rr (pick idx as) (pick idx us)
  | [] => .nil
  | i :: r => by
    have ih := paired_pick h r
    unfold pick at ih ⊢
    rw [List.filterMap_cons, List.filterMap_cons]
    rcases paired_get h i with ⟨e1, e2⟩ | ⟨a, u, e1, e2, q⟩
    · rw [e1, e2]; exact ih
    · rw [e1, e2]; exact .cons q ih
theorem paired_app {α β : Type} {Rr : α → β → Prop} : ∀ {as bs : List α} {us ws : List β}, Paired Rr as us → Paired Rr bs ws → Paired Rr (as ++ bs) (us ++ ws)
  | _, _, _, _, .nil, h => h
  | _, _, _, _, .cons r t, h => .cons r (paired_app t h)
theorem dall_paired {K : PySem.W.Frag} {S : Store} {H : Hp} : ∀ {as : List Dt} {vs : List V}, DAll K S H as vs → Paired (D K S H) as vs
  | [], _, h => by cases h; exact .nil
  | _ :: _, _, ⟨v, r, e, f, g⟩ => by subst e; exact .cons f (dall_paired g)
theorem paired_dall {K : PySem.W.Frag} {S : Store} {H : Hp} : ∀ {as : List Dt} {vs : List V}, Paired (D K S H) as vs → DAll K S H as vs
  | _, _, .nil => rfl
  | _, _, .cons r t => ⟨_, _, rfl, r, paired_dall t⟩
/-- every parameter is handed in: idx puts them in order -/
theorem kbd_of {K : PySem.W.Frag} {qual : Str} {st : Stmt} {n : Nat} {ks : List Str} (F : Fun K x qual st f fd) (idx : List Nat)
    (h : ∀ (kV doc pm : Value) (an : Option Addr) (cdv ct : Value) (us ws : List Value), us.length = n → ws.length = ks.length → bindArgs (PySem.W.fnOf x qual (defArgs st) (defBody st) (defScope st) .none kV doc pm an cdv ct) ⟨us, ks.zip ws⟩ = pure (ps.zip (pick idx (us ++ ws)))) : KBd K fd ps n ks (fun as bs => pick idx (as ++ bs)) := by
  obtain ⟨oc, od, kV, doc, pm, an, cdv, ct, osl, rfl, lk, hcd⟩ := F.ex
  exact ⟨fun us ws => pick idx (us ++ ws), fun vs zs => pick idx (vs ++ zs), ⟨fun s us ws _ l1 l2 => .of_eq (h kV doc pm an cdv ct us ws l1 l2), fun r1 r2 => paired_pick (paired_app r1 r2) idx⟩,
    fun S H as bs vs zs _ _ d1 d2 => paired_dall (paired_pick (paired_app (dall_paired d1) (dall_paired d2)) idx)⟩
end

/-! ### the law's end -/
def RLaw : Fsp := fun ds S Φ Ω => ∃ ns : List Int, ds = [.rl (ns.map .int)] ∧ ns.length ≤ 63 ∧ (S = fun _ => none) ∧ ∀ S', Φ (.bl true) S'
theorem dall_ints {K : PySem.W.Frag} {S : Store} {H : Hp} : ∀ ns : List Int, DAll K S H (ns.map .int) (ns.map V.int)
  | [] => rfl
  | n :: ns => ⟨.int n, ns.map V.int, rfl, rfl, dall_ints ns⟩
theorem law_sp (K : PySem.W.Frag) (H : Hp) (a : Addr) (ns : List Int) (hl : ns.length ≤ 63) (hs : SqL K H a (ns.map V.int)) : spOf K RLaw [.ref a] H (fun v _ => v = .bl true) fun _ _ _ => False := by
  refine ⟨[.rl (ns.map .int)], fun _ => none, fun d _ => d = .bl true, fun _ _ _ => False, (fun _ _ e => nomatch e), ⟨.ref a, [], rfl, ⟨a, ns.map V.int, rfl, ?_, dall_ints ns⟩, rfl⟩, ⟨ns, rfl, hl, rfl, fun _ => rfl⟩, fun v H' d S' _ _ dd e => by subst e; exact dd, fun _ _ _ _ _ _ _ _ z => z⟩
  rcases hs with h | h
  · exact .inl ⟨rfl, h⟩
  · exact .inr h
theorem law_cx {P : Program} {w : World} (H : Hp) (s : Shared) (e : Value) (s' : Shared) (h : L2.CX P w [] H s (fun _ _ _ => False) e s') : False := by
  obtain ⟨_, _, _, _, _, _, _, _, _, _, _, _, z⟩ := h
  exact z
/-! ### short words -/
def R1 (f : Dt → Store → OK1 → XK1 → Prop) : Fsp := fun ds S Φ Ω => ∃ a, ds = [a] ∧ f a S Φ Ω
def R2d (f : Dt → Dt → Store → OK1 → XK1 → Prop) : Fsp := fun ds S Φ Ω => ∃ a b, ds = [a, b] ∧ f a b S Φ Ω
def R3 (f : Dt → Dt → Dt → Store → OK1 → XK1 → Prop) : Fsp := fun ds S Φ Ω => ∃ a b c, ds = [a, b, c] ∧ f a b c S Φ Ω
def R4 (f : Dt → Dt → Dt → Dt → Store → OK1 → XK1 → Prop) : Fsp := fun ds S Φ Ω => ∃ a b c e, ds = [a, b, c, e] ∧ f a b c e S Φ Ω
section
variable {P : Program} {w : World} {K : PySem.W.Frag} {mg : Str → Option Value} {base : Heap} {x qual : Str} {st : Stmt} {f : Addr} {fd : FuncData} {N ps : List Str} {k : Nat} {d : XTS}
abbrev BodyD (P : Program) (w : World) (K : PySem.W.Frag) (mg : Str → Option Value) (base : Heap) (N : List Str) (qual : Str) (st : Stmt) (f : Addr) (k : Nat) (d : XTS) : Prop := ∀ (cdv : Value) (A : Around) (outer : List Env) (s : Shared) (H : Hp) (E : XK), Cxt (cxOf (L2.CX P w) P w K mg base N qual (defScope st) f cdv A outer s H E) (fun cls d _ H => E cls d H) k →
      DSs (cxOf (L2.CX P w) P w K mg base N qual (defScope st) f cdv A outer s H E) (fun cls d _ H => E cls d H) (defBody st) d
theorem fnD1 {g : Dt → Store → OK1 → XK1 → Prop} (F : Fun K x qual st f fd) (Sc : FnScope N ps (defScope st)) (hl : ps.length = 1) (hbody : BodyD P w K mg base N qual st f k d)
    (hR : ∀ a S Φ Ω, g a S Φ Ω → d (bodyEnds Φ) (fun c fs _ S => Ω c fs S) (startR N.length [a]) S) : FnD P w K mg base (k + 1) f fd ps (R1 g) :=
  fnD F Sc (fun ds S Φ Ω ⟨a, e, _⟩ => by rw [e, hl]; rfl) hbody fun ds S Φ Ω ⟨a, e, h⟩ => by subst e; exact hR a S Φ Ω h
theorem fnD2 {g : Dt → Dt → Store → OK1 → XK1 → Prop} (F : Fun K x qual st f fd) (Sc : FnScope N ps (defScope st)) (hl : ps.length = 2) (hbody : BodyD P w K mg base N qual st f k d)
    (hR : ∀ a b S Φ Ω, g a b S Φ Ω → d (bodyEnds Φ) (fun c fs _ S => Ω c fs S) (startR N.length [a, b]) S) : FnD P w K mg base (k + 1) f fd ps (R2d g) :=
  fnD F Sc (fun ds S Φ Ω ⟨a, b, e, _⟩ => by rw [e, hl]; rfl) hbody fun ds S Φ Ω ⟨a, b, e, h⟩ => by subst e; exact hR a b S Φ Ω h
theorem fnD3 {g : Dt → Dt → Dt → Store → OK1 → XK1 → Prop} (F : Fun K x qual st f fd) (Sc : FnScope N ps (defScope st)) (hl : ps.length = 3) (hbody : BodyD P w K mg base N qual st f k d)
    (hR : ∀ a b c S Φ Ω, g a b c S Φ Ω → d (bodyEnds Φ) (fun c fs _ S => Ω c fs S) (startR N.length [a, b, c]) S) : FnD P w K mg base (k + 1) f fd ps (R3 g) :=
  fnD F Sc (fun ds S Φ Ω ⟨a, b, c, e, _⟩ => by rw [e, hl]; rfl) hbody fun ds S Φ Ω ⟨a, b, c, e, h⟩ => by subst e; exact hR a b c S Φ Ω h
theorem fnD4 {g : Dt → Dt → Dt → Dt → Store → OK1 → XK1 → Prop} (F : Fun K x qual st f fd) (Sc : FnScope N ps (defScope st)) (hl : ps.length = 4) (hbody : BodyD P w K mg base N qual st f k d)
    (hR : ∀ a b c e S Φ Ω, g a b c e S Φ Ω → d (bodyEnds Φ) (fun c fs _ S => Ω c fs S) (startR N.length [a, b, c, e]) S) : FnD P w K mg base (k + 1) f fd ps (R4 g) :=
  fnD F Sc (fun ds S Φ Ω ⟨a, b, c, e', q, _⟩ => by rw [q, hl]; rfl) hbody fun ds S Φ Ω ⟨a, b, c, e', q, h⟩ => by subst q; exact hR a b c e' S Φ Ω h
theorem fnDL (F : Fun K x qual st f fd) (Sc : FnScope N ps (defScope st)) (hl : ps.length = 1) (hbody : BodyD P w K mg base N qual st f k d)
    (hR : ∀ ns : List Int, ns.length ≤ 63 → ∀ (Φ : OK1) (Ω : XK1), (∀ S', Φ (.bl true) S') → d (bodyEnds Φ) (fun c fs _ S => Ω c fs S) (startR N.length [.rl (ns.map .int)]) (fun _ => none)) : FnD P w K mg base (k + 1) f fd ps RLaw :=
  fnD F Sc (fun ds S Φ Ω ⟨a, e, _⟩ => by rw [e, hl]; rfl) hbody fun ds S Φ Ω ⟨ns, e, h1, h2, h3⟩ => by subst e h2; exact hR ns h1 Φ Ω h3
/-- a written global -/
def Gc (K : PySem.W.Frag) (mg : Str → Option Value) (x : Str) (d : Dt) : Prop := ∃ u v, mg x = some u ∧ RelV v u ∧ ∀ S H, D K S H d v
theorem de_gc {X : Cx} {W : WX} {x : Str} {d : Dt} {pos : Pos} (h : Gc X.K X.mg x d) (hg : Gl X x := by rfl) (hdb : (x == ("__debug__" : Str)) = false := by decide) : DE X W (.Name x pos) (xC d) := by
  obtain ⟨u, v, h1, h2, h3⟩ := h
  exact de_glob h1 h2 h3 hg hdb
end

theorem walkD {l : PySem.W.OpenLaw} {q : Program} {loose : List Str} {XP : (Str → Option Value) → Heap → Prop} {YP : World → Heap → Prop} {d : DefRec} {K : Params → PySem.W.Frag} {k : Nat} (hn : l.most = some 63) (hdf : d.params.defaults = []) (hr : Room k callerA)
    (hY : ∀ (w : World) (h : Heap), YP w h → (K w.params).In h)
    (F : ∀ (w : World) (mg : Str → Option Value) (fa : Addr) (h : Heap), (K w.params).In h → h.Ns mainGlobals mg → mg d.name = some (.ref fa) →
      ∃ fd : FuncData, (∀ (s : Shared) (u : Value), BindsTo s fd ⟨[u], []⟩ [("script", u)]) ∧ ∀ base : Heap, (K w.params).In base → base.Ns mainGlobals mg → FnD l.prog w (K w.params) mg base k fa fd ["script"] RLaw) :
    PySem.W.WalkO q loose XP YP l.row.toRowW d [] (fun f vs => PySem.call f vs) :=
  L2.walk_of (n := 63) (k := k) (x := "script") (CX := fun w => L2.CX l.prog w) (sp := fun w => spOf (K w.params) RLaw) hn (by decide) hdf hr hY F (fun w H a ns hl _ hS => law_sp (K w.params) H a ns hl hS) fun w H s e s' z => law_cx H s e s' z
end DL

set_option Elab.async false
set_option linter.all false
set_option maxRecDepth 100000
set_option maxHeartbeats 4000000
/-! The data layer: how readings are answered. -/
namespace DL
open PySem PySem.Spec PyProof.Rows L2
theorem br {b : Bool} {P Q : Prop} (h1 : b = true → P) (h2 : b = false → Q) : if b = true then P else Q := by
  cases b with
  | true => exact h1 rfl
  | false => exact h2 rfl
theorem brT {b : Bool} {P Q : Prop} (h : b = true) (h1 : P) : if b = true then P else Q := by subst h; exact h1
theorem brF {b : Bool} {P Q : Prop} (h : b = false) (h1 : Q) : if b = true then P else Q := by subst h; exact h1
theorem eqT {α : Type} [DecidableEq α] {a b : α} (h : (false != decide (a = b)) = true) : a = b := by simpa using h
theorem eqF {α : Type} [DecidableEq α] {a b : α} (h : (false != decide (a = b)) = false) : a ≠ b := by simpa using h
theorem neT {α : Type} [DecidableEq α] {a b : α} (h : (true != decide (a = b)) = true) : a ≠ b := by simpa using h
theorem neF {α : Type} [DecidableEq α] {a b : α} (h : (true != decide (a = b)) = false) : a = b := by simpa using h
theorem atI_at {α : Type} {xs : List α} {i : Int} {d : α} (h : 0 ≤ i) (e : xs[i.toNat]? = some d) : atI xs i = some d := by
  have hl : i.toNat < xs.length := by
    rcases Nat.lt_or_ge i.toNat xs.length with h | h
    · exact h
    · rw [List.getElem?_eq_none h] at e; cases e
  have : ixN xs.length i = some i.toNat := by
    unfold ixN
    simp only [h, if_true]
    simp [hl]; omega
  unfold atI
  rw [this]
  exact e

theorem su_comm {S : Store} {a b : Addr} {m n : MO} (h : a ≠ b) : su (su S a m) b n = su (su S b n) a m := by
  funext c
  unfold su
  by_cases e1 : c = b
  · subst e1
    rw [if_pos rfl, if_neg (fun e => h e.symm), if_pos rfl]
  · rw [if_neg e1, if_neg e1]
theorem sdel_su {S : Store} {p : Addr} {m : MO} (h : S p = none) : sdel (su S p m) p = S := by
  funext c
  unfold sdel su
  by_cases e : c = p
  · subst e; rw [if_pos rfl, h]
  · rw [if_neg e, if_neg e]
/-- a comprehension that leaves the store as it was: its invariant -/
def LcI (S : Store) (p : Addr) (P : Nat → List Dt → Prop) : Nat → List Dt → Store → Prop := fun i acc S' => S' = su S p (.lst acc) ∧ P i acc
theorem lc_y {S : Store} {p : Addr} {P : Nat → List Dt → Prop} {i : Nat} {acc : List Dt} {y : Dt} (h : P (i + 1) (acc ++ [y])) : su S p (.lst acc) p = some (.lst acc) ∧ LcI S p P (i + 1) (acc ++ [y]) (su (su S p (.lst acc)) p (.lst (acc ++ [y]))) := ⟨su_same, su_su, h⟩
theorem lc_n {S : Store} {p : Addr} {P : Nat → List Dt → Prop} {i : Nat} {acc : List Dt} (h : P (i + 1) acc) : LcI S p P (i + 1) acc (su S p (.lst acc)) := ⟨rfl, h⟩
theorem take_succ_get {α : Type} {xs : List α} {i : Nat} {d : α} (h : xs[i]? = some d) : xs.take (i + 1) = xs.take i ++ [d] := by
  rw [List.take_add_one, h]; rfl
theorem sIx_pos {n d : Nat} {v : Int} (h : 0 ≤ v) : HT.sIx n d (some v) = min v.toNat n := by
  show (if v < 0 then (v + (n : Int)).toNat else min v.toNat n) = _
  rw [if_neg (by omega)]
theorem cut_to {xs : List Dt} {n : Int} (h : 0 ≤ n) : cutL xs none (some n) = xs.take n.toNat := by
  unfold cutL
  rw [sIx_pos h, HT.sIx_none, List.drop_zero, Nat.sub_zero]
  rcases Nat.le_total n.toNat xs.length with q | q
  · rw [Nat.min_eq_left q]
  · rw [Nat.min_eq_right q, List.take_of_length_le (Nat.le_refl _), List.take_of_length_le q]
theorem cut_from {xs : List Dt} {n : Int} (h : 0 ≤ n) : cutL xs (some n) none = xs.drop n.toNat := by
  unfold cutL
  rw [sIx_pos h, HT.sIx_none]
  rcases Nat.le_total n.toNat xs.length with q | q
  · rw [Nat.min_eq_left q, List.take_of_length_le (by rw [List.length_drop]; omega)]
  · rw [Nat.min_eq_right q, List.drop_eq_nil_of_le (Nat.le_refl _), List.drop_eq_nil_of_le q, List.take_nil]
theorem cut_some {xs : List Dt} {n : Int} (h : (xs.length : Int) ≤ n) : cutL xs none (some n) = xs := by
  rw [cut_to (by omega), List.take_of_length_le (by omega)]
theorem sl_rl {S : Store} {xs ys : List Dt} {lo hi : Option Int} {k : OK1} (e : cutL xs lo hi = ys) (h : k (.lst ys) S) : fSl S (.rl xs) lo hi k := by subst e; exact h
theorem sl_lst {S : Store} {xs ys : List Dt} {lo hi : Option Int} {k : OK1} (e : cutL xs lo hi = ys) (h : k (.lst ys) S) : fSl S (.lst xs) lo hi k := by subst e; exact h
theorem sl_tup {S : Store} {xs ys : List Dt} {lo hi : Option Int} {k : OK1} (e : cutL xs lo hi = ys) (h : k (.tup ys) S) : fSl S (.tup xs) lo hi k := by subst e; exact h
theorem sl_str {S : Store} {z y : Str} {lo hi : Option Int} {k : OK1} (hz : z.length ≤ sizeLine) (e : cutS z lo hi = y) (h : k (.str y) S) : fSl S (.str z) lo hi k := by subst e; exact ⟨hz, h⟩
theorem sl_ref {S : Store} {p : Addr} {xs ys : List Dt} {lo hi : Option Int} {k : OK1} (hp : S p = some (.lst xs)) (e : cutL xs lo hi = ys) (h : k (.lst ys) S) : fSl S (.ref p) lo hi k := by subst e; exact ⟨xs, hp, h⟩
/-! texts as lists of code points -/
abbrev cl (x : Str) : List Nat := x.cps.toList
theorem cl_ext {x y : Str} (h : cl x = cl y) : x = y := by
  obtain ⟨⟨x⟩⟩ := x; obtain ⟨⟨y⟩⟩ := y
  have : x = y := h
  rw [this]
theorem cl_inj {x y : Str} : cl x = cl y ↔ x = y := ⟨cl_ext, fun e => by rw [e]⟩
theorem cl_len {x : Str} : x.length = (cl x).length := by
  obtain ⟨⟨x⟩⟩ := x; rfl
theorem cl_app {x y : Str} : cl (x ++ y) = cl x ++ cl y := by
  show (x.cps ++ y.cps).toList = _
  rw [Array.toList_append]
theorem len_app {x y : Str} : (x ++ y).length = x.length + y.length := by rw [cl_len, cl_len, cl_len, cl_app, List.length_append]
theorem cl_cut {z : Str} {lo hi : Option Int} : cl (cutS z lo hi) = ((cl z).drop (HT.sIx z.length 0 lo)).take (HT.sIx z.length z.length hi - HT.sIx z.length 0 lo) := by
  unfold cutS; rfl
theorem cl_cut_to {z : Str} {n : Int} (h : 0 ≤ n) : cl (cutS z none (some n)) = (cl z).take n.toNat := by
  rw [cl_cut, sIx_pos h, HT.sIx_none, List.drop_zero, Nat.sub_zero, cl_len]
  rcases Nat.le_total n.toNat (cl z).length with q | q
  · rw [Nat.min_eq_left q]
  · rw [Nat.min_eq_right q, List.take_of_length_le (Nat.le_refl _), List.take_of_length_le q]
theorem cl_cut_from {z : Str} {n : Int} (h : 0 ≤ n) : cl (cutS z (some n) none) = (cl z).drop n.toNat := by
  rw [cl_cut, sIx_pos h, HT.sIx_none, cl_len]
  rcases Nat.le_total n.toNat (cl z).length with q | q
  · rw [Nat.min_eq_left q, List.take_of_length_le (by rw [List.length_drop]; omega)]
  · rw [Nat.min_eq_right q, List.drop_eq_nil_of_le (Nat.le_refl _), List.drop_eq_nil_of_le q, List.take_nil]
theorem cl_rev {z : Str} : cl (revS z) = (cl z).reverse := by
  unfold revS; simp
theorem atI_ex {α : Type} {xs : List α} {i : Int} (h : 0 ≤ i) (h1 : i < xs.length) : ∃ d, atI xs i = some d ∧ d ∈ xs := by
  have q : i.toNat < xs.length := by omega
  exact ⟨xs[i.toNat], atI_at h (List.getElem?_eq_getElem q), List.getElem_mem q⟩
theorem join_eq (sep : Str) (l : List Str) : Txt.join sep l = Str.join sep l := PySem.StrLaws.glued_eq_join sep l
theorem cl_join_cons (sep x : Str) (y : Str) (l : List Str) : cl (Txt.join sep (x :: y :: l)) = cl x ++ cl sep ++ cl (Txt.join sep (y :: l)) := by
  rw [join_eq, join_eq]
  show cl (x ++ sep ++ Str.join sep (y :: l)) = _
  rw [cl_app, cl_app]
theorem cl_join1 (sep x : Str) : Txt.join sep [x] = x := by rw [join_eq]; rfl
theorem cl_join_nil (sep : Str) : cl (Txt.join sep []) = [] := by rw [join_eq]; rfl
theorem cl_join0 {sep : Str} (h : cl sep = []) : ∀ {l : List Str}, cl (Txt.join sep l) = (l.map cl).flatten
  | [] => cl_join_nil sep
  | [x] => by rw [cl_join1]; simp
  | x :: y :: l => by rw [cl_join_cons, cl_join0 h, h]; simp
theorem isSt_map (l : List Str) : (l.map Dt.str).all isSt = true := by rw [List.all_map]; exact List.all_eq_true.mpr fun _ _ => rfl
theorem sD_map (l : List Str) : (l.map Dt.str).map sD = l := by rw [List.map_map]; exact List.map_id'' (fun _ => rfl) l
theorem sDl_map (l : List Str) : (l.map Dt.str).map (fun d => (sD d).length) = l.map fun x => x.length := by rw [List.map_map]; rfl
theorem isIn_map (l : List Int) : (l.map Dt.int).all isIn = true := by rw [List.all_map]; exact List.all_eq_true.mpr fun _ _ => rfl
theorem iD_map (l : List Int) : (l.map Dt.int).map iD = l := by rw [List.map_map]; exact List.map_id'' (fun _ => rfl) l
theorem isBl_map (l : List Bool) : (l.map Dt.bl).all isBl = true := by rw [List.all_map]; exact List.all_eq_true.mpr fun _ _ => rfl
theorem tD_map (l : List Bool) : (l.map Dt.bl).map tD = l := by rw [List.map_map]; exact List.map_id'' (fun _ => rfl) l
theorem rngD_get {lo : Int} {n i : Nat} {d : Dt} (h : (rngD lo n)[i]? = some d) : d = .int (lo + i) ∧ i < n := by
  unfold rngD at h
  rw [List.getElem?_map] at h
  cases e : (List.range n)[i]? with
  | none => rw [e] at h; cases h
  | some j =>
    rw [e] at h
    obtain ⟨hl, e⟩ := List.getElem?_eq_some_iff.mp e
    rw [List.length_range] at hl
    rw [List.getElem_range] at e
    subst e
    exact ⟨(Option.some.inj h).symm, hl⟩
theorem rngD_len {lo : Int} {n : Nat} : (rngD lo n).length = n := by unfold rngD; rw [List.length_map, List.length_range]
theorem eqD_str {a b : Str} : eqD (.str a) (.str b) = decide (a = b) := by
  show (a == b) = _
  rw [Bool.eq_iff_iff]; simp
theorem eqD_int {a b : Int} : eqD (.int a) (.int b) = decide (a = b) := by
  show (a == b) = _
  rw [Bool.eq_iff_iff]; simp
theorem eqD_bl {a b : Bool} : eqD (.bl a) (.bl b) = decide (a = b) := by
  show (a == b) = _
  rw [Bool.eq_iff_iff]; simp
def eqDs : List Dt → List Dt → Bool
  | [], [] => true
  | x :: xs, y :: ys => eqD x y && eqDs xs ys
  | _, _ => false
theorem eqvAll_eq : ∀ (xs ys : List Dt), PyData.eqvAll (toPs xs) (toPs ys) = eqDs xs ys
  | [], [] => rfl
  | x :: xs, y :: ys => by
    show (PyData.eqv (toP x) (toP y) && PyData.eqvAll (toPs xs) (toPs ys)) = (eqD x y && eqDs xs ys)
    rw [eqvAll_eq xs ys]; rfl
  | [], _ :: _ => rfl
  | _ :: _, [] => rfl
theorem eqD_tup {xs ys : List Dt} : eqD (.tup xs) (.tup ys) = eqDs xs ys := eqvAll_eq xs ys
theorem eqD_lst {xs ys : List Dt} : eqD (.lst xs) (.lst ys) = eqDs xs ys := eqvAll_eq xs ys
theorem strOk_of {s : Str} (h : ∀ c ∈ cl s, c < 1114112) : PyData.strOk s = true := by
  unfold PyData.strOk
  rw [← Array.all_toList, List.all_eq_true]
  exact fun c hc => decide_eq_true (h c hc)
theorem atI_map {α β : Type} {f : α → β} {xs : List α} {i : Int} {d : α} (h : atI xs i = some d) : atI (xs.map f) i = some (f d) := by
  unfold atI at h ⊢
  rw [List.length_map]
  cases e : ixN xs.length i with
  | none => rw [e] at h; cases h
  | some j =>
    rw [e] at h
    show (xs.map f)[j]? = _
    rw [List.getElem?_map, show xs[j]? = some d from h]; rfl
theorem decide_eq_comm {α : Type} [DecidableEq α] {a b : α} : decide (a = b) = decide (b = a) := by
  rw [Bool.eq_iff_iff, decide_eq_true_iff, decide_eq_true_iff]; exact ⟨Eq.symm, Eq.symm⟩
/-- a comprehension of data alone: fm tells what an item gives -/
def LcM (S : Store) (p : Addr) (its : List Dt) (fm : Dt → Option Dt) : Nat → List Dt → Store → Prop := fun i acc S' => S' = su S p (.lst acc) ∧ acc = (its.take i).filterMap fm
section
variable {S S' : Store} {p : Addr} {its acc : List Dt} {fm : Dt → Option Dt} {i : Nat} {d y : Dt}
theorem lcm0 : LcM S p its fm 0 [] (su S p (.lst [])) := ⟨rfl, rfl⟩
theorem lcm_y (hd : its[i]? = some d) (hI : acc = (its.take i).filterMap fm) (hf : fm d = some y) : su S p (.lst acc) p = some (.lst acc) ∧ LcM S p its fm (i + 1) (acc ++ [y]) (su (su S p (.lst acc)) p (.lst (acc ++ [y]))) := by
  refine ⟨su_same, su_su, ?_⟩
  rw [take_succ_get hd, List.filterMap_append, ← hI, List.filterMap_cons, hf]; rfl
theorem lcm_n (hd : its[i]? = some d) (hI : acc = (its.take i).filterMap fm) (hf : fm d = none) : LcM S p its fm (i + 1) acc (su S p (.lst acc)) := by
  refine ⟨rfl, ?_⟩
  rw [take_succ_get hd, List.filterMap_append, ← hI, List.filterMap_cons, hf]; simp
theorem lcm_lt (hd : its[i]? = some d) (hI : acc = (its.take i).filterMap fm) (hl : its.length ≤ sizeLine) : acc.length < sizeLine := by
  have h1 := (List.getElem?_eq_some_iff.mp hd).1
  have h2 := List.length_filterMap_le fm (its.take i)
  rw [← hI, List.length_take] at h2
  omega
theorem lcm_end (h : LcM S p its fm its.length acc S') : S' = su S p (.lst (its.filterMap fm)) ∧ acc = its.filterMap fm := by
  obtain ⟨h1, h2⟩ := h
  rw [List.take_length] at h2
  subst h2
  exact ⟨h1, rfl⟩
end
theorem fm_map {α β : Type} {f : α → β} {l : List α} : l.filterMap (fun d => some (f d)) = l.map f := by
  induction l with
  | nil => rfl
  | cons x l ih => rw [List.filterMap_cons, List.map_cons, ih]
theorem su_other {S : Store} {p q : Addr} {m : MO} (hq : S q = none) (hp : S p = some m) (n : MO) : su S q n p = some m := by
  rw [su_ne (fun e => by rw [e, hq] at hp; cases hp)]; exact hp
end DL

set_option Elab.async false
set_option linter.all false
set_option maxRecDepth 100000
set_option maxHeartbeats 4000000
/-! The data layer: written dicts, slices set, steps. -/
namespace DL
open PySem PySem.Spec PyProof.Rows L2

/-! ### xs[a:b] = ys -/
def gSetSl (to ta tc : TE) : TG := fun v σ H Q => to σ H fun x H1 => ta σ H1 fun y H2 => tc σ H2 fun z H3 => ∃ (l b : Addr) (xs ys : List V) (i j : Int), x = .ref l ∧ v = .ref b ∧ y = .int i ∧ z = .int j ∧
  H3 l = some (.lst xs) ∧ H3 b = some (.lst ys) ∧ l ≠ b ∧ 0 ≤ i ∧ i ≤ j ∧ j ≤ xs.length ∧ xs.length + ys.length ≤ sizeLine ∧ Q σ (upd H3 l (.lst (xs.take i.toNat ++ ys ++ xs.drop j.toNat)))
section
variable {X : Cx} {W : WX} {o a c e : Expr} {to ta tc : TE} {pos p2 tpos : Pos}
theorem pg_setSl (ho : PE X o to) (h1 : PE X a ta) (h2 : PE X c tc)
    (ha : ∀ v, assign (.Subscript o (.Slice (some a) (some c) none p2) tpos) X.env v = (do
      let ov ← holding [v] (eval o X.env)
      let iv ← holding [v, ov] (eval (.Slice (some a) (some c) none p2) X.env)
      standAt tpos
      holding [v, ov, iv] (setItem ov iv v)
      release [iv, v, ov] []) := by intro _; rfl) : PG X (.Subscript o (.Slice (some a) (some c) none p2) tpos) (gSetSl to ta tc) := by
  refine ⟨fun pins s σ H v u Q I r h => ?_⟩
  rw [ha]
  refine wpAny_bind (wpAny_holding (thn (ho.run pins s σ H _ I h) fun ov s1 ⟨x, H1, I1, r1, q1⟩ => ?_))
  refine wpAny_bind (wpAny_holding (wpAny_Slice ?_))
  rw [evalPart_some]
  refine thn (h1.run pins s1 σ H1 _ I1 q1) fun vl s2 ⟨y, H2, I2, r2, q2⟩ => ?_
  rw [evalPart_some]
  refine thn (h2.run pins s2 σ H2 _ I2 q2) fun vu s3 ⟨z, H3, I3, r3, q3⟩ => ?_
  rw [evalPart_none]
  refine wpAny_pure ?_
  obtain ⟨l, b, xs, ys, i, j, rfl, rfl, rfl, rfl, e1, e2, ne, h0, hij, hj, hz, q3⟩ := q3
  have I4 : Inv X pins σ H3 { s3 with heap := s3.heap.push { cls := .type "slice", data := .fields #[vl, vu, .none] } } := I3.kept (t' := s3.toks) fun b ob q => Heap.get?_push_of_some _ q
  cases r1; cases r
  refine wpAny_bind (wpAny_standAt (wpAny_bind (wpAny_holding (set_slice I4 e1 e2 ne (Heap.IsSliceOf.new ..) r2 r3 h0 hij hj hz fun s4 I5 => ?_))))
  exact wpAny_release ⟨σ, _, I5, q3⟩
def cutSet (xs ys : List Dt) (i j : Int) : List Dt := xs.take i.toNat ++ ys ++ xs.drop j.toNat
@[reducible] def xSetSl (do_ di dj de : XTE) : XTS := fun Δ Ω ρ S => de ρ S (fun a S1 => do_ ρ S1 (fun o S2 => di ρ S2 (fun i S3 => dj ρ S3 (fun j S4 => match a, o, i, j with
  | .lst ys, .ref p, .int i, .int j => ∃ xs, S4 p = some (.lst xs) ∧ 0 ≤ i ∧ i ≤ j ∧ j ≤ xs.length ∧ xs.length + ys.length ≤ sizeLine ∧ Δ.nx ρ (su S4 p (.lst (cutSet xs ys i j)))
  | _, _, _, _ => False) fun c fs S1 => Ω c fs ρ S1) fun c fs S1 => Ω c fs ρ S1) fun c fs S1 => Ω c fs ρ S1) fun c fs S1 => Ω c fs ρ S1
theorem ds_setSl {do_ di dj de : XTE} (ho : DE X W o do_) (hi : DE X W a di) (hj : DE X W c dj) (h : DE X W e de) (hs : swapsWithSole [.Subscript o (.Slice (some a) (some c) none p2) tpos] e pos.line X.env = pure false := by rfl) (hw : swappedStores [.Subscript o (.Slice (some a) (some c) none p2) tpos] e X.env = pure none := by rfl)
    (h1 : (assignEach [.Subscript o (.Slice (some a) (some c) none p2) tpos] X.env).map (·.2) = [assign (.Subscript o (.Slice (some a) (some c) none p2) tpos) X.env] := by rfl)
    (ha : ∀ v, assign (.Subscript o (.Slice (some a) (some c) none p2) tpos) X.env v = (do
      let ov ← holding [v] (eval o X.env)
      let iv ← holding [v, ov] (eval (.Slice (some a) (some c) none p2) X.env)
      standAt tpos
      holding [v, ov, iv] (setItem ov iv v)
      release [iv, v, ov] []) := by intro _; rfl) : DS X W (.Assign [.Subscript o (.Slice (some a) (some c) none p2) tpos] e pos) (xSetSl do_ di dj de) := by
  obtain ⟨t, p1, s1⟩ := h
  obtain ⟨t2, p2, s2⟩ := ho
  obtain ⟨t3, p3, s3⟩ := hi
  obtain ⟨t4, p4, s4⟩ := hj
  refine ⟨_, ps_asg p1 (pg_setSl p2 p3 p4 ha) hs hw h1, fun σ H ρ S E Δ Ω rel env h en exc => ?_⟩
  refine s1 σ H ρ S _ _ _ rel env h (fun x H1 a S1 rel1 st1 d1 g1 => ?_) (exc.at env)
  refine s2 σ H1 ρ S1 _ _ _ rel1 (env.step st1) g1 (fun y H2 o' S2 rel2 st2 d2 g2 => ?_) ((exc.at env).mono st1)
  have st12 := st1.trans st2
  refine s3 σ H2 ρ S2 _ _ _ rel2 (env.step st12) g2 (fun z H3 i' S3 rel3 st3 d3 g3 => ?_) ((exc.at env).mono st12)
  have st13 := st12.trans st3
  refine s4 σ H3 ρ S3 _ _ _ rel3 (env.step st13) g3 (fun w H4 j' S4 rel4 st4 d4 g4 => ?_) ((exc.at env).mono st13)
  have st := st13.trans st4
  have d1' := D.step ((st2.trans st3).trans st4) _ d1
  have d2' := D.step (st3.trans st4) _ d2
  have d3' := D.step st4 _ d3
  split at g4
  · rename_i ys p i j
    obtain ⟨xs, e1, h0, hij, hjl, hz, g4⟩ := g4
    obtain ⟨vs, e3, g⟩ := rel4 p _ e1
    obtain ⟨b, us, rfl, fb, gb⟩ := d1'
    cases d2'; cases d3'; cases d4
    have ne : S4 p ≠ none := by rw [e1]; intro z; cases z
    have st5 : Step S4 H4 (su S4 p (.lst (cutSet xs ys i j))) (upd H4 p (.lst (vs.take i.toNat ++ us ++ vs.drop j.toNat))) := Step.put (.inl ne)
    refine ⟨p, b, vs, us, i, j, rfl, rfl, rfl, rfl, e3, fb.2, ?_, h0, hij, by rw [← g.length]; exact hjl, by rw [← g.length, ← gb.length]; exact hz, ?_⟩
    · intro q; subst q; rw [fb.1] at e1; cases e1
    · exact en.nx σ _ ρ _ (rel4.put (m := .lst (cutSet xs ys i j)) (.inl ne) ⟨_, upd_same, DAll.step st5 _ (((g.take _).append gb).append (g.drop _))⟩) (st.trans st5) (env.step (st.trans st5)) g4
  · exact g4.elim
end

/-! ### range(a, b, c) -/
def rngC (lo c : Int) (n : Nat) : List Dt := (List.range n).map fun (i : Nat) => Dt.int (lo + (i : Int) * c)
theorem itd_rangeC {K : PySem.W.Frag} {S₁ : Store} {H₁ : Hp} {lo c : Int} {n : Nat} {stay : Store → Prop} : ItD K S₁ H₁ (Itc lo c n) (rngC lo c n) stay := by
  intro S H i rel st sy
  have hl : (rngC lo c n).length = n := by unfold rngC; rw [List.length_map, List.length_range]
  refine ⟨fun hi => by rw [hl] at hi; exact hi, fun d hd => ?_⟩
  have hi : i < n := by
    have := (List.getElem?_eq_some_iff.mp hd).1
    rw [hl] at this
    exact this
  have e : d = .int (lo + (i : Int) * c) := by
    unfold rngC at hd
    rw [List.getElem?_map, List.getElem?_range hi] at hd
    exact (Option.some.inj hd).symm
  subst e
  refine ⟨hi, fun x H' y => ?_⟩
  obtain ⟨e1, e2⟩ := y
  subst e1 e2
  exact ⟨rel, Step.refl, Din⟩
@[reducible] def xiRange3 (dr : XTA) : XTI := fun ρ S Φ Ω => dr ρ S (fun as S1 => match as with
  | [.int i, .int j, .int c] => ∃ n, RgC i j c n ∧ Φ (rngC i c n) (fun _ => True) S1
  | _ => False) Ω
theorem DAll.three {K : PySem.W.Frag} {S : Store} {H : Hp} {a b c : Dt} {xs : List V} (h : DAll K S H [a, b, c] xs) : ∃ u v w, xs = [u, v, w] ∧ D K S H a u ∧ D K S H b v ∧ D K S H c w := by
  obtain ⟨v, r, e, f, g⟩ := h
  obtain ⟨u, w, e2, f2, f3⟩ := DAll.two g
  exact ⟨v, u, w, by rw [e, e2], f, f2, f3⟩
section
variable {X : Cx} {W : WX} {tg : Expr} {dr : XTA}
theorem di_range3 {a b c : Expr} {p pos : Pos} (hm : X.mg "range" = none) (h : DA X W [a, b, c] dr) (hg : Gl X "range" := by rfl) (hs : starEach [a, b, c] X.env = (false, eval a X.env) :: starEach [b, c] X.env := by rfl) (hpl : (backTo pos (starEach [b, c] X.env)).any (·.1) = false := by rfl) : DI X W tg (.Call (.Name "range" p) [a, b, c] [] pos) (xiRange3 dr) := by
  obtain ⟨t, p1, s1⟩ := h
  refine ⟨_, pi_range3 hg hm p1 hs hpl, fun σ H ρ S R Φ Ω rel env hd nx exc => ?_⟩
  refine s1 σ H ρ S _ _ Ω rel env hd (fun xs H1 as S1 rel1 st1 d1 g1 => ?_) exc
  split at g1
  · obtain ⟨u, v, w, rfl, d1, d2, d3⟩ := d1.three
    cases d1; cases d2; cases d3
    obtain ⟨n, hr, g1⟩ := g1
    exact ⟨_, _, _, n, rfl, hr, nx _ H1 S1 _ _ rel1 st1 itd_rangeC g1⟩
  · exact g1.elim
end

/-! ### written dicts with text keys -/
def keyIs : List DictEntry → List Str → Bool
  | [], [] => true
  | e :: r, k :: ks => (match e.key with | .str x _ => decide (x = k) | _ => false) && keyIs r ks
  | _, _ => false
structure KDm (K : PySem.W.Frag) (w : World) (mg : Str → Option Value) (x : Str) (kvs : List (Str × Dt)) : Prop where
  ex : ∃ d es n, mg x = some (.ref d) ∧ KDict K w d es n ∧ keyIs es.toList (kvs.map (·.1)) = true ∧ ∀ kv ∈ kvs, ∃ u v, PySem.W.nsIn K d kv.1 = some (some u) ∧ RelV v u ∧ ∀ S H, D K S H kv.2 v
theorem ents_none {z : Str} : ∀ {l : List DictEntry} {ks : List Str}, keyIs l ks = true → z ∉ ks → l.find? (·.key.isStr z) = none ∧ l.any (·.refKey) = false
  | [], _, _, _ => ⟨rfl, rfl⟩
  | e :: r, [], h, _ => by cases h
  | e :: r, k :: ks, h, hz => by
    unfold keyIs at h
    rw [Bool.and_eq_true] at h
    obtain ⟨h2, h3⟩ := h
    rw [List.mem_cons, not_or] at hz
    obtain ⟨i1, i2⟩ := ents_none h3 hz.2
    split at h2
    · rename_i x t q
      have h5 := of_decide_eq_true h2
      subst h5
      have q1 : e.key.isStr z = false := by
        rw [q]
        show (x == z) = false
        exact beq_false_of_ne fun e => hz.1 e.symm
      have q2 : e.refKey = false := by
        unfold DictEntry.refKey; rw [q]
      rw [List.find?_cons, q1, List.any_cons, q2]
      exact ⟨i1, i2⟩
    · cases h2
theorem kdm_none {K : PySem.W.Frag} {w : World} {d : Addr} {es : Array DictEntry} {n : Nat} {ks : List Str} (q : KDict K w d es n) (h : keyIs es.toList ks = true) (z : Str) (hz : z ∉ ks) : PySem.W.nsIn K d z = some none := by
  obtain ⟨h1, h2⟩ := ents_none h hz
  unfold PySem.W.nsIn
  rw [q.at_]
  show (match es.toList.find? (·.key.isStr z) with
      | some e => some (some e.val)
      | none => if es.toList.any (·.refKey) then none else some none) = some none
  rw [h1, h2]; rfl
@[reducible] def xInKd (neg : Bool) (ks : List Str) (da : XTE) : XTE := fun ρ S Φ Ω => da ρ S (fun a S1 => match a with | .str z => Φ (.bl (neg != decide (z ∈ ks))) S1 | _ => False) Ω
@[reducible] def xIxKd (kvs : List (Str × Dt)) (db : XTE) : XTE := fun ρ S Φ Ω => db ρ S (fun b S1 => match b with | .str z => ∃ d, kvs.lookup z = some d ∧ Φ d S1 | _ => False) Ω
theorem lookup_mem {α β : Type} [BEq α] [LawfulBEq α] {l : List (α × β)} {a : α} {b : β} (h : l.lookup a = some b) : (a, b) ∈ l := by
  induction l with
  | nil => cases h
  | cons x l ih =>
    obtain ⟨x1, x2⟩ := x
    rw [List.lookup_cons] at h
    cases e : a == x1 with
    | true => rw [e] at h; cases h; rw [eq_of_beq e]; simp
    | false => rw [e] at h; exact List.mem_cons_of_mem _ (ih h)
section
variable {X : Cx} {W : WX} {a : Expr} {da : XTE} {pos p : Pos} {x : Str} {kvs : List (Str × Dt)}
theorem kd_in {K : PySem.W.Frag} {w : World} {mg : Str → Option Value} (h : KDm K w mg x kvs) : ∃ d es n, mg x = some (.ref d) ∧ KDict K w d es n ∧ ∀ z, ∃ r, PySem.W.nsIn K d z = some r ∧ r.isSome = decide (z ∈ kvs.map (·.1)) := by
  obtain ⟨d, es, n, h1, h4, h2, h3⟩ := h.ex
  have h5 := kdm_none h4 h2
  refine ⟨d, es, n, h1, h4, fun z => ?_⟩
  by_cases e : z ∈ kvs.map (·.1)
  · obtain ⟨kv, hm, rfl⟩ := List.mem_map.mp e
    obtain ⟨u, v, g1, _⟩ := h3 kv hm
    exact ⟨_, g1, by rw [decide_eq_true e]; rfl⟩
  · exact ⟨_, h5 z e, by rw [decide_eq_false e]; rfl⟩
theorem de_inKd (h : KDm X.K X.w X.mg x kvs) (ha : DE X W a da) (hg : Gl X x := by rfl) (hdb : (x == ("__debug__" : Str)) = false := by decide) : DE X W (.Compare a [.In] [.Name x p] pos) (xInKd false (kvs.map (·.1)) da) := by
  obtain ⟨d, es, n, h1, h2, h3⟩ := kd_in h
  obtain ⟨t, p1, s1⟩ := ha
  refine ⟨_, pe_cmpR (op_in_kd h2) p1 (pe_glob (v := .ref d) hg h1 rfl hdb) (by rfl), fun σ H ρ S Q Φ Ω rel env hd ret exc => ?_⟩
  refine s1 σ H ρ S _ _ Ω rel env hd (fun v H1 b S1 rel1 st1 d1 g1 => ?_) exc
  split at g1
  · rename_i z
    cases d1
    obtain ⟨r, e1, e2⟩ := h3 z
    refine ⟨z, r, rfl, rfl, e1, ?_⟩
    rw [e2]
    rw [Bool.false_bne] at g1
    exact (ret.mono st1).now rel1 Dbl g1
  · exact g1.elim
theorem de_notInKd (h : KDm X.K X.w X.mg x kvs) (ha : DE X W a da) (hg : Gl X x := by rfl) (hdb : (x == ("__debug__" : Str)) = false := by decide) : DE X W (.Compare a [.NotIn] [.Name x p] pos) (xInKd true (kvs.map (·.1)) da) := by
  obtain ⟨d, es, n, h1, h2, h3⟩ := kd_in h
  obtain ⟨t, p1, s1⟩ := ha
  refine ⟨_, pe_cmpR (op_notIn_kd h2) p1 (pe_glob (v := .ref d) hg h1 rfl hdb) (by rfl), fun σ H ρ S Q Φ Ω rel env hd ret exc => ?_⟩
  refine s1 σ H ρ S _ _ Ω rel env hd (fun v H1 b S1 rel1 st1 d1 g1 => ?_) exc
  split at g1
  · rename_i z
    cases d1
    obtain ⟨r, e1, e2⟩ := h3 z
    refine ⟨z, r, rfl, rfl, e1, ?_⟩
    rw [e2]
    rw [Bool.true_bne] at g1
    exact (ret.mono st1).now rel1 Dbl g1
  · exact g1.elim
theorem dt_inKd (h : KDm X.K X.w X.mg x kvs) (ha : DE X W a da) (hg : Gl X x := by rfl) (hdb : (x == ("__debug__" : Str)) = false := by decide) : DTt X W (.Compare a [.In] [.Name x p] pos) (xTest (xInKd false (kvs.map (·.1)) da)) := by
  obtain ⟨d, es, n, h1, h2, h3⟩ := kd_in h
  obtain ⟨t, p1, s1⟩ := ha
  refine ⟨_, pt_cmpR (op_in_kd h2) p1 (pe_glob (v := .ref d) hg h1 rfl hdb) (by rfl), simTest fun σ H ρ S Q Φ Ω rel env hd ret exc => ?_⟩
  refine s1 σ H ρ S _ _ Ω rel env hd (fun v H1 b S1 rel1 st1 d1 g1 => ?_) exc
  split at g1
  · rename_i z
    cases d1
    obtain ⟨r, e1, e2⟩ := h3 z
    refine ⟨z, r, rfl, rfl, e1, ?_⟩
    rw [e2]
    rw [Bool.false_bne] at g1
    exact (ret.mono st1).now rel1 Dbl g1
  · exact g1.elim
theorem dt_notInKd (h : KDm X.K X.w X.mg x kvs) (ha : DE X W a da) (hg : Gl X x := by rfl) (hdb : (x == ("__debug__" : Str)) = false := by decide) : DTt X W (.Compare a [.NotIn] [.Name x p] pos) (xTest (xInKd true (kvs.map (·.1)) da)) := by
  obtain ⟨d, es, n, h1, h2, h3⟩ := kd_in h
  obtain ⟨t, p1, s1⟩ := ha
  refine ⟨_, pt_cmpR (op_notIn_kd h2) p1 (pe_glob (v := .ref d) hg h1 rfl hdb) (by rfl), simTest fun σ H ρ S Q Φ Ω rel env hd ret exc => ?_⟩
  refine s1 σ H ρ S _ _ Ω rel env hd (fun v H1 b S1 rel1 st1 d1 g1 => ?_) exc
  split at g1
  · rename_i z
    cases d1
    obtain ⟨r, e1, e2⟩ := h3 z
    refine ⟨z, r, rfl, rfl, e1, ?_⟩
    rw [e2]
    rw [Bool.true_bne] at g1
    exact (ret.mono st1).now rel1 Dbl g1
  · exact g1.elim
theorem de_ixKd (h : KDm X.K X.w X.mg x kvs) (ha : DE X W a da) (hg : Gl X x := by rfl) (hdb : (x == ("__debug__" : Str)) = false := by decide) (hs : PlainIx a := by exact fun _ _ => rfl) : DE X W (.Subscript (.Name x p) a pos) (xIxKd kvs da) := by
  obtain ⟨d, es, n, h1, h4, h2, h3⟩ := h.ex
  obtain ⟨t, p1, s1⟩ := ha
  refine ⟨_, pe_ix ix_kdict (pe_glob (v := .ref d) hg h1 rfl hdb) p1 hs, fun σ H ρ S Q Φ Ω rel env hd ret exc => ?_⟩
  refine s1 σ H ρ S _ _ Ω rel env hd (fun v H1 b S1 rel1 st1 d1 g1 => ?_) exc
  split at g1
  · rename_i z
    cases d1
    obtain ⟨y, e, g1⟩ := g1
    obtain ⟨u, v, e1, e2, e3⟩ := h3 _ (lookup_mem e)
    exact ⟨d, z, v, rfl, rfl, ⟨es, n, u, h4.at_, h4.lit, e1, e2⟩, (ret.mono st1).now rel1 (e3 _ _) g1⟩
  · exact g1.elim
end

/-! ### [e for x in xs for y in ys] -/
def tI (K : PySem.W.Frag) (W : WX) (d : XTI) : TI := fun σ H R => ∃ ρ S Φ Ω, Rel K S H ∧ EnvR K S H σ ρ ∧ d ρ S Φ Ω ∧ (∀ J H' S' its stay, Rel K S' H' → Step S H S' H' → ItD K S' H' J its stay → Φ its stay S' → R J H') ∧ Exc K S H Ω (WE W σ)
theorem DI.can {X : Cx} {W : WX} {tg e : Expr} {d : XTI} (h : DI X W tg e d) : PI X tg e (tI X.K W d) := by
  obtain ⟨t, h1, s1⟩ := h
  exact ⟨fun pins s σ H R I ⟨ρ, S, Φ, Ω, r, en, hd, nx, exc⟩ => h1.run pins s σ H R I (s1 σ H ρ S R Φ Ω r en hd nx exc)⟩
abbrev noX : XK1 := fun _ _ _ => False
@[reducible] def xLc2G (fin : Addr → List Dt → Store → OK1 → Prop) (di : XTI) (g : XTG) (tt : XTT) (di1 : XTI) (g1 : XTG) (tt1 : XTT) (te : XTE) (vs vs1 : List Nat) : XTE := fun ρ S Φ Ω => di ρ S (fun its stay S1 => ∀ p, S1 p = none → ∃ I : Nat → List Dt → Store → Prop, I 0 [] (su S1 p (.lst [])) ∧
  (∀ i acc S', I i acc S' → stay S' ∧ S' p = some (.lst acc)) ∧
  (∀ i d acc S', its[i]? = some d → I i acc S' → g d (wipeR ρ vs) S' fun ρ2 S2 => tt ρ2 S2 (fun b S3 =>
    if b = true then di1 ρ2 S3 (fun its1 stay1 S4 => ∃ I1 : Nat → List Dt → Store → Prop, I1 0 acc S4 ∧ (∀ j acc S', I1 j acc S' → stay1 S' ∧ S' p = some (.lst acc)) ∧
      (∀ j d1 acc1 S5, its1[j]? = some d1 → I1 j acc1 S5 → acc1.length < sizeLine ∧ g1 d1 (wipeR ρ2 vs1) S5 fun ρ3 S6 => tt1 ρ3 S6 (fun b S7 =>
        if b = true then te ρ3 S7 (fun y S8 => S8 p = some (.lst acc1) ∧ I1 (j + 1) (acc1 ++ [y]) (su S8 p (.lst (acc1 ++ [y])))) noX else I1 (j + 1) acc1 S7) noX) ∧
      (∀ acc1 S', I1 its1.length acc1 S' → I (i + 1) acc1 S')) noX
    else I (i + 1) acc S3) noX) ∧
  (∀ acc S', I its.length acc S' → fin p acc S' Φ)) Ω
@[reducible] def xLc2 : XTI → XTG → XTT → XTI → XTG → XTT → XTE → List Nat → List Nat → XTE := xLc2G fun p acc S Φ => Φ (.lst acc) (sdel S p)
@[reducible] def xLc2M : XTI → XTG → XTT → XTI → XTG → XTT → XTE → List Nat → List Nat → XTE := xLc2G fun p acc S Φ => Φ (.ref p) S
section
variable {K : PySem.W.Frag} {W : WX} {di di1 : XTI} {dg dg1 : XTG} {dt dt1 : XTT} {de : XTE}
theorem simLc2 {wi : TI} {g g1 : TG} {vs vs1 : List Nat} {fin : Addr → List Dt → Store → OK1 → Prop} (h : SimI K W wi di) (hg : SimG K g dg) (ok : TgOk g vs) (hg1 : SimG K g1 dg1) (ok1 : TgOk g1 vs1)
    (hf : ∀ p acc S H Φ Q, Rel K S H → S p = some (.lst acc) → fin p acc S Φ → Ret K S H Φ Q → Q (.ref p) H) : SimE K W (tLc2 wi g (tT K W0 dt) (tI K W0 di1) g1 (tT K W0 dt1) (tE K W0 de) vs vs1) (xLc2G fin di dg dt di1 dg1 dt1 de vs vs1) := by
  intro σ H ρ S Q Φ Ω rel env h' ret exc
  refine h σ H ρ S _ _ _ rel env h' (fun J H1 S1 its stay rel1 st1 it gg1 => ?_) exc
  intro Dl hD
  obtain ⟨I, i0, inv, turn, done⟩ := gg1 Dl (rel1.hp hD)
  refine ⟨fun i m H' => m = its.length - i ∧ i ≤ its.length ∧ ∃ acc S', Rel K S' H' ∧ Step S1 H1 S' H' ∧ I i acc S', ⟨its.length, by simp, Nat.zero_le _, [], _, rel1.put (m := .lst []) (.inr hD) ⟨[], upd_same, rfl⟩, Step.put (.inr hD), i0⟩, ?_⟩
  rintro i m H' ⟨rfl, hi, acc, S', rel', st', hI⟩
  obtain ⟨sy, hp⟩ := inv i acc S' hI
  obtain ⟨a1, a2⟩ := it S' H' i rel' st' sy
  by_cases hlt : i < its.length
  · refine .inr ?_
    have hd : its[i]? = some its[i] := List.getElem?_eq_getElem hlt
    obtain ⟨go, b2⟩ := a2 _ hd
    refine ⟨go, fun H2 => ∃ acc S2, Rel K S2 H2 ∧ Step S1 H1 S2 H2 ∧ I (i + 1) acc S2, fun H2 ⟨acc, S2, r2, s2, h2⟩ => ⟨its.length - (i + 1), by omega, rfl, hlt, acc, S2, r2, s2, h2⟩, fun x H'' y => ?_⟩
    obtain ⟨r3, s3, d3⟩ := b2 x H'' y
    have tn := turn i _ acc S' hd hI
    have env' : EnvR K S' H'' (wipe σ vs) (wipeR ρ vs) := ((env.step ((st1.trans st').trans s3)).wipe vs)
    have e := @wipe_wipe σ vs
    refine (fun z => by rw [e] at z; exact z) (ok x (wipe σ vs) H'' _ (hg x _ (wipe σ vs) H'' (wipeR ρ vs) S' _ _ r3 env' d3 tn fun σ2 H2 ρ2 S2 r2 s2 e2 h2 => ?_))
    refine ⟨ρ2, S2, _, _, r2, e2, h2, fun b H3 S3 r5 s5 h5 => ?_, fun _ _ _ _ _ _ _ _ z => z.elim⟩
    have st5 := ((st'.trans s3).trans s2).trans s5
    cases b with
    | false =>
      rw [if_neg Bool.false_ne_true] at h5
      refine iteF ?_
      exact ⟨acc, S3, r5, st5, h5⟩
    | true =>
      rw [if_pos rfl] at h5
      refine iteT ?_
      refine ⟨ρ2, S3, _, _, r5, e2.step s5, h5, fun J1 H6 S6 its1 stay1 r6 s6 it1 h6 => ?_, fun _ _ _ _ _ _ _ _ z => z.elim⟩
      obtain ⟨I1, j0, inv1, turn1, done1⟩ := h6
      have st6 := st5.trans s6
      refine ⟨fun j m H' => m = its1.length - j ∧ j ≤ its1.length ∧ ∃ acc S', Rel K S' H' ∧ Step S6 H6 S' H' ∧ I1 j acc S', ⟨its1.length, by simp, Nat.zero_le _, acc, S6, r6, Step.refl, j0⟩, ?_⟩
      rintro j m H7 ⟨rfl, hj, acc1, S7, r7, st7, hI1⟩
      obtain ⟨sy1, hp1⟩ := inv1 j acc1 S7 hI1
      obtain ⟨c1, c2⟩ := it1 S7 H7 j r7 st7 sy1
      by_cases hlt1 : j < its1.length
      · refine .inr ?_
        have hd1 : its1[j]? = some its1[j] := List.getElem?_eq_getElem hlt1
        obtain ⟨go1, b3⟩ := c2 _ hd1
        refine ⟨go1, fun H2 => ∃ acc S2, Rel K S2 H2 ∧ Step S6 H6 S2 H2 ∧ I1 (j + 1) acc S2, fun H2 ⟨acc, S2, r2, s2, h2⟩ => ⟨its1.length - (j + 1), by omega, rfl, hlt1, acc, S2, r2, s2, h2⟩, fun x1 H8 y1 => ?_⟩
        obtain ⟨r8, s8, d8⟩ := b3 x1 H8 y1
        obtain ⟨hz, tn1⟩ := turn1 j _ acc1 S7 hd1 hI1
        have env8 : EnvR K S7 H8 (wipe σ2 vs1) (wipeR ρ2 vs1) := (e2.step (((s5.trans s6).trans st7).trans s8)).wipe vs1
        have ee := @wipe_wipe σ2 vs1
        refine (fun z => by rw [ee] at z; exact z) (ok1 x1 (wipe σ2 vs1) H8 _ (hg1 x1 _ (wipe σ2 vs1) H8 (wipeR ρ2 vs1) S7 _ _ r8 env8 d8 tn1 fun σ9 H9 ρ9 S9 r9 s9 e9 h9 => ?_))
        refine ⟨ρ9, S9, _, _, r9, e9, h9, fun b H10 S10 r10 s10 h10 => ?_, fun _ _ _ _ _ _ _ _ z => z.elim⟩
        have st10 := ((st7.trans s8).trans s9).trans s10
        cases b with
        | false =>
          rw [if_neg Bool.false_ne_true] at h10
          refine iteF ?_
          exact ⟨acc1, S10, r10, st10, h10⟩
        | true =>
          rw [if_pos rfl] at h10
          refine iteT ?_
          refine ⟨ρ9, S10, _, _, r10, e9.step s10, h10, fun y H11 yd S11 r11 s11 d11 h11 => ?_, fun _ _ _ _ _ _ _ _ z => z.elim⟩
          obtain ⟨hp6, h6⟩ := h11
          obtain ⟨accV, e6, g6⟩ := r11 Dl _ hp6
          have ne : S11 Dl ≠ none := by rw [hp6]; intro z; cases z
          have sp : Step S11 H11 (su S11 Dl (.lst (acc1 ++ [yd]))) (upd H11 Dl (.lst (accV ++ [y]))) := Step.put (.inl ne)
          exact ⟨accV, e6, by rw [← g6.length]; exact hz, acc1 ++ [yd], _, r11.put (m := .lst (acc1 ++ [yd])) (.inl ne) ⟨_, upd_same, (DAll.step sp _ g6).snoc (D.step sp _ d11)⟩, (st10.trans s11).trans sp, h6⟩
      · have e : j = its1.length := by omega
        subst e
        exact .inl ⟨c1 (Nat.le_refl _), acc1, S7, r7, st6.trans st7, done1 acc1 S7 hI1⟩
  · have e : i = its.length := by omega
    subst e
    exact .inl ⟨a1 (Nat.le_refl _), hf Dl acc S' H' Φ Q rel' hp (done acc S' hI) (ret.mono (st1.trans st'))⟩
end
section
variable {X : Cx} {W : WX} {tg iter elt tg1 iter1 : Expr} {ifs ifs1 : List Expr} {di di1 : XTI} {dg dg1 : XTG} {dt dt1 : XTT} {de : XTE} {pos : Pos} {scope : Scope} {own : List (Str × Nat)} {vs1 : List Nat} {g g1 : TG} {k : Nat}
theorem de_lc2 (c : Cxt X W k) (hi : DI X W tg iter di) (ok : BlkOk X.N X.env.scope scope own) (hv : ∀ i ∈ vs1, i ∈ own.map (·.2)) (hg : DGx X scope tg (own.map (·.2)) g dg) (hg1 : DGx X scope tg1 vs1 g1 dg1)
    (ht : ∀ (s : Shared) (H : Hp) (C : Addr) (cl : List (Str × Addr)) (fp : List Addr), DTs (X.blk s H scope (compEnvC scope cl C X.env) fp) W0 ifs dt)
    (hi1 : ∀ (s : Shared) (H : Hp) (C : Addr) (cl : List (Str × Addr)) (fp : List Addr), DI (X.blk s H scope (compEnvC scope cl C X.env) fp) W0 tg1 iter1 di1)
    (ht1 : ∀ (s : Shared) (H : Hp) (C : Addr) (cl : List (Str × Addr)) (fp : List Addr), DTs (X.blk s H scope (compEnvC scope cl C X.env) fp) W0 ifs1 dt1)
    (he : ∀ (s : Shared) (H : Hp) (C : Addr) (cl : List (Str × Addr)) (fp : List Addr), DE (X.blk s H scope (compEnvC scope cl C X.env) fp) W0 elt de) (hs : ∀ x, foldedSetIterable iter X.env x = pure x := by intro _; rfl) (hs1 : ∀ env x, foldedSetIterable iter1 env x = pure x := by intro _ _; rfl) :
    DE X W (.ListComp elt [⟨tg, iter, ifs, 0⟩, ⟨tg1, iter1, ifs1, 0⟩] scope pos) (xLc2 di dg dt di1 dg1 dt1 de (own.map (·.2)) vs1) := by
  obtain ⟨t, p1, s1⟩ := hi
  exact ⟨_, pe_lc2 c.calm c.nd p1 ok hv hg.pg (fun s H C cl fp => (ht s H C cl fp).can) (fun s H C cl fp => (hi1 s H C cl fp).can) hg1.pg (fun s H C cl fp => (ht1 s H C cl fp).can) (fun s H C cl fp => (he s H C cl fp).can) hs hs1, simLc2 s1 hg.sim hg.ok hg1.sim hg1.ok fun p acc S H Φ Q => fin_data⟩
theorem de_lc2M (c : Cxt X W k) (hi : DI X W tg iter di) (ok : BlkOk X.N X.env.scope scope own) (hv : ∀ i ∈ vs1, i ∈ own.map (·.2)) (hg : DGx X scope tg (own.map (·.2)) g dg) (hg1 : DGx X scope tg1 vs1 g1 dg1)
    (ht : ∀ (s : Shared) (H : Hp) (C : Addr) (cl : List (Str × Addr)) (fp : List Addr), DTs (X.blk s H scope (compEnvC scope cl C X.env) fp) W0 ifs dt)
    (hi1 : ∀ (s : Shared) (H : Hp) (C : Addr) (cl : List (Str × Addr)) (fp : List Addr), DI (X.blk s H scope (compEnvC scope cl C X.env) fp) W0 tg1 iter1 di1)
    (ht1 : ∀ (s : Shared) (H : Hp) (C : Addr) (cl : List (Str × Addr)) (fp : List Addr), DTs (X.blk s H scope (compEnvC scope cl C X.env) fp) W0 ifs1 dt1)
    (he : ∀ (s : Shared) (H : Hp) (C : Addr) (cl : List (Str × Addr)) (fp : List Addr), DE (X.blk s H scope (compEnvC scope cl C X.env) fp) W0 elt de) (hs : ∀ x, foldedSetIterable iter X.env x = pure x := by intro _; rfl) (hs1 : ∀ env x, foldedSetIterable iter1 env x = pure x := by intro _ _; rfl) :
    DE X W (.ListComp elt [⟨tg, iter, ifs, 0⟩, ⟨tg1, iter1, ifs1, 0⟩] scope pos) (xLc2M di dg dt di1 dg1 dt1 de (own.map (·.2)) vs1) := by
  obtain ⟨t, p1, s1⟩ := hi
  exact ⟨_, pe_lc2 c.calm c.nd p1 ok hv hg.pg (fun s H C cl fp => (ht s H C cl fp).can) (fun s H C cl fp => (hi1 s H C cl fp).can) hg1.pg (fun s H C cl fp => (ht1 s H C cl fp).can) (fun s H C cl fp => (he s H C cl fp).can) hs hs1, simLc2 s1 hg.sim hg.ok hg1.sim hg1.ok fun p acc S H Φ Q => fin_stay⟩
theorem ds_setLc2 {i : Nat} {y : Str} {py spos : Pos} (c : Cxt X W k) (hsw : swapsWith (.ListComp elt [⟨tg, iter, ifs, 0⟩, ⟨tg1, iter1, ifs1, 0⟩] scope pos) (some (.Name y py)) spos.line X.env = pure true) (hi : DI X W tg iter di) (ok : BlkOk X.N X.env.scope scope own) (hv : ∀ i ∈ vs1, i ∈ own.map (·.2)) (hg : DGx X scope tg (own.map (·.2)) g dg) (hg1 : DGx X scope tg1 vs1 g1 dg1)
    (ht : ∀ (s : Shared) (H : Hp) (C : Addr) (cl : List (Str × Addr)) (fp : List Addr), DTs (X.blk s H scope (compEnvC scope cl C X.env) fp) W0 ifs dt)
    (hi1 : ∀ (s : Shared) (H : Hp) (C : Addr) (cl : List (Str × Addr)) (fp : List Addr), DI (X.blk s H scope (compEnvC scope cl C X.env) fp) W0 tg1 iter1 di1)
    (ht1 : ∀ (s : Shared) (H : Hp) (C : Addr) (cl : List (Str × Addr)) (fp : List Addr), DTs (X.blk s H scope (compEnvC scope cl C X.env) fp) W0 ifs1 dt1)
    (he : ∀ (s : Shared) (H : Hp) (C : Addr) (cl : List (Str × Addr)) (fp : List Addr), DE (X.blk s H scope (compEnvC scope cl C X.env) fp) W0 elt de) (hy : X.N[i]? = some y := by rfl) (hyl : X.env.scope.names.lookup y = some .local := by rfl) (hs : ∀ x, foldedSetIterable iter X.env x = pure x := by intro _; rfl) (hs1 : ∀ env x, foldedSetIterable iter1 env x = pure x := by intro _ _; rfl) :
    DS X W (.Assign [.Name y py] (.ListComp elt [⟨tg, iter, ifs, 0⟩, ⟨tg1, iter1, ifs1, 0⟩] scope pos) spos) (xAsg (xLc2 di dg dt di1 dg1 dt1 de (own.map (·.2)) vs1) (xgN i)) := by
  obtain ⟨t, p1, s1⟩ := hi
  exact ⟨_, ps_setLc2 c.calm c.nd hy hyl hsw p1 ok hv hg.pg (fun s H C cl fp => (ht s H C cl fp).can) (fun s H C cl fp => (hi1 s H C cl fp).can) hg1.pg (fun s H C cl fp => (ht1 s H C cl fp).can) (fun s H C cl fp => (he s H C cl fp).can) hs hs1, simAsg (simLc2 s1 hg.sim hg.ok hg1.sim hg1.ok fun p acc S H Φ Q => fin_data) simgN⟩
theorem ds_setLc2M {i : Nat} {y : Str} {py spos : Pos} (c : Cxt X W k) (hsw : swapsWith (.ListComp elt [⟨tg, iter, ifs, 0⟩, ⟨tg1, iter1, ifs1, 0⟩] scope pos) (some (.Name y py)) spos.line X.env = pure true) (hi : DI X W tg iter di) (ok : BlkOk X.N X.env.scope scope own) (hv : ∀ i ∈ vs1, i ∈ own.map (·.2)) (hg : DGx X scope tg (own.map (·.2)) g dg) (hg1 : DGx X scope tg1 vs1 g1 dg1)
    (ht : ∀ (s : Shared) (H : Hp) (C : Addr) (cl : List (Str × Addr)) (fp : List Addr), DTs (X.blk s H scope (compEnvC scope cl C X.env) fp) W0 ifs dt)
    (hi1 : ∀ (s : Shared) (H : Hp) (C : Addr) (cl : List (Str × Addr)) (fp : List Addr), DI (X.blk s H scope (compEnvC scope cl C X.env) fp) W0 tg1 iter1 di1)
    (ht1 : ∀ (s : Shared) (H : Hp) (C : Addr) (cl : List (Str × Addr)) (fp : List Addr), DTs (X.blk s H scope (compEnvC scope cl C X.env) fp) W0 ifs1 dt1)
    (he : ∀ (s : Shared) (H : Hp) (C : Addr) (cl : List (Str × Addr)) (fp : List Addr), DE (X.blk s H scope (compEnvC scope cl C X.env) fp) W0 elt de) (hy : X.N[i]? = some y := by rfl) (hyl : X.env.scope.names.lookup y = some .local := by rfl) (hs : ∀ x, foldedSetIterable iter X.env x = pure x := by intro _; rfl) (hs1 : ∀ env x, foldedSetIterable iter1 env x = pure x := by intro _ _; rfl) :
    DS X W (.Assign [.Name y py] (.ListComp elt [⟨tg, iter, ifs, 0⟩, ⟨tg1, iter1, ifs1, 0⟩] scope pos) spos) (xAsg (xLc2M di dg dt di1 dg1 dt1 de (own.map (·.2)) vs1) (xgN i)) := by
  obtain ⟨t, p1, s1⟩ := hi
  exact ⟨_, ps_setLc2 c.calm c.nd hy hyl hsw p1 ok hv hg.pg (fun s H C cl fp => (ht s H C cl fp).can) (fun s H C cl fp => (hi1 s H C cl fp).can) hg1.pg (fun s H C cl fp => (ht1 s H C cl fp).can) (fun s H C cl fp => (he s H C cl fp).can) hs hs1, simAsg (simLc2 s1 hg.sim hg.ok hg1.sim hg1.ok fun p acc S H Φ Q => fin_stay) simgN⟩
end
/-! ### max, min, sorted of lists of ints -/
def gMaxL : FC := fun S as k => match as with
  | [a] => Lv S a fun xs => xs.all isIn = true ∧ 0 < xs.length ∧ ∀ m, m ∈ xs.map iD → (∀ y ∈ xs.map iD, y ≤ m) → k (.int m) S
  | _ => False
theorem simMaxL {K : PySem.W.Frag} : SimC K (rMax K) gMaxL := by
  intro xs as S H Q k rel d h ret
  unfold gMaxL at h
  split at h
  · obtain ⟨v, rfl, dv⟩ := d.one
    obtain ⟨ys, vs, p, rfl, hp, g, h1, h0, h2⟩ := h.out rel dv
    have e := g.ins h1
    subst e
    exact ⟨p, ys.map iD, rfl, .inl (.inl hp), by rw [List.length_map]; exact h0, fun m hm hy => ret.now rel Din (h2 m hm hy)⟩
  · exact h.elim
def gMinL : FC := fun S as k => match as with
  | [a] => Lv S a fun xs => xs.all isIn = true ∧ 0 < xs.length ∧ ∀ m, m ∈ xs.map iD → (∀ y ∈ xs.map iD, m ≤ y) → k (.int m) S
  | _ => False
theorem simMinL {K : PySem.W.Frag} : SimC K (rMin K) gMinL := by
  intro xs as S H Q k rel d h ret
  unfold gMinL at h
  split at h
  · obtain ⟨v, rfl, dv⟩ := d.one
    obtain ⟨ys, vs, p, rfl, hp, g, h1, h0, h2⟩ := h.out rel dv
    have e := g.ins h1
    subst e
    exact ⟨p, ys.map iD, rfl, .inl (.inl hp), by rw [List.length_map]; exact h0, fun m hm hy => ret.now rel Din (h2 m hm hy)⟩
  · exact h.elim
theorem dall_ints' {K : PySem.W.Frag} {S : Store} {H : Hp} (l : List Int) : DAll K S H (l.map .int) (l.map V.int) := dall_ints l
def gSortI : FC := fun S as k => match as with
  | [a] => Lv S a fun xs => xs.all isIn = true ∧ ∀ ns : List Int, ns.Perm (xs.map iD) → ns.Pairwise (· ≤ ·) → k (.lst (ns.map .int)) S
  | _ => False
theorem simSortI {K : PySem.W.Frag} : SimC K (rSortedI K) gSortI := by
  intro xs as S H Q k rel d h ret
  unfold gSortI at h
  split at h
  · obtain ⟨v, rfl, dv⟩ := d.one
    obtain ⟨ys, vs, p, rfl, hp, g, h1, h2⟩ := h.out rel dv
    have e := g.ins h1
    subst e
    exact ⟨p, ys.map iD, rfl, .inl (.inl hp), fun ns q hm hy hq => ret.newL rel (dall_ints ns) hq (h2 ns hm hy)⟩
  · exact h.elim
def KdAll (K : PySem.W.Frag) (d : Addr) : List (Str × Dt) → Prop
  | [] => True
  | kv :: r => (∃ u v, PySem.W.nsIn K d kv.1 = some (some u) ∧ RelV v u ∧ ∀ S H, D K S H kv.2 v) ∧ KdAll K d r
theorem kdm_of {K : PySem.W.Frag} {w : World} {mg : Str → Option Value} {x : Str} {kvs : List (Str × Dt)} {d : Addr} {es : Array DictEntry} {n : Nat} (h1 : mg x = some (.ref d)) (hl : K.lookup d = some ⟨.type "dict", none, .dict es n, #[]⟩) (hk : PySem.W.KeysLit w.params es.toList) (hs : (d == sysModules) = false) (h2 : keyIs es.toList (kvs.map (·.1)) = true) (h3 : KdAll K d kvs) : KDm K w mg x kvs := by
  refine ⟨d, es, n, h1, ⟨hl, hk, hs⟩, h2, ?_⟩
  clear h2
  induction kvs with
  | nil => intro kv h; cases h
  | cons a r ih =>
    intro kv h
    rcases List.mem_cons.mp h with rfl | h
    · exact h3.1
    · exact ih h3.2 kv h
theorem gc_tup {K : PySem.W.Frag} {mg : Str → Option Value} {x : Str} {a : Addr} {o : Option Addr} {n : Nat} {e : Array (Option Value)} {us : List Value} {vs : List V} {ds : List Dt} (h1 : mg x = some (.ref a)) (h2 : K.lookup a = some ⟨.type "tuple", o, .seq us.toArray n, e⟩) (hl : us.length ≤ sizeLine) (hv : Vals vs us) (hd : ∀ S H, DAll K S H ds vs) : Gc K mg x (.tup ds) :=
  ⟨.ref a, .ref a, h1, rfl, fun S H => Dtp (.inr ⟨_, us.toArray, n, h2, rfl, rfl, by simpa using hl, hv⟩) (hd S H)⟩
/-- a def that is asked nothing -/
theorem fn_never {P : Program} {w : World} {K : PySem.W.Frag} {mg : Str → Option Value} {base : Heap} {x qual : Str} {st : Stmt} {f : Addr} {fd : FuncData} {N ps : List Str} {k : Nat} {R : Fsp} (F : Fun K x qual st f fd) (Sc : FnScope N ps (defScope st)) (h : ∀ ds S Φ Ω, ¬ R ds S Φ Ω) : FnD P w K mg base (k + 1) f fd ps R :=
  F.okX Sc (fun vs H Q E ⟨ds, S, Φ, Ω, _, _, r, _⟩ => (h ds S Φ Ω r).elim) (fun cdv A outer s H vs Q E hr ⟨ds, S, Φ, Ω, _, _, r, _⟩ => (h ds S Φ Ω r).elim)
/-- xs + ys, a new list of the store -/
def fAddM : F2 := fun S a b k => Lv S a fun xs => Lv S b fun ys => xs.length + ys.length ≤ sizeLine ∧ ∀ p, S p = none → k (.ref p) (su S p (.lst (xs ++ ys)))
theorem simAddM {K : PySem.W.Frag} : SimR2 K rCat fAddM := by
  intro x y a b S H Q k rel dx dy h ret
  unfold fAddM at h
  obtain ⟨xs, vs, p, rfl, hp, gp, h⟩ := h.out rel dx
  obtain ⟨ys, ws, q, rfl, hq, gq, hs, h⟩ := h.out rel dy
  exact ⟨p, q, vs, ws, rfl, rfl, hp, hq, by rw [← gp.length, ← gq.length]; exact hs, fun l hl => ret.newM rel (gp.append gq) hl (h l (rel.hp hl))⟩
section
variable {X : Cx} {W : WX} {a b : Expr} {da db : XTE} {pos : Pos}
theorem de_addM (ha : DE X W a da) (hb : DE X W b db) : DE X W (.BinOp a .Add b pos) (xOp fAddM da db) := de_bin op_cat simAddM ha hb
end
end DL

set_option Elab.async false
set_option linter.all false
set_option maxRecDepth 100000
set_option maxHeartbeats 4000000
/-! Words. -/
namespace DL
open PySem PySem.Spec PyProof.Rows L2
/-- a proper name -/
def NameOk (s : Str) : Prop := 1 ≤ (cl s).length ∧ (cl s).length ≤ 8 ∧ ∀ c ∈ cl s, 97 ≤ c ∧ c ≤ 122
theorem NameOk.ok {s : Str} (h : NameOk s) : PyData.strOk s = true := strOk_of fun c hc => by have := h.2.2 c hc; omega
theorem NameOk.len {s : Str} (h : NameOk s) : s.length ≤ 8 := by rw [cl_len]; exact h.2.1
theorem NameOk.pos {s : Str} (h : NameOk s) : 1 ≤ s.length := by rw [cl_len]; exact h.1
inductive Wd where
  | nm (s : Str) | bk (s : Str) | any | anyback | empty | non
  | thn (x y : Wd) | orr (x y : Wd) | again (x : Wd) | more (x : Wd) | maybe (x : Wd)
namespace Wd
def d : Wd → Dt
  | nm s => .tup [.str "name", .str s]
  | bk s => .tup [.str "back", .str s]
  | any => .tup [.str "any"]
  | anyback => .tup [.str "anyback"]
  | empty => .tup [.str "empty"]
  | non => .tup [.str "none"]
  | thn x y => .tup [.str "then", x.d, y.d]
  | orr x y => .tup [.str "or", x.d, y.d]
  | again x => .tup [.str "again", x.d]
  | more x => .tup [.str "more", x.d]
  | maybe x => .tup [.str "maybe", x.d]
/-- how deep -/
def dp : Wd → Nat
  | thn x y => 1 + max x.dp y.dp
  | orr x y => 1 + max x.dp y.dp
  | again x => 1 + x.dp
  | more x => 1 + x.dp
  | maybe x => 1 + x.dp
  | _ => 1
/-- its leaves -/
def lv : Wd → Nat
  | thn x y => x.lv + y.lv
  | orr x y => x.lv + y.lv
  | again x => x.lv
  | more x => x.lv
  | maybe x => x.lv
  | _ => 1
def Ok : Wd → Prop
  | nm s => NameOk s
  | bk s => NameOk s
  | thn x y => x.Ok ∧ y.Ok
  | orr x y => x.Ok ∧ y.Ok
  | again x => x.Ok
  | more x => x.Ok
  | maybe x => x.Ok
  | _ => True
/-- a letter leaf -/
def isL : Wd → Bool
  | nm _ => true
  | bk _ => true
  | any => true
  | anyback => true
  | _ => false
def leaves : Wd → List Wd
  | thn x y => x.leaves ++ y.leaves
  | orr x y => x.leaves ++ y.leaves
  | again x => x.leaves
  | more x => x.leaves
  | maybe x => x.leaves
  | empty => []
  | non => []
  | nm s => [nm s]
  | bk s => [bk s]
  | any => [any]
  | anyback => [anyback]
/-- spells no row -/
def dead : Wd → Bool
  | thn x y => x.dead || y.dead
  | orr x y => x.dead && y.dead
  | more x => x.dead
  | non => true
  | _ => false
theorem dp_pos : ∀ w : Wd, 1 ≤ w.dp
  | thn x y => by unfold dp; omega
  | orr x y => by unfold dp; omega
  | again x => by unfold dp; omega
  | more x => by unfold dp; omega
  | maybe x => by unfold dp; omega
  | nm s => Nat.le_refl _
  | bk s => Nat.le_refl _
  | any => Nat.le_refl _
  | anyback => Nat.le_refl _
  | empty => Nat.le_refl _
  | non => Nat.le_refl _
theorem lv_pos : ∀ w : Wd, 1 ≤ w.lv
  | thn x y => by have := lv_pos x; unfold lv; omega
  | orr x y => by have := lv_pos x; unfold lv; omega
  | again x => lv_pos x
  | more x => lv_pos x
  | maybe x => lv_pos x
  | nm s => Nat.le_refl _
  | bk s => Nat.le_refl _
  | any => Nat.le_refl _
  | anyback => Nat.le_refl _
  | empty => Nat.le_refl _
  | non => Nat.le_refl _
theorem leaves_len : ∀ w : Wd, w.leaves.length ≤ w.lv
  | thn x y => by have := leaves_len x; have := leaves_len y; unfold lv leaves; rw [List.length_append]; omega
  | orr x y => by have := leaves_len x; have := leaves_len y; unfold lv leaves; rw [List.length_append]; omega
  | again x => leaves_len x
  | more x => leaves_len x
  | maybe x => leaves_len x
  | nm s => Nat.le_refl _
  | bk s => Nat.le_refl _
  | any => Nat.le_refl _
  | anyback => Nat.le_refl _
  | empty => Nat.zero_le _
  | non => Nat.zero_le _
/-- the parts -/
def parts : Wd → List Wd
  | thn x y => [x, y]
  | orr x y => [x, y]
  | again x => [x]
  | more x => [x]
  | maybe x => [x]
  | _ => []
end Wd
theorem flat_len : ∀ (ws : List Wd) (i : Nat), ((ws.take i).flatMap Wd.leaves).length ≤ (ws.map Wd.lv).sum
  | [], i => by simp
  | w :: ws, 0 => by simp
  | w :: ws, i + 1 => by
    have := flat_len ws i
    have := w.leaves_len
    rw [List.take_succ_cons, List.flatMap_cons, List.length_append, List.map_cons, List.sum_cons]
    omega
theorem lv_le_sum : ∀ {ws : List Wd} {w : Wd}, w ∈ ws → w.lv ≤ (ws.map Wd.lv).sum
  | x :: ws, w, h => by
    rw [List.map_cons, List.sum_cons]
    rcases List.mem_cons.mp h with rfl | h
    · omega
    · have := lv_le_sum h; omega
theorem tyN_wd {S : Store} {w : Wd} {k : String → Prop} (h : k "tuple") : tyN S w.d k := by cases w <;> exact h
/-- the same data, at most n deep; the first may stand in the store -/
def Same (S : Store) : Nat → Dt → Dt → Prop
  | 0, _, _ => False
  | n + 1, x, y => match y with
    | .lst ys => ∃ xs, (x = .lst xs ∨ ∃ p, x = .ref p ∧ S p = some (.lst xs)) ∧ xs.length = ys.length ∧ ys.length ≤ 1048576 ∧ ∀ (i : Nat) (x' y' : Dt), xs[i]? = some x' → ys[i]? = some y' → Same S n x' y'
    | .tup ys => ∃ xs, x = .tup xs ∧ xs.length = ys.length ∧ ys.length ≤ 1048576 ∧ ∀ (i : Nat) (x' y' : Dt), xs[i]? = some x' → ys[i]? = some y' → Same S n x' y'
    | .non => x = .non
    | .bl b => x = .bl b
    | .int i => x = .int i
    | .str s => x = .str s
    | _ => False
/-- the store's lists stay -/
theorem Same.mono {S S' : Store} (h : ∀ p xs, S p = some (.lst xs) → S' p = some (.lst xs)) : ∀ (n : Nat) (x y : Dt), Same S n x y → Same S' n x y
  | 0, _, _, q => q
  | n + 1, x, y, q => by
    cases y with
    | lst ys =>
      obtain ⟨xs, h1, h2, h3, h4⟩ := q
      refine ⟨xs, ?_, h2, h3, fun i x' y' e1 e2 => Same.mono h n x' y' (h4 i x' y' e1 e2)⟩
      rcases h1 with h1 | ⟨p, h1, h5⟩
      · exact .inl h1
      · exact .inr ⟨p, h1, h p xs h5⟩
    | tup ys =>
      obtain ⟨xs, h1, h2, h3, h4⟩ := q
      exact ⟨xs, h1, h2, h3, fun i x' y' e1 e2 => Same.mono h n x' y' (h4 i x' y' e1 e2)⟩
    | _ => exact q
mutual
/-- plain data: small, nothing in the store -/
def plainD : Nat → Dt → Bool
  | 0, _ => false
  | n + 1, .lst xs => plainDs n xs && decide (xs.length ≤ 1048576)
  | n + 1, .tup xs => plainDs n xs && decide (xs.length ≤ 1048576)
  | _ + 1, .rl _ => false
  | _ + 1, .ref _ => false
  | _ + 1, .ty _ => false
  | _ + 1, _ => true
def plainDs : Nat → List Dt → Bool
  | _, [] => true
  | n, x :: xs => plainD n x && plainDs n xs
end
theorem plainDs_mem : ∀ {n : Nat} {xs : List Dt} {x : Dt}, plainDs n xs = true → x ∈ xs → plainD n x = true
  | n, y :: ys, x, h, m => by
    unfold plainDs at h
    rw [Bool.and_eq_true] at h
    rcases List.mem_cons.mp m with rfl | m
    · exact h.1
    · exact plainDs_mem h.2 m
theorem Same.refl {S : Store} : ∀ (n : Nat) (x : Dt), plainD n x = true → Same S n x x
  | 0, _, h => by unfold plainD at h; cases h
  | n + 1, x, h => by
    cases x with
    | lst ys =>
      unfold plainD at h
      rw [Bool.and_eq_true] at h
      refine ⟨ys, .inl rfl, rfl, of_decide_eq_true h.2, fun i x' y' e1 e2 => ?_⟩
      rw [e1] at e2; cases e2
      exact Same.refl n x' (plainDs_mem h.1 (List.mem_of_getElem? e1))
    | tup ys =>
      unfold plainD at h
      rw [Bool.and_eq_true] at h
      refine ⟨ys, rfl, rfl, of_decide_eq_true h.2, fun i x' y' e1 e2 => ?_⟩
      rw [e1] at e2; cases e2
      exact Same.refl n x' (plainDs_mem h.1 (List.mem_of_getElem? e1))
    | rl _ => unfold plainD at h; cases h
    | ref _ => unfold plainD at h; cases h
    | ty _ => unfold plainD at h; cases h
    | non => exact rfl
    | bl b => exact rfl
    | int b => exact rfl
    | str b => exact rfl
theorem Wd.plain (w : Wd) : ∀ n, w.dp < n → plainD n w.d = true := by
  induction w with
  | thn x y ihx ihy =>
    intro n h
    unfold Wd.dp at h
    match n, h with
    | 0, h => exact absurd h (Nat.not_lt_zero _)
    | 1, h => omega
    | n + 2, h =>
      have a := ihx (n + 1) (by omega)
      have b := ihy (n + 1) (by omega)
      simp [Wd.d, plainD, plainDs, a, b]
  | orr x y ihx ihy =>
    intro n h
    unfold Wd.dp at h
    match n, h with
    | 0, h => exact absurd h (Nat.not_lt_zero _)
    | 1, h => omega
    | n + 2, h =>
      have a := ihx (n + 1) (by omega)
      have b := ihy (n + 1) (by omega)
      simp [Wd.d, plainD, plainDs, a, b]
  | again x ihx =>
    intro n h
    unfold Wd.dp at h
    match n, h with
    | 0, h => exact absurd h (Nat.not_lt_zero _)
    | 1, h => omega
    | n + 2, h =>
      have a := ihx (n + 1) (by omega)
      simp [Wd.d, plainD, plainDs, a]
  | more x ihx =>
    intro n h
    unfold Wd.dp at h
    match n, h with
    | 0, h => exact absurd h (Nat.not_lt_zero _)
    | 1, h => omega
    | n + 2, h =>
      have a := ihx (n + 1) (by omega)
      simp [Wd.d, plainD, plainDs, a]
  | maybe x ihx =>
    intro n h
    unfold Wd.dp at h
    match n, h with
    | 0, h => exact absurd h (Nat.not_lt_zero _)
    | 1, h => omega
    | n + 2, h =>
      have a := ihx (n + 1) (by omega)
      simp [Wd.d, plainD, plainDs, a]
  | nm s =>
    intro n h
    match n, h with
    | 0, h => exact absurd h (Nat.not_lt_zero _)
    | 1, h => exact absurd h (Nat.lt_irrefl _)
    | n + 2, h => rfl
  | bk s =>
    intro n h
    match n, h with
    | 0, h => exact absurd h (Nat.not_lt_zero _)
    | 1, h => exact absurd h (Nat.lt_irrefl _)
    | n + 2, h => rfl
  | any =>
    intro n h
    match n, h with
    | 0, h => exact absurd h (Nat.not_lt_zero _)
    | 1, h => exact absurd h (Nat.lt_irrefl _)
    | n + 2, h => rfl
  | anyback =>
    intro n h
    match n, h with
    | 0, h => exact absurd h (Nat.not_lt_zero _)
    | 1, h => exact absurd h (Nat.lt_irrefl _)
    | n + 2, h => rfl
  | empty =>
    intro n h
    match n, h with
    | 0, h => exact absurd h (Nat.not_lt_zero _)
    | 1, h => exact absurd h (Nat.lt_irrefl _)
    | n + 2, h => rfl
  | non =>
    intro n h
    match n, h with
    | 0, h => exact absurd h (Nat.not_lt_zero _)
    | 1, h => exact absurd h (Nat.lt_irrefl _)
    | n + 2, h => rfl
theorem Wd.leaves_dp (w : Wd) : ∀ v ∈ w.leaves, v.dp = 1 := by
  induction w with
  | thn x y ihx ihy => intro v h; rw [Wd.leaves, List.mem_append] at h; exact h.elim (ihx v) (ihy v)
  | orr x y ihx ihy => intro v h; rw [Wd.leaves, List.mem_append] at h; exact h.elim (ihx v) (ihy v)
  | again x ih => exact ih
  | more x ih => exact ih
  | maybe x ih => exact ih
  | empty => intro v h; cases h
  | non => intro v h; cases h
  | nm s => intro v h; rw [Wd.leaves, List.mem_singleton] at h; subst h; rfl
  | bk s => intro v h; rw [Wd.leaves, List.mem_singleton] at h; subst h; rfl
  | any => intro v h; rw [Wd.leaves, List.mem_singleton] at h; subst h; rfl
  | anyback => intro v h; rw [Wd.leaves, List.mem_singleton] at h; subst h; rfl
theorem same_leaves {S : Store} {w : Wd} {q : Addr} (h : S q = some (.lst (w.leaves.map Wd.d))) (hl : w.lv ≤ 1000) : Same S 100 (.ref q) (.lst (w.leaves.map Wd.d)) := by
  have := w.leaves_len
  refine ⟨_, .inr ⟨q, rfl, h⟩, rfl, by rw [List.length_map]; omega, fun i x' y' e1 e2 => ?_⟩
  rw [e1] at e2; cases e2
  obtain ⟨v, hv, rfl⟩ := List.mem_map.mp (List.mem_of_getElem? e1)
  exact Same.refl 99 v.d (v.plain 99 (by rw [w.leaves_dp v hv]; decide))
/-! ### written -/
namespace Wd
def head : Wd → Str
  | nm _ => "name"
  | bk _ => "back"
  | any => "any"
  | anyback => "anyback"
  | empty => "empty"
  | non => "none"
  | thn _ _ => "then"
  | orr _ _ => "or"
  | again _ => "again"
  | more _ => "more"
  | maybe _ => "maybe"
/-- how many nodes -/
def sz : Wd → Nat
  | thn x y => 1 + x.sz + y.sz
  | orr x y => 1 + x.sz + y.sz
  | again x => 1 + x.sz
  | more x => 1 + x.sz
  | maybe x => 1 + x.sz
  | _ => 1
end Wd
def hsel (hs : List Str) (h : Str) : Bool := (hs.map Dt.str).any fun y => eqD y (.str h)
def brk (b : Bool) (l : List Nat) : List Nat := if b then 40 :: (l ++ [41]) else l
namespace Wd
def txt : Wd → List Nat
  | nm s => cl s
  | bk s => 94 :: cl s
  | any => [46]
  | anyback => [94, 46]
  | empty => [40, 41]
  | non => [33]
  | thn x y => brk (hsel ["then", "or"] x.head) x.txt ++ 32 :: brk (hsel ["or"] y.head) y.txt
  | orr x y => brk (hsel ["or"] x.head) x.txt ++ 124 :: y.txt
  | again x => brk (hsel ["then", "or"] x.head) x.txt ++ [42]
  | more x => brk (hsel ["then", "or"] x.head) x.txt ++ [43]
  | maybe x => brk (hsel ["then", "or"] x.head) x.txt ++ [63]
end Wd
theorem brk_len (b : Bool) (l : List Nat) : (brk b l).length ≤ l.length + 2 := by
  unfold brk
  split
  · simp
  · omega
theorem Wd.txt_len (w : Wd) (h : w.Ok) : w.txt.length ≤ 9 * w.sz := by
  induction w with
  | nm s => have := h.2.1; unfold Wd.txt Wd.sz; omega
  | bk s => have := h.2.1; unfold Wd.txt Wd.sz; rw [List.length_cons]; omega
  | any => exact (by decide : 1 ≤ 9)
  | anyback => exact (by decide : 2 ≤ 9)
  | empty => exact (by decide : 2 ≤ 9)
  | non => exact (by decide : 1 ≤ 9)
  | thn x y ihx ihy =>
    have a := ihx h.1; have b := ihy h.2
    have c := brk_len (hsel ["then", "or"] x.head) x.txt
    have d := brk_len (hsel ["or"] y.head) y.txt
    unfold Wd.txt Wd.sz; rw [List.length_append, List.length_cons]; omega
  | orr x y ihx ihy =>
    have a := ihx h.1; have b := ihy h.2
    have c := brk_len (hsel ["or"] x.head) x.txt
    unfold Wd.txt Wd.sz; rw [List.length_append, List.length_cons]; omega
  | again x ih =>
    have a := ih h
    have c := brk_len (hsel ["then", "or"] x.head) x.txt
    unfold Wd.txt Wd.sz; rw [List.length_append, List.length_singleton]; omega
  | more x ih =>
    have a := ih h
    have c := brk_len (hsel ["then", "or"] x.head) x.txt
    unfold Wd.txt Wd.sz; rw [List.length_append, List.length_singleton]; omega
  | maybe x ih =>
    have a := ih h
    have c := brk_len (hsel ["then", "or"] x.head) x.txt
    unfold Wd.txt Wd.sz; rw [List.length_append, List.length_singleton]; omega
theorem Wd.sz_le (w : Wd) : w.sz ≤ w.lv * w.dp := by
  have key : ∀ a b c d : Nat, 1 ≤ a → 1 ≤ b → 1 + a * c + b * d ≤ (a + b) * (1 + max c d) := by
    intro a b c d h1 h2
    have e1 : a * c ≤ a * max c d := Nat.mul_le_mul_left _ (Nat.le_max_left _ _)
    have e2 : b * d ≤ b * max c d := Nat.mul_le_mul_left _ (Nat.le_max_right _ _)
    rw [Nat.add_mul, Nat.mul_add, Nat.mul_add]; omega
  induction w with
  | thn x y ihx ihy => have := key x.lv y.lv x.dp y.dp x.lv_pos y.lv_pos; unfold Wd.sz Wd.lv Wd.dp; omega
  | orr x y ihx ihy => have := key x.lv y.lv x.dp y.dp x.lv_pos y.lv_pos; unfold Wd.sz Wd.lv Wd.dp; omega
  | again x ih => have := x.lv_pos; unfold Wd.sz Wd.lv Wd.dp; rw [Nat.mul_add]; omega
  | more x ih => have := x.lv_pos; unfold Wd.sz Wd.lv Wd.dp; rw [Nat.mul_add]; omega
  | maybe x ih => have := x.lv_pos; unfold Wd.sz Wd.lv Wd.dp; rw [Nat.mul_add]; omega
  | _ => exact (by decide : 1 ≤ 1 * 1)
theorem flat_strs (hs : List Str) : (hs.map Dt.str).all flatD = true := by rw [List.all_map]; exact List.all_eq_true.mpr fun _ _ => rfl
theorem fIx0_wd {S : Store} {w : Wd} {k : OK1} (h : k (.str w.head) S) : fIx S w.d (.int 0) k := by cases w <;> exact ⟨_, rfl, h⟩
end DL

set_option Elab.async false
set_option linter.all false
set_option maxRecDepth 100000
set_option maxHeartbeats 4000000
/-! The data layer: dicts of the store, keys ints and texts. -/
namespace DL
open PySem PySem.Spec PyProof.Rows L2
def kD : Dt → Option Key
  | .int i => some (.inl i)
  | .str x => some (.inr x)
  | _ => none
theorem kD_V {K : PySem.W.Frag} {S : Store} {H : Hp} {d : Dt} {v : V} {k : Key} (h : D K S H d v) (e : kD d = some k) : v = kV k := by
  cases d with
  | int i => cases e; cases h; rfl
  | str i => cases e; cases h; rfl
  | _ => cases e
section
variable {κ : Type} [DecidableEq κ]
def gv (kvs : List (κ × Dt)) (k : κ) : Option Dt := (kvs.find? fun kv => decide (kv.1 = k)).map (·.2)
def putD (kvs : List (κ × Dt)) (k : κ) (v : Dt) : List (κ × Dt) := if (kvs.any fun kv => decide (kv.1 = k)) = true then kvs.map (fun kv => if kv.1 = k then (kv.1, v) else kv) else kvs ++ [(k, v)]
def dropD (kvs : List (κ × Dt)) (k : κ) : List (κ × Dt) := kvs.filter fun kv => decide (kv.1 ≠ k)
def mergeD (kvs more : List (κ × Dt)) : List (κ × Dt) := more.foldl (fun acc kv => putD acc kv.1 kv.2) kvs
theorem gv_nil {k : κ} : gv ([] : List (κ × Dt)) k = none := rfl
theorem gv_cons {p : κ × Dt} {r : List (κ × Dt)} {k : κ} : gv (p :: r) k = if p.1 = k then some p.2 else gv r k := by
  unfold gv
  rw [List.find?_cons]
  by_cases e : p.1 = k
  · rw [decide_eq_true e, if_pos e]; rfl
  · rw [decide_eq_false e, if_neg e]
theorem gv_any (k : κ) (kvs : List (κ × Dt)) : (kvs.any fun kv => decide (kv.1 = k)) = (gv kvs k).isSome := by
  induction kvs with
  | nil => rfl
  | cons p r ih =>
    rw [List.any_cons, gv_cons, ih]
    by_cases e : p.1 = k
    · rw [decide_eq_true e, if_pos e]; rfl
    · rw [decide_eq_false e, if_neg e, Bool.false_or]
theorem gv_put (kvs : List (κ × Dt)) (k j : κ) (y : Dt) : gv (putD kvs k y) j = if j = k then some y else gv kvs j := by
  unfold putD
  by_cases a : (kvs.any fun kv => decide (kv.1 = k)) = true
  · rw [if_pos a]
    induction kvs with
    | nil => cases a
    | cons p r ih =>
      rw [List.map_cons, gv_cons, gv_cons]
      by_cases e : p.1 = k
      · rw [if_pos e]
        by_cases ej : p.1 = j
        · rw [if_pos (show (p.1, y).1 = j from ej), if_pos (ej.symm.trans e)]
        · rw [if_neg (show ¬ (p.1, y).1 = j from ej), if_neg (fun z => ej (e.trans z.symm)), if_neg ej]
          by_cases ar : (r.any fun kv => decide (kv.1 = k)) = true
          · rw [ih ar, if_neg (fun z => ej (e.trans z.symm))]
          · have : r.map (fun kv => if kv.1 = k then (kv.1, y) else kv) = r := by
              rw [List.map_congr_left (g := id)]
              · simp
              · intro x hx
                rw [if_neg]; rfl
                intro z
                exact ar (List.any_eq_true.mpr ⟨x, hx, decide_eq_true z⟩)
            rw [this]
      · rw [if_neg e]
        rw [List.any_cons, decide_eq_false e, Bool.false_or] at a
        by_cases ej : p.1 = j
        · rw [if_pos ej, if_pos ej, if_neg (fun z => e (ej.trans z))]
        · rw [if_neg ej, if_neg ej, ih a]
  · rw [if_neg a]
    induction kvs with
    | nil =>
      rw [List.nil_append, gv_cons]
      by_cases e : j = k
      · rw [if_pos e.symm, if_pos e]
      · rw [if_neg (fun z => e z.symm), if_neg e]
    | cons p r ih =>
      rw [List.any_cons, Bool.or_eq_true, not_or] at a
      rw [List.cons_append, gv_cons, gv_cons, ih a.2]
      by_cases ej : p.1 = j
      · rw [if_pos ej, if_pos ej, if_neg (fun z => a.1 (decide_eq_true (ej.trans z)))]
      · rw [if_neg ej, if_neg ej]
theorem putD_new {kvs : List (κ × Dt)} {k : κ} (v : Dt) (h : gv kvs k = none) : putD kvs k v = kvs ++ [(k, v)] := by
  unfold putD
  rw [gv_any, h]; rfl
variable {K : PySem.W.Frag} {S : Store} {H : Hp}
theorem DKV.val (k : κ) : ∀ {kvs : List (κ × Dt)} {vs : List (κ × V)}, DKV K S H kvs vs → (gv kvs k = none ∧ valV vs k = none) ∨ ∃ d v, gv kvs k = some d ∧ valV vs k = some v ∧ D K S H d v
  | _, _, .nil => .inl ⟨rfl, rfl⟩
  | _, _, @Paired.cons _ _ _ p q l₁ l₂ r t => by
    obtain ⟨r1, r2⟩ := r
    by_cases e : p.1 = k
    · exact .inr ⟨p.2, q.2, by rw [gv_cons, if_pos e], valV_pos (r1.symm.trans e), r2⟩
    · rw [gv_cons, if_neg e, valV_neg (fun z => e (r1.trans z))]
      exact DKV.val k t
theorem DKV.any (k : κ) {kvs : List (κ × Dt)} {vs : List (κ × V)} (h : DKV K S H kvs vs) : (kvs.any fun kv => decide (kv.1 = k)) = (vs.any fun kv => decide (kv.1 = k)) := by
  rw [gv_any, valV_any]
  rcases h.val k with ⟨e1, e2⟩ | ⟨d, v, e1, e2, _⟩ <;> rw [e1, e2] <;> rfl
theorem DKV.map_put {k : κ} {d : Dt} {v : V} (hd : D K S H d v) : ∀ {kvs : List (κ × Dt)} {vs : List (κ × V)}, DKV K S H kvs vs → DKV K S H (kvs.map fun kv => if kv.1 = k then (kv.1, d) else kv) (vs.map fun kv => if kv.1 = k then (kv.1, v) else kv)
  | _, _, .nil => .nil
  | _, _, @Paired.cons _ _ _ p q l₁ l₂ r t => by
    obtain ⟨r1, r2⟩ := r
    rw [List.map_cons, List.map_cons]
    refine .cons ?_ (DKV.map_put hd t)
    by_cases e : p.1 = k
    · rw [if_pos e, if_pos (r1.symm.trans e)]; exact ⟨r1, hd⟩
    · rw [if_neg e, if_neg (fun z => e (r1.trans z))]; exact ⟨r1, r2⟩
theorem DKV.app {kvs more : List (κ × Dt)} {vs ws : List (κ × V)} (h : DKV K S H kvs vs) (g : DKV K S H more ws) : DKV K S H (kvs ++ more) (vs ++ ws) := paired_app h g
theorem DKV.put {k : κ} {d : Dt} {v : V} (hd : D K S H d v) {kvs : List (κ × Dt)} {vs : List (κ × V)} (h : DKV K S H kvs vs) : DKV K S H (putD kvs k d) (putK vs k v) := by
  unfold putD putK
  rw [h.any k]
  by_cases e : (vs.any fun kv => decide (kv.1 = k)) = true
  · rw [if_pos e, if_pos e]; exact DKV.map_put hd h
  · rw [if_neg e, if_neg e]; exact h.app (.cons ⟨rfl, hd⟩ .nil)
theorem DKV.drop (k : κ) : ∀ {kvs : List (κ × Dt)} {vs : List (κ × V)}, DKV K S H kvs vs → DKV K S H (dropD kvs k) (dropK vs k)
  | _, _, .nil => .nil
  | _, _, @Paired.cons _ _ _ p q l₁ l₂ r t => by
    obtain ⟨r1, r2⟩ := r
    have ih := DKV.drop k t
    unfold dropD dropK at ih ⊢
    rw [List.filter_cons, List.filter_cons]
    by_cases e : p.1 = k
    · rw [if_neg (by simpa using e), if_neg (by simpa using r1.symm.trans e)]; exact ih
    · rw [if_pos (by simpa using e), if_pos (by simpa using fun z => e (r1.trans z))]; exact .cons ⟨r1, r2⟩ ih
end
section
variable {K : PySem.W.Frag} {S : Store} {H : Hp}
theorem DKV.merge : ∀ {more : List (Key × Dt)} {ws : List (Key × V)} {kvs : List (Key × Dt)} {vs : List (Key × V)}, DKV K S H more ws → DKV K S H kvs vs → DKV K S H (mergeD kvs more) (mergeK vs ws)
  | _, _, _, _, .nil, h => h
  | _, _, kvs, vs, @Paired.cons _ _ _ p q l₁ l₂ r t, h => by
    show DKV K S H (mergeD (putD kvs p.1 p.2) l₁) (mergeK (putK vs q.1 q.2) l₂)
    rw [← r.1]
    exact DKV.merge t (DKV.put r.2 h)
/-- a dict of the store -/
theorem rel_dk (rel : Rel K S H) {p : Addr} {kvs : List (Key × Dt)} (e : S p = some (.dK kvs)) : ∃ vs, H p = some (.dK vs) ∧ DKV K S H kvs vs := rel p _ e
theorem put_dk (rel : Rel K S H) {p : Addr} {kvs kvs' : List (Key × Dt)} {vs' : List (Key × V)} (e : S p = some (.dK kvs)) (g : DKV K S H kvs' vs') : Rel K (su S p (.dK kvs')) (upd H p (.dK vs')) ∧ Step S H (su S p (.dK kvs')) (upd H p (.dK vs')) := by
  have ne : S p ≠ none := by rw [e]; intro z; cases z
  have st : Step S H (su S p (.dK kvs')) (upd H p (.dK vs')) := Step.put (.inl ne)
  exact ⟨rel.put (m := .dK kvs') (.inl ne) ⟨_, upd_same, DKV.step st g⟩, st⟩
end

/-! ### readings -/
@[reducible] def xDget (do_ di : XTE) : XTE := fun ρ S Φ Ω => do_ ρ S (fun o S1 => di ρ S1 (fun i S2 => match o with | .ref p => ∃ kvs k d, S2 p = some (.dK kvs) ∧ kD i = some k ∧ gv kvs k = some d ∧ Φ d S2 | _ => False) Ω) Ω
@[reducible] def xDin (neg : Bool) (dy do_ : XTE) : XTE := fun ρ S Φ Ω => dy ρ S (fun y S1 => do_ ρ S1 (fun o S2 => match o with | .ref p => ∃ kvs k, S2 p = some (.dK kvs) ∧ kD y = some k ∧ Φ (.bl (neg != (gv kvs k).isSome)) S2 | _ => False) Ω) Ω
@[reducible] def xDget1 (do_ di : XTE) : XTE := fun ρ S Φ Ω => do_ ρ S (fun o S1 => match o with | .ref p => (∃ kvs, S1 p = some (.dK kvs)) ∧ di ρ S1 (fun i S2 => ∃ kvs k, S2 p = some (.dK kvs) ∧ kD i = some k ∧ Φ ((gv kvs k).getD .non) S2) Ω | _ => False) Ω
@[reducible] def xDget2 (do_ di dx : XTE) : XTE := fun ρ S Φ Ω => do_ ρ S (fun o S1 => match o with | .ref p => (∃ kvs, S1 p = some (.dK kvs)) ∧ di ρ S1 (fun i S2 => dx ρ S2 (fun x S3 => ∃ kvs k, S3 p = some (.dK kvs) ∧ kD i = some k ∧ Φ ((gv kvs k).getD x) S3) Ω) Ω | _ => False) Ω
@[reducible] def xDpop (do_ di : XTE) : XTE := fun ρ S Φ Ω => do_ ρ S (fun o S1 => match o with | .ref p => (∃ kvs, S1 p = some (.dK kvs)) ∧ di ρ S1 (fun i S2 => ∃ kvs k d, S2 p = some (.dK kvs) ∧ kD i = some k ∧ gv kvs k = some d ∧ Φ d (su S2 p (.dK (dropD kvs k)))) Ω | _ => False) Ω
@[reducible] def xDnew : XTE := fun _ S Φ _ => ∀ p, S p = none → Φ (.ref p) (su S p (.dK []))
@[reducible] def xDput (do_ di dv : XTE) : XTS := fun Δ Ω ρ S => dv ρ S (fun a S1 => do_ ρ S1 (fun o S2 => di ρ S2 (fun i S3 => match o with
  | .ref p => ∃ kvs k, S3 p = some (.dK kvs) ∧ kD i = some k ∧ kvs.length < sizeLine ∧ Δ.nx ρ (su S3 p (.dK (putD kvs k a)))
  | _ => False) fun c fs S1 => Ω c fs ρ S1) fun c fs S1 => Ω c fs ρ S1) fun c fs S1 => Ω c fs ρ S1
abbrev XTP := Ro → Store → (List (Dt × Dt) → Store → Prop) → XK1 → Prop
def SimP (K : PySem.W.Frag) (W : WX) (trs : List (TE × TE)) (d : XTP) : Prop := ∀ σ H ρ S Q Φ Ω, Rel K S H → EnvR K S H σ ρ → d ρ S Φ Ω → (∀ ps H' qs S', Rel K S' H' → Step S H S' H' → Paired (fun q p => D K S' H' q.1 p.1 ∧ D K S' H' q.2 p.2) qs ps → Φ qs S' → Q ps H') → Exc K S H Ω (WE W σ) → tPairs trs σ H Q
def DPs (X : Cx) (W : WX) (pos : Pos) (ks : List (Option Expr)) (vs : List Expr) (d : XTP) : Prop := ∃ trs, PPs X pos ks vs trs ∧ SimP X.K W trs d
@[reducible] def xpNil : XTP := fun _ S Φ _ => Φ [] S
@[reducible] def xpCons (dk dv : XTE) (r : XTP) : XTP := fun ρ S Φ Ω => dk ρ S (fun a S1 => dv ρ S1 (fun b S2 => r ρ S2 (fun qs S3 => Φ ((a, b) :: qs) S3) Ω) Ω) Ω
@[reducible] def xDisp (d : XTP) : XTE := fun ρ S Φ Ω => ∀ p, S p = none → d ρ (su S p (.dK [])) (fun qs S2 => S2 p = some (.dK []) ∧ ∃ kvs : List (Key × Dt), qs.map (fun q => (kD q.1, q.2)) = kvs.map (fun q => (some q.1, q.2)) ∧ kvs.length ≤ 15 ∧ Φ (.ref p) (su S2 p (.dK (mergeD [] kvs)))) Ω
section
variable {X : Cx} {W : WX} {o i e f value : Expr} {do_ di dx dv : XTE} {pos apos cpos pos' : Pos} {ks : List (Option Expr)} {vs : List Expr} {dp : XTP}
theorem Step.d2 {K : PySem.W.Frag} {S S' : Store} {H H' : Hp} {d : Dt} {v : V} (s : Step S H S' H') (h : D K S H d v) : D K S' H' d v := D.step s d h
theorem de_dget (hu : X.A.units + 1 < cLine) (ho : DE X W o do_) (hi : DE X W i di) (hs : NoSl i := by intro _ _; rfl) : DE X W (.Subscript o i pos) (xDget do_ di) := by
  obtain ⟨t, p1, s1⟩ := ho
  obtain ⟨t2, p2, s2⟩ := hi
  refine ⟨_, pe_dget hu p1 p2 hs, fun σ H ρ S Q Φ Ω rel env hd ret exc => ?_⟩
  refine s1 σ H ρ S _ _ Ω rel env hd (fun x H1 a S1 rel1 st1 d1 g1 => ?_) exc
  refine s2 σ H1 ρ S1 _ _ Ω rel1 (env.step st1) g1 (fun y H2 b S2 rel2 st2 d2 g2 => ?_) (exc.mono st1)
  split at g2
  · rename_i p
    obtain ⟨kvs, k, d, e1, e2, e3, g2⟩ := g2
    cases d1
    obtain ⟨us, h1, h2⟩ := rel_dk rel2 e1
    have ey := kD_V d2 e2
    subst ey
    rcases h2.val k with ⟨z, _⟩ | ⟨d', v, z1, z2, z3⟩
    · rw [z] at e3; cases e3
    · rw [z1] at e3; cases e3
      refine ⟨p, v, rfl, ?_, (ret.mono (st1.trans st2)).now rel2 z3 g2⟩
      rw [← z2]; exact .k h1
  · exact g2.elim
theorem pc_de_din (hu : X.A.units + 1 < cLine) (hi : DE X W i di) (ho : DE X W o do_) : ∃ t, PC X .In i o t ∧ SimE X.K W t (xDin false di do_) := by
  obtain ⟨t, p1, s1⟩ := ho
  obtain ⟨t2, p2, s2⟩ := hi
  refine ⟨_, pc_din hu p2 p1, fun σ H ρ S Q Φ Ω rel env hd ret exc => ?_⟩
  refine s2 σ H ρ S _ _ Ω rel env hd (fun y H1 b S1 rel1 st1 d1 g1 => ?_) exc
  refine s1 σ H1 ρ S1 _ _ Ω rel1 (env.step st1) g1 (fun x H2 a S2 rel2 st2 d2 g2 => ?_) (exc.mono st1)
  split at g2
  · rename_i p
    obtain ⟨kvs, k, e1, e2, g2⟩ := g2
    cases d2
    obtain ⟨us, h1, h2⟩ := rel_dk rel2 e1
    have ey := kD_V (D.step st2 _ d1) e2
    subst ey
    refine ⟨p, _, rfl, .k h1, ?_⟩
    have e : (valV us k).isSome = (gv kvs k).isSome := by rcases h2.val k with ⟨z1, z2⟩ | ⟨_, _, z1, z2, _⟩ <;> rw [z1, z2] <;> rfl
    rw [e]
    rw [Bool.false_bne] at g2
    exact (ret.mono (st1.trans st2)).now rel2 Dbl g2
  · exact g2.elim
theorem pc_de_dnin (hu : X.A.units + 1 < cLine) (hi : DE X W i di) (ho : DE X W o do_) : ∃ t, PC X .NotIn i o t ∧ SimE X.K W t (xDin true di do_) := by
  obtain ⟨t, p1, s1⟩ := ho
  obtain ⟨t2, p2, s2⟩ := hi
  refine ⟨_, pc_dnotin hu p2 p1, fun σ H ρ S Q Φ Ω rel env hd ret exc => ?_⟩
  refine s2 σ H ρ S _ _ Ω rel env hd (fun y H1 b S1 rel1 st1 d1 g1 => ?_) exc
  refine s1 σ H1 ρ S1 _ _ Ω rel1 (env.step st1) g1 (fun x H2 a S2 rel2 st2 d2 g2 => ?_) (exc.mono st1)
  split at g2
  · rename_i p
    obtain ⟨kvs, k, e1, e2, g2⟩ := g2
    cases d2
    obtain ⟨us, h1, h2⟩ := rel_dk rel2 e1
    have ey := kD_V (D.step st2 _ d1) e2
    subst ey
    refine ⟨p, _, rfl, .k h1, ?_⟩
    have e : (valV us k).isSome = (gv kvs k).isSome := by rcases h2.val k with ⟨z1, z2⟩ | ⟨_, _, z1, z2, _⟩ <;> rw [z1, z2] <;> rfl
    rw [e]
    rw [Bool.true_bne] at g2
    exact (ret.mono (st1.trans st2)).now rel2 Dbl g2
  · exact g2.elim
theorem de_din (hu : X.A.units + 1 < cLine) (hi : DE X W i di) (ho : DE X W o do_) (h1 : behindInMarks .In o = false := by rfl) : DE X W (.Compare i [.In] [o] pos) (xDin false di do_) := let ⟨_, p, s⟩ := pc_de_din hu hi ho; ⟨_, pe_cmp p h1, s⟩
theorem dt_din (hu : X.A.units + 1 < cLine) (hi : DE X W i di) (ho : DE X W o do_) (h1 : behindInMarks .In o = false := by rfl) : DTt X W (.Compare i [.In] [o] pos) (xTest (xDin false di do_)) := let ⟨_, p, s⟩ := pc_de_din hu hi ho; ⟨_, pt_cmp p h1, simTest s⟩
theorem de_dnin (hu : X.A.units + 1 < cLine) (hi : DE X W i di) (ho : DE X W o do_) (h1 : behindInMarks .NotIn o = false := by rfl) : DE X W (.Compare i [.NotIn] [o] pos) (xDin true di do_) := let ⟨_, p, s⟩ := pc_de_dnin hu hi ho; ⟨_, pe_cmp p h1, s⟩
theorem dt_dnin (hu : X.A.units + 1 < cLine) (hi : DE X W i di) (ho : DE X W o do_) (h1 : behindInMarks .NotIn o = false := by rfl) : DTt X W (.Compare i [.NotIn] [o] pos) (xTest (xDin true di do_)) := let ⟨_, p, s⟩ := pc_de_dnin hu hi ho; ⟨_, pt_cmp p h1, simTest s⟩
theorem m1_of {m : Str} (h1 : attributeBase o m X.env (eval o X.env) = eval o X.env) (h2 : ((backTo cpos (starEach [e] X.env)).all (fun x => !x.1) && (backToKw cpos (keywordEach [] X.env)).all (fun x => x.1.isSome)
    && decide (([e] : List Expr).length + ([] : List Keyword).length + (if ([] : List Keyword).isEmpty then 0 else 1) < 30)) = true) (h3 : (apos.endLine == cpos.line) = true) (h4 : backTo cpos (starEach [e] X.env) = [(false, eval e X.env)]) : M1 X o m apos e cpos := ⟨h1, h2, h3, h4⟩
theorem de_dget2 (hu : X.A.units + 1 < cLine) (ho : DE X W o do_) (he : DE X W e di) (hf : DE X W f dx) (h1 : attributeBase o "get" X.env (eval o X.env) = eval o X.env := by rfl) (h2 : ((backTo cpos (starEach [e, f] X.env)).all (fun x => !x.1) && (backToKw cpos (keywordEach [] X.env)).all (fun x => x.1.isSome)
    && decide (([e, f] : List Expr).length + ([] : List Keyword).length + (if ([] : List Keyword).isEmpty then 0 else 1) < 30)) = true := by rfl) (h3 : (apos.endLine == cpos.line) = true := by rfl) (h4 : backTo cpos (starEach [e, f] X.env) = [(false, eval e X.env), (false, eval f X.env)] := by rfl) :
    DE X W (.Call (.Attribute o "get" apos) [e, f] [] cpos) (xDget2 do_ di dx) := by
  obtain ⟨t, p1, s1⟩ := ho
  obtain ⟨t2, p2, s2⟩ := he
  obtain ⟨t3, p3, s3⟩ := hf
  refine ⟨_, pe_dget2 hu p1 p2 p3 ⟨h1, h2, h3, h4⟩, fun σ H ρ S Q Φ Ω rel env hd ret exc => ?_⟩
  refine s1 σ H ρ S _ _ Ω rel env hd (fun x H1 a S1 rel1 st1 d1 g1 => ?_) exc
  split at g1
  · rename_i p
    obtain ⟨⟨kvs0, e0⟩, g1⟩ := g1
    cases d1
    obtain ⟨us0, h0, _⟩ := rel_dk rel1 e0
    refine ⟨p, rfl, .inl ⟨us0, .inl h0⟩, ?_⟩
    refine s2 σ H1 ρ S1 _ _ Ω rel1 (env.step st1) g1 (fun y H2 b S2 rel2 st2 d2 g2 => ?_) (exc.mono st1)
    have st12 := st1.trans st2
    refine s3 σ H2 ρ S2 _ _ Ω rel2 (env.step st12) g2 (fun z H3 c S3 rel3 st3 d3 g3 => ?_) (exc.mono st12)
    obtain ⟨kvs, k, e1, e2, g3⟩ := g3
    obtain ⟨us, h1, h2⟩ := rel_dk rel3 e1
    have ey := kD_V (D.step st3 _ d2) e2
    subst ey
    refine ⟨_, .k h1, ?_⟩
    have ret3 := ret.mono (st12.trans st3)
    rcases h2.val k with ⟨z1, z2⟩ | ⟨d, v, z1, z2, z3⟩
    · rw [z1] at g3; rw [z2]; exact ret3.now rel3 d3 g3
    · rw [z1] at g3; rw [z2]; exact ret3.now rel3 z3 g3
  · exact g1.elim
theorem de_dpop (ho : DE X W o do_) (he : DE X W e di) (h1 : attributeBase o "pop" X.env (eval o X.env) = eval o X.env := by rfl) (h2 : ((backTo cpos (starEach [e] X.env)).all (fun x => !x.1) && (backToKw cpos (keywordEach [] X.env)).all (fun x => x.1.isSome)
    && decide (([e] : List Expr).length + ([] : List Keyword).length + (if ([] : List Keyword).isEmpty then 0 else 1) < 30)) = true := by rfl) (h3 : (apos.endLine == cpos.line) = true := by rfl) (h4 : backTo cpos (starEach [e] X.env) = [(false, eval e X.env)] := by rfl) :
    DE X W (.Call (.Attribute o "pop" apos) [e] [] cpos) (xDpop do_ di) := by
  obtain ⟨t, p1, s1⟩ := ho
  obtain ⟨t2, p2, s2⟩ := he
  refine ⟨_, pe_dpop1 p1 p2 ⟨h1, h2, h3, h4⟩, fun σ H ρ S Q Φ Ω rel env hd ret exc => ?_⟩
  refine s1 σ H ρ S _ _ Ω rel env hd (fun x H1 a S1 rel1 st1 d1 g1 => ?_) exc
  split at g1
  · rename_i p
    obtain ⟨⟨kvs0, e0⟩, g1⟩ := g1
    cases d1
    obtain ⟨us0, h0, _⟩ := rel_dk rel1 e0
    refine ⟨p, rfl, .inl ⟨us0, .inl h0⟩, ?_⟩
    refine s2 σ H1 ρ S1 _ _ Ω rel1 (env.step st1) g1 (fun y H2 b S2 rel2 st2 d2 g2 => ?_) (exc.mono st1)
    obtain ⟨kvs, k, d, e1, e2, e3, g3⟩ := g2
    obtain ⟨us, h1, h2⟩ := rel_dk rel2 e1
    have ey := kD_V d2 e2
    subst ey
    rcases h2.val k with ⟨z, _⟩ | ⟨d', v, z1, z2, z3⟩
    · rw [z] at e3; cases e3
    · rw [z1] at e3; cases e3
      obtain ⟨r3, st3⟩ := put_dk rel2 e1 (h2.drop k)
      exact ⟨us, k, v, h1, rfl, z2, ret _ _ d _ r3 ((st1.trans st2).trans st3) (D.step st3 _ z3) g3⟩
  · exact g1.elim
theorem de_dnew : DE X W (.Dict [] [] pos) xDnew := ⟨_, pe_dnewK, fun σ H ρ S Q Φ Ω rel env hd ret exc p hp => by
  have st : Step S H (su S p (.dK [])) (upd H p (.dK [])) := Step.put (.inr hp)
  exact ret _ _ (.ref p) _ (rel.put (m := .dK []) (.inr hp) ⟨[], upd_same, .nil⟩) st rfl (hd p (rel.hp hp))⟩
theorem ds_dput (hu : X.A.units + 1 < cLine) (ho : DE X W o do_) (hi : DE X W i di) (hv : DE X W value dv) (hs : swapsWith value (some (.Subscript o i pos')) pos.line X.env = pure false := by rfl) : DS X W (.Assign [.Subscript o i pos'] value pos) (xDput do_ di dv) := by
  obtain ⟨t, p1, s1⟩ := hv
  obtain ⟨t2, p2, s2⟩ := ho
  obtain ⟨t3, p3, s3⟩ := hi
  refine ⟨_, ps_dput hu p2 p3 p1 hs, fun σ H ρ S E Δ Ω rel env h en exc => ?_⟩
  refine s1 σ H ρ S _ _ _ rel env h (fun x H1 a S1 rel1 st1 d1 g1 => ?_) (exc.at env)
  refine s2 σ H1 ρ S1 _ _ _ rel1 (env.step st1) g1 (fun y H2 b S2 rel2 st2 d2 g2 => ?_) ((exc.at env).mono st1)
  have st12 := st1.trans st2
  refine s3 σ H2 ρ S2 _ _ _ rel2 (env.step st12) g2 (fun z H3 c S3 rel3 st3 d3 g3 => ?_) ((exc.at env).mono st12)
  have st := st12.trans st3
  have d1' := D.step (st2.trans st3) _ d1
  have d2' := D.step st3 _ d2
  split at g3
  · rename_i p
    obtain ⟨kvs, k, e1, e2, hz, g3⟩ := g3
    cases d2'
    obtain ⟨us, h1, h2⟩ := rel_dk rel3 e1
    have ey := kD_V d3 e2
    subst ey
    obtain ⟨r4, st4⟩ := put_dk rel3 e1 (h2.put (k := k) d1')
    exact ⟨p, _, rfl, .k h1 (by rw [← h2.length]; exact hz), en.nx σ _ ρ _ r4 (st.trans st4) (env.step (st.trans st4)) g3⟩
  · exact g3.elim
theorem dp_nil : DPs X W pos [] [] xpNil := ⟨_, pps_nil, fun σ H ρ S Q Φ Ω rel env h ret exc => ret [] H [] S rel Step.refl .nil h⟩
theorem dp_cons {k v : Expr} {dk dv : XTE} (hk : DE X W k dk) (hv : DE X W v dv) (h : DPs X W pos ks vs dp) : DPs X W pos (some k :: ks) (v :: vs) (xpCons dk dv dp) := by
  obtain ⟨t, p1, s1⟩ := hk
  obtain ⟨t2, p2, s2⟩ := hv
  obtain ⟨t3, p3, s3⟩ := h
  refine ⟨_, pps_cons p1 p2 p3, fun σ H ρ S Q Φ Ω rel env h ret exc => ?_⟩
  refine s1 σ H ρ S _ _ _ rel env h (fun x H1 a S1 rel1 st1 d1 g1 => ?_) exc
  refine s2 σ H1 ρ S1 _ _ _ rel1 (env.step st1) g1 (fun y H2 b S2 rel2 st2 d2 g2 => ?_) (exc.mono st1)
  have st12 := st1.trans st2
  refine s3 σ H2 ρ S2 _ _ _ rel2 (env.step st12) g2 (fun ps H3 qs S3 rel3 st3 d3 g3 => ?_) (exc.mono st12)
  exact ret ((x, y) :: ps) H3 ((a, b) :: qs) S3 rel3 (st12.trans st3) (.cons ⟨D.step (st2.trans st3) _ d1, D.step st3 _ d2⟩ d3) g3
theorem pairs_key {K : PySem.W.Frag} {S : Store} {H : Hp} : ∀ {qs : List (Dt × Dt)} {ps : List (V × V)} {kvs : List (Key × Dt)}, Paired (fun q p => D K S H q.1 p.1 ∧ D K S H q.2 p.2) qs ps → qs.map (fun q => (kD q.1, q.2)) = kvs.map (fun q => (some q.1, q.2)) → ∃ us : List (Key × V), ps = us.map (fun kv => (kV kv.1, kv.2)) ∧ DKV K S H kvs us
  | _, _, [], .nil, _ => ⟨[], rfl, .nil⟩
  | _, _, _ :: _, .nil, h => by cases h
  | _, _, [], .cons _ _, h => by cases h
  | _, _, kv :: kvs, @Paired.cons _ _ _ q p l₁ l₂ r t, h => by
    rw [List.map_cons, List.map_cons] at h
    injection h with h1 h2
    obtain ⟨us, e, g⟩ := pairs_key t h2
    obtain ⟨h3, h4⟩ := Prod.mk.inj h1
    have := kD_V r.1 h3
    refine ⟨(kv.1, p.2) :: us, ?_, .cons ⟨rfl, by rw [← h4]; exact r.2⟩ g⟩
    rw [List.map_cons, ← e]
    obtain ⟨p1, p2⟩ := p
    rw [show p1 = kV kv.1 from this]
theorem de_disp (h : DPs X W pos ks vs dp) (hall : ks.all (·.isSome) = true := by rfl) (hl : ks.length = vs.length := by rfl) (h0 : ks ≠ [] := by intro z; cases z) (h15 : ks.length ≤ 15 := by decide) : DE X W (.Dict ks vs pos) (xDisp dp) := by
  obtain ⟨t, p1, s1⟩ := h
  refine ⟨_, pe_disp p1 hall hl h0 h15, fun σ H ρ S Q Φ Ω rel env hd ret exc p hp => ?_⟩
  have st0 : Step S H (su S p (.dK [])) (upd H p (.dK [])) := Step.put (.inr hp)
  have rel0 : Rel X.K (su S p (.dK [])) (upd H p (.dK [])) := rel.put (m := .dK []) (.inr hp) ⟨[], upd_same, .nil⟩
  refine s1 σ _ ρ _ _ _ Ω rel0 (env.step st0) (hd p (rel.hp hp)) (fun ps H2 qs S2 rel2 st2 g d2 => ?_) (exc.mono st0)
  obtain ⟨e, kvs, e1, e2, d2⟩ := d2
  obtain ⟨us0, h1, h2⟩ := rel_dk rel2 e
  cases h2
  obtain ⟨us, e3, g3⟩ := pairs_key g e1
  obtain ⟨r4, st4⟩ := put_dk rel2 e (DKV.merge g3 .nil)
  refine ⟨h1, us, e3, by rw [← g3.length]; exact e2, ret _ _ (.ref p) _ r4 ((st0.trans st2).trans st4) rfl d2⟩
end
end DL

set_option Elab.async false
set_option linter.all false
set_option maxRecDepth 100000
set_option maxHeartbeats 4000000
/-! The data layer: exceptions. -/
namespace DL
open PySem PySem.Spec PyProof.Rows L2
abbrev XKS := Value → List (Str × Dt) → Ro → Store → Prop
abbrev noXS : XKS := fun _ _ _ _ => False
/-- an own exception class without __init__ -/
structure XCls (K : PySem.W.Frag) (C : Addr) : Prop where
  ex : ∃ (B newId initId : String) (bmB : List Value), ExcBaseFacts B newId initId bmB ∧ PySem.W.excIn K C bmB newId = true
  sub : PySem.W.subIn K (.ref C) (.type "BaseException") = some true
  ty : PySem.W.typeIn K (.ref C) = some (.type "type")
  kp : PySem.W.keepIn K (.ref C) = true
@[reducible] def xRaise (c : Value) : XTS := fun _ Ω ρ S => Ω c [] ρ S
/-- what the clauses do -/
def xHds (K : PySem.W.Frag) : List (Value × XTS) → XEnds → XKS → XKS
  | [], _, Ω, cls, fs, ρ, S => Ω cls fs ρ S
  | (c, t) :: r, Δ, Ω, cls, fs, ρ, S => ∃ b, PySem.W.exmOne K cls c = some b ∧ if b = true then t Δ noXS ρ S else xHds K r Δ Ω cls fs ρ S
@[reducible] def xTry (K : PySem.W.Frag) (db : XTS) (hs : List (Value × XTS)) : XTS := fun Δ Ω ρ S => db Δ (xHds K hs Δ Ω) ρ S
section
variable {X : Cx} {W : WX} {C : Addr} {x m : Str} {j k : Nat} {p p2 pos pos' np : Pos}
/-- a statement that is never reached -/
@[reducible] def xNever : XTS := fun _ _ _ _ => False
theorem ds_never {st : Stmt} : DS X W st xNever := ⟨fun _ _ _ => False, ⟨fun _ _ _ _ _ _ h => h.elim⟩, fun _ _ _ _ _ _ _ _ _ h _ _ => h.elim⟩
theorem ds_raise (c : Cxt X W k) (O : XCls X.K C) (gC : X.mg x = some (.ref C)) (hg : Gl X x := by rfl) (hdb : (x == ("__debug__" : Str)) = false := by decide) : DS X W (.Raise (some (.Call (.Name x p) [.Constant (.str m) j p2] [] pos)) none pos') (xRaise (.ref C)) := by
  obtain ⟨B, nI, iI, bm, F, q⟩ := O.ex
  refine ⟨_, ps_raise c.calm c.tk (pmk_own F q gC O.kp (raises_own O.sub O.ty) hg hdb), fun σ H ρ S E Δ Ω rel env h en exc => ?_⟩
  exact exc (.ref C) none σ H ρ S [] rel Step.refl env rfl h
/-- the context of a clause's suite -/
structure Hxt (X : Cx) : Prop where
  nd : X.N.Nodup
  hu : X.A.units + 65 < cLine
theorem Hxt.eq (c : Hxt X) : CmpR X .Eq (fEq false) := .eq c.hu
theorem Hxt.ne (c : Hxt X) : CmpR X .NotEq (fEq true) := .ne c.hu
theorem Hxt.hu1 (c : Hxt X) : X.A.units + 1 < cLine := by have := c.hu; omega
inductive DHs (X : Cx) : List ExceptHandler → List (Value × XTS) → Prop
  | nil : DHs X [] []
  | cons {x : Str} {c : Value} {t : XTS} {b₀ : Stmt} {suite : List Stmt} {np pos' : Pos} {hds : List ExceptHandler} {l : List (Value × XTS)} (hc : Names X x c)
      (hsu : ∀ (a : Addr) (oe : Obj) (pn : List (Addr × Obj)), Hxt (X.suite a ((a, oe) :: pn)) → DSs (X.suite a ((a, oe) :: pn)) W0 (b₀ :: suite) t) (r : DHs X hds l) :
      DHs X (.ExceptHandler (some (.Name x np)) none (b₀ :: suite) pos' :: hds) ((c, t) :: l)
theorem DHs.to (c : Cxt X W k) {hds : List ExceptHandler} {l : List (Value × XTS)} (h : DHs X hds l) : HdsOk X hds (l.map fun q => (q.1, fun _ _ _ => tS X.K W0 q.2)) := by
  induction h with
  | nil => exact .nil
  | @cons x cl t b₀ suite np pos' hds l hc hsu r ih =>
    exact .cons hc (fun a oe cls d pn _ _ => (hsu a oe pn ⟨c.nd, c.hu⟩).can) ih
theorem sim_hds {K : PySem.W.Frag} {Wout : WX} {D : Ends} {S0 : Store} {H0 : Hp} {Δ : XEnds} {Ω : XKS} (en : EndS K S0 H0 Δ D) (exc : ExcS K S0 H0 Ω Wout) : ∀ l : List (Value × XTS), ExcS K S0 H0 (xHds K l Δ Ω) (wMany K Wout D (l.map fun q => (q.1, fun _ _ _ => tS K W0 q.2)))
  | [] => exc
  | (c, t) :: r => fun cls o σ' H' ρ' S' fs rel st env g h => by
    obtain ⟨b, hb, h⟩ := h
    refine ⟨b, hb, fun e a ha => ?_, fun e => ?_⟩
    · subst e
      rw [if_pos rfl] at h
      exact ⟨ρ', S', Δ, noXS, rel, env, h, en.mono st, fun _ _ _ _ _ _ _ _ _ _ _ z => z.elim⟩
    · subst e
      rw [if_neg Bool.false_ne_true] at h
      exact sim_hds en exc r cls o σ' H' ρ' S' fs rel st env g h
theorem ds_try {K : PySem.W.Frag} {body : List Stmt} {h₀ : ExceptHandler} {hds : List ExceptHandler} {l : List (Value × XTS)} {db : XTS} (c : Cxt X W k) (hb : ∀ (W' : WX) (pn : List (Addr × Obj)) (xe : Value → Shared → Prop), Cxt (X.tr pn xe) W' k → DSs (X.tr pn xe) W' body db)
    (hh : DHs X (h₀ :: hds) l) (hs : X.stack = X.env :: X.outer := by rfl) (hf : X.env.frame = some X.env.locals := by rfl) (hK : X.K = K := by rfl) : DS X W (.Try body (h₀ :: hds) [] [] pos) (xTry K db l) := by
  subst hK
  refine ⟨_, ps_try_many (tb := fun W' => tS X.K W' db) hs hf c.tk (fun W' pn xe tk po => (hb W' pn xe (c.tr tk po)).can) (hh.to c), fun σ H ρ S E Δ Ω rel env h en exc => ?_⟩
  exact ⟨ρ, S, Δ, _, rel, env, h, en, sim_hds en exc l⟩
end

/-! ### a text, some times -/
def repS (x : Str) (n : Int) : Str := ⟨((List.replicate n.toNat (cl x)).flatten).toArray⟩
theorem cl_rep {x : Str} {n : Int} : cl (repS x n) = (List.replicate n.toNat (cl x)).flatten := rfl
theorem fold_app (x : Str) : ∀ (n : Nat) (a : Array Nat), ((List.replicate n x.cps).foldl (· ++ ·) a).toList = a.toList ++ (List.replicate n (cl x)).flatten
  | 0, a => by simp
  | n + 1, a => by
    rw [List.replicate_succ, List.foldl_cons, fold_app x n, Array.toList_append, List.replicate_succ, List.flatten_cons, List.append_assoc]
theorem op_mulS {X : Cx} : OpR X (binaryOp .Mult) (fun x y H Q => ∃ z n, x = .str z ∧ y = .int n ∧ 0 ≤ n ∧ z.length * n.toNat ≤ 1048576 ∧ n ≤ 1048576 ∧ Q (.str (repS z n)) H) := by
  intro pins s σ H x y v u Q I rx ry h
  obtain ⟨z, n, rfl, rfl, h0, h1, h2, q⟩ := h
  obtain ⟨t, rfl⟩ := rx
  obtain ⟨t', rfl⟩ := ry
  have fin : ∀ tk, ∃ (x : V) (H' : Hp), Inv X pins σ H' { s with toks := tk } ∧ RelV x (.str (repS z n) s.toks) ∧ Q x H' := fun tk => ⟨.str (repS z n), H, I.tok _, ⟨_, rfl⟩, q⟩
  refine P.mul_str (by simp; omega) (fun a b => ?_) (fun a b => ?_) ?_
  · have b1 : (z.length : Int) * n ≤ 1048576 := by
      have : ((z.length * n.toNat : Nat) : Int) = (z.length : Int) * n := by rw [Int.natCast_mul, Int.toNat_of_nonneg h0]
      omega
    have hn : 0 < n := by omega
    have : (z.length : Int) ≤ (2 ^ 63 - 1) / n := (Int.le_ediv_iff_mul_le hn).mpr (by omega)
    omega
  · unfold Builtin.Str.tooLong; simp [sizeLine]; omega
  · by_cases e : n < 1
    · rw [if_pos e]
      have e0 : n = 0 := by omega
      subst e0
      exact ⟨by decide, fin _⟩
    · rw [if_neg e]
      by_cases e2 : (n == 1 || z.length == 0) = true
      · rw [if_pos e2]
        have : repS z n = z := by
          apply cl_ext
          rw [cl_rep]
          rw [Bool.or_eq_true] at e2
          rcases e2 with e2 | e2
          · have : n = 1 := eq_of_beq e2
            subst this
            simp
          · have : (cl z).length = 0 := by rw [← cl_len]; exact eq_of_beq e2
            have := List.length_eq_zero_iff.mp this
            rw [this]; simp
        rw [this] at q
        exact ⟨.str z, H, I, ⟨_, rfl⟩, q⟩
      · rw [if_neg e2]
        have e3 : (⟨(List.replicate n.toNat z.cps).foldl (· ++ ·) #[]⟩ : Str) = repS z n := by
          apply cl_ext
          rw [cl_rep]
          show ((List.replicate n.toNat z.cps).foldl (· ++ ·) #[]).toList = _
          rw [fold_app]; simp
        rw [e3]
        refine ⟨?_, fin _⟩
        have : (repS z n).length = z.length * n.toNat := by rw [cl_len, cl_rep, List.length_flatten]; simp [cl_len, Nat.mul_comm]
        rw [this]; unfold sizeLine; omega
def fMulS : F2 := fun S a b k => match a, b with
  | .str z, .int n => (0 ≤ n ∧ z.length * n.toNat ≤ 1048576 ∧ n ≤ 1048576) ∧ k (.str (repS z n)) S
  | _, _ => False
theorem simMulS {K : PySem.W.Frag} : SimR2 K (fun x y H Q => ∃ z n, x = .str z ∧ y = .int n ∧ 0 ≤ n ∧ z.length * n.toNat ≤ 1048576 ∧ n ≤ 1048576 ∧ Q (.str (repS z n)) H) fMulS := by
  intro x y a b S H Q k rel dx dy h ret
  unfold fMulS at h
  split at h
  · cases dx; cases dy
    exact ⟨_, _, rfl, rfl, h.1.1, h.1.2.1, h.1.2.2, ret.now rel Dst h.2⟩
  · exact h.elim
theorem de_mulS {X : Cx} {W : WX} {a b : Expr} {da db : XTE} {pos : Pos} (ha : DE X W a da) (hb : DE X W b db) : DE X W (.BinOp a .Mult b pos) (xOp fMulS da db) := de_bin op_mulS simMulS ha hb
/-! ### comprehensions over a list of anything -/
def LcA {α : Type} (S : Store) (p : Addr) (l : List α) (fy : α → Option Dt) : Nat → List Dt → Store → Prop := fun i acc S' => S' = su S p (.lst acc) ∧ acc = (l.take i).filterMap fy
section
variable {α : Type} {S S' : Store} {p : Addr} {l : List α} {acc : List Dt} {fy : α → Option Dt} {i : Nat} {x : α} {y d : Dt} {g : α → Dt}
theorem get_map (h : (l.map g)[i]? = some d) : ∃ x, l[i]? = some x ∧ d = g x := by
  rw [List.getElem?_map] at h
  cases e : l[i]? with
  | none => rw [e] at h; cases h
  | some x => rw [e] at h; cases h; exact ⟨x, rfl, rfl⟩
theorem lca0 : LcA S p l fy 0 [] (su S p (.lst [])) := ⟨rfl, rfl⟩
theorem lca_y (hd : l[i]? = some x) (hI : acc = (l.take i).filterMap fy) (hf : fy x = some y) : su S p (.lst acc) p = some (.lst acc) ∧ LcA S p l fy (i + 1) (acc ++ [y]) (su (su S p (.lst acc)) p (.lst (acc ++ [y]))) := by
  refine ⟨su_same, su_su, ?_⟩
  rw [take_succ_get hd, List.filterMap_append, ← hI, List.filterMap_cons, hf]; rfl
theorem lca_n (hd : l[i]? = some x) (hI : acc = (l.take i).filterMap fy) (hf : fy x = none) : LcA S p l fy (i + 1) acc (su S p (.lst acc)) := by
  refine ⟨rfl, ?_⟩
  rw [take_succ_get hd, List.filterMap_append, ← hI, List.filterMap_cons, hf]; simp
theorem lca_lt (hd : l[i]? = some x) (hI : acc = (l.take i).filterMap fy) (hl : l.length ≤ sizeLine) : acc.length < sizeLine := by
  have h1 := (List.getElem?_eq_some_iff.mp hd).1
  have h2 := List.length_filterMap_le fy (l.take i)
  rw [← hI, List.length_take] at h2
  omega
theorem lca_end {n : Nat} (hn : n = l.length) (h : LcA S p l fy n acc S') : S' = su S p (.lst (l.filterMap fy)) ∧ acc = l.filterMap fy := by
  obtain ⟨h1, h2⟩ := h
  rw [hn, List.take_length] at h2
  subst h2
  exact ⟨h1, rfl⟩
end
end DL

set_option Elab.async false
set_option linter.all false
set_option maxRecDepth 100000
set_option maxHeartbeats 4000000
/-! The data layer: objects of the program's classes. -/
namespace DL
open PySem PySem.Spec PyProof.Rows L2
def putFD (f : Str) (d : Dt) : List (Str × Dt) → List (Str × Dt)
  | [] => [(f, d)]
  | (g, x) :: r => if g = f then (g, d) :: r else (g, x) :: putFD f d r
section
variable {K : PySem.W.Frag} {S S' : Store} {H H' : Hp}
theorem DKV.putF {f : Str} {d : Dt} {v : V} (hd : D K S H d v) : ∀ {fs : List (Str × Dt)} {vs : List (Str × V)}, DKV K S H fs vs → DKV K S H (putFD f d fs) (L2.putF f v vs)
  | _, _, .nil => .cons ⟨rfl, hd⟩ .nil
  | _, _, @Paired.cons _ _ _ p q l₁ l₂ r t => by
    obtain ⟨r1, r2⟩ := r
    obtain ⟨pk, pd⟩ := p
    obtain ⟨qk, qv⟩ := q
    dsimp only at r1 r2
    subst r1
    unfold putFD L2.putF
    by_cases e : pk = f
    · rw [if_pos e, if_pos e]; exact .cons ⟨rfl, hd⟩ t
    · rw [if_neg e, if_neg e]; exact .cons ⟨rfl, r2⟩ (DKV.putF hd t)
theorem rel_ins {p C dx : Addr} {fs : List (Str × Dt)} (r : Rel K S H) (e : S p = some (.ins C dx fs)) : ∃ vs, H p = some (.ins C dx vs) ∧ DKV K S H fs vs := r p _ e
theorem put_ins {p C dx : Addr} {fs : List (Str × Dt)} {vs : List (Str × V)} {f : Str} {d : Dt} {v : V} (r : Rel K S H) (e : S p = some (.ins C dx fs)) (h : DKV K S H fs vs) (hd : D K S H d v) :
    Rel K (su S p (.ins C dx (putFD f d fs))) (upd H p (.ins C dx (L2.putF f v vs))) ∧ Step S H (su S p (.ins C dx (putFD f d fs))) (upd H p (.ins C dx (L2.putF f v vs))) := by
  have nz : S p ≠ none := by rw [e]; intro z; cases z
  have st : Step S H (su S p (.ins C dx (putFD f d fs))) (upd H p (.ins C dx (L2.putF f v vs))) := Step.put (.inl nz)
  exact ⟨r.put (.inl nz) ⟨_, upd_same, (DKV.step st (h.putF hd))⟩, st⟩
end
@[reducible] def xFld (C : Addr) (f : Str) (de : XTE) : XTE := fun ρ S Φ Ω => de ρ S (fun a S1 => match a with
  | .ref p => ∃ dx fs d, S1 p = some (.ins C dx fs) ∧ fs.lookup f = some d ∧ Φ d S1
  | _ => False) Ω
@[reducible] def xSetF (C : Addr) (f : Str) (de dv : XTE) : XTS := fun Δ Ω ρ S => dv ρ S (fun v S1 => de ρ S1 (fun a S2 => match a with
  | .ref p => ∃ dx fs, S2 p = some (.ins C dx fs) ∧ fs.length < 1000 ∧ Δ.nx ρ (su S2 p (.ins C dx (putFD f v fs)))
  | _ => False) (fun c fs S => Ω c fs ρ S)) (fun c fs S => Ω c fs ρ S)
@[reducible] def xAugF (g : Int → Int → Int) (C : Addr) (f : Str) (de dv : XTE) : XTS := fun Δ Ω ρ S => de ρ S (fun a S1 => match a with
  | .ref p => ∃ dx fs i, S1 p = some (.ins C dx fs) ∧ fs.lookup f = some (.int i) ∧ dv ρ S1 (fun b S2 => match b with
    | .int j => ∃ dx' fs', S2 p = some (.ins C dx' fs') ∧ fs'.length < 1000 ∧ Δ.nx ρ (su S2 p (.ins C dx' (putFD f (.int (g i j)) fs')))
    | _ => False) (fun c fs S => Ω c fs ρ S)
  | _ => False) (fun c fs S => Ω c fs ρ S)
@[reducible] def xMeth (R : Fsp) (C : Addr) (m : Str) (de : XTE) (dr : XTA) : XTE := fun ρ S Φ Ω => de ρ S (fun a S1 => match a with
  | .ref p => ∃ dx fs, S1 p = some (.ins C dx fs) ∧ fs.lookup m = none ∧ dr ρ S1 (fun as S2 => R (.ref p :: as) S2 Φ Ω) Ω
  | _ => False) Ω
@[reducible] def xMake (R : Fsp) (C : Addr) (dv : List Dt) (dr : XTA) : XTE := fun ρ S Φ Ω => dr ρ S (fun as S1 => ∀ x dx, S1 x = none → R (.ref x :: (as ++ dv)) (su S1 x (.ins C dx [])) (fun v S2 => v = .non ∧ Φ (.ref x) S2) Ω) Ω
@[reducible] def xMakeK (R : Fsp) (C : Addr) (gD : List Dt → List Dt → List Dt) (n m : Nat) (dr dk : XTA) : XTE := fun ρ S Φ Ω => dr ρ S (fun as S1 => dk ρ S1 (fun bs S2 => as.length = n ∧ bs.length = m ∧ ∀ x dx, S2 x = none → R (gD (.ref x :: as) bs) (su S2 x (.ins C dx [])) (fun v S3 => v = .non ∧ Φ (.ref x) S3) Ω) Ω) Ω
/-- as a target -/
@[reducible] def xgFld (C : Addr) (f : Str) (de : XTE) : XTG := fun v ρ S Φ => de ρ S (fun a S2 => match a with
  | .ref p => ∃ dx fs, S2 p = some (.ins C dx fs) ∧ fs.length < 1000 ∧ Φ ρ (su S2 p (.ins C dx (putFD f v fs)))
  | _ => False) (fun _ _ _ => False)
section
variable {X : Cx} {W : WX} {k j : Nat} {C f : Addr} {fn m : Str} {fd : FuncData} {ps : List Str} {R : Fsp} {x : Str} {o e value : Expr} {es : List Expr} {de dv : XTE} {dr : XTA} {p pos pos' apos tpos : Pos}
theorem de_fld (c : Cls X.K C) (n : NoAttr X.K C fn) (h : DE X W e de) (hb : attributeBase e fn X.env (eval e X.env) = eval e X.env := by rfl) : DE X W (.Attribute e fn pos) (xFld C fn de) := by
  obtain ⟨t, p1, s1⟩ := h
  refine ⟨_, pe_fld p1 hb, fun σ H ρ S Q Φ Ω rel env hd ret exc => ?_⟩
  refine s1 σ H ρ S _ _ Ω rel env hd (fun x H1 a S1 rel1 st1 d1 g1 => ?_) exc
  split at g1
  · rename_i p
    obtain ⟨dx, fs, d, e1, e2, g1⟩ := g1
    cases d1
    obtain ⟨vs, h1, h2⟩ := rel_ins rel1 e1
    rcases h2.look fn with ⟨z, _⟩ | ⟨d', v, z1, z2, z3⟩
    · rw [z] at e2; cases e2
    · rw [z1] at e2; cases e2
      exact ⟨p, C, dx, vs, v, rfl, h1, c, n, z2, ret v H1 d S1 rel1 st1 z3 g1⟩
  · exact g1.elim
theorem ds_fld (c : Cls X.K C) (n : NoAttr X.K C fn) (ho : DE X W o de) (hv : DE X W value dv) (hs : swapsWith value (some (.Attribute o fn pos')) pos.line X.env = pure false := by rfl) : DS X W (.Assign [.Attribute o fn pos'] value pos) (xSetF C fn de dv) := by
  obtain ⟨t, p1, s1⟩ := hv
  obtain ⟨t2, p2, s2⟩ := ho
  refine ⟨_, ps_fld p2 p1 hs, fun σ H ρ S E Δ Ω rel env h en exc => ?_⟩
  refine s1 σ H ρ S _ _ _ rel env h (fun x H1 a S1 rel1 st1 d1 g1 => ?_) (exc.at env)
  refine s2 σ H1 ρ S1 _ _ _ rel1 (env.step st1) g1 (fun y H2 b S2 rel2 st2 d2 g2 => ?_) ((exc.at env).mono st1)
  have st12 := st1.trans st2
  split at g2
  · rename_i p
    obtain ⟨dx, fs, e1, e2, g2⟩ := g2
    cases d2
    obtain ⟨vs, h1, h2⟩ := rel_ins rel2 e1
    obtain ⟨r3, st3⟩ := put_ins (f := fn) rel2 e1 h2 (D.step st2 _ d1)
    exact ⟨p, C, dx, vs, rfl, h1, c, n, by rw [← h2.length]; exact e2, en.nx σ _ ρ _ r3 (st12.trans st3) (env.step (st12.trans st3)) g2⟩
  · exact g2.elim
theorem ds_fldaug {op : Operator} {rd : V → V → Hp → VK → Prop} {g : Int → Int → Int} (hop : InOp X op rd) (hrd : ∀ i j H Q, Q (.int (g i j)) H → rd (.int i) (.int j) H Q) (c : Cls X.K C) (n : NoAttr X.K C fn) (ho : DE X W o de) (hv : DE X W value dv) :
    DS X W (.AugAssign (.Attribute o fn tpos) op value pos) (xAugF g C fn de dv) := by
  obtain ⟨t, p1, s1⟩ := ho
  obtain ⟨t2, p2, s2⟩ := hv
  refine ⟨_, ps_fldaug p1 p2 hop, fun σ H ρ S E Δ Ω rel env h en exc => ?_⟩
  refine s1 σ H ρ S _ _ _ rel env h (fun x H1 a S1 rel1 st1 d1 g1 => ?_) (exc.at env)
  split at g1
  · rename_i p
    obtain ⟨dx, fs, i, e1, e2, g1⟩ := g1
    cases d1
    obtain ⟨vs, h1, h2⟩ := rel_ins rel1 e1
    rcases h2.look fn with ⟨z, _⟩ | ⟨d', v, z1, z2, z3⟩
    · rw [z] at e2; cases e2
    · rw [z1] at e2; cases e2
      cases z3
      refine ⟨p, C, dx, vs, _, rfl, h1, c, n, z2, ?_⟩
      refine s2 σ H1 ρ S1 _ _ _ rel1 (env.step st1) g1 (fun y H2 b S2 rel2 st2 d2 g2 => ?_) ((exc.at env).mono st1)
      have st12 := st1.trans st2
      split at g2
      · rename_i j
        obtain ⟨dx', fs', e3, e4, g2⟩ := g2
        cases d2
        refine hrd _ _ _ _ ?_
        obtain ⟨vs', h3, h4⟩ := rel_ins rel2 e3
        obtain ⟨r3, st3⟩ := put_ins (f := fn) rel2 e3 h4 (Din (i := g i j))
        exact ⟨dx', vs', h3, by rw [← h4.length]; exact e4, en.nx σ _ ρ _ r3 (st12.trans st3) (env.step (st12.trans st3)) g2⟩
      · exact g2.elim
  · exact g1.elim
theorem ds_fldadd (c : Cls X.K C) (n : NoAttr X.K C fn) (ho : DE X W o de) (hv : DE X W value dv) : DS X W (.AugAssign (.Attribute o fn tpos) .Add value pos) (xAugF (fun i j => i + j) C fn de dv) :=
  ds_fldaug in_add (fun i j H Q q => ⟨i, j, rfl, rfl, q⟩) c n ho hv
theorem ds_fldsub (c : Cls X.K C) (n : NoAttr X.K C fn) (ho : DE X W o de) (hv : DE X W value dv) : DS X W (.AugAssign (.Attribute o fn tpos) .Sub value pos) (xAugF (fun i j => i - j) C fn de dv) :=
  ds_fldaug in_sub (fun i j H Q q => ⟨i, j, rfl, rfl, q⟩) c n ho hv
/-- o.m(..) -/
def tMethS (C : Addr) (m : Str) (sp : Sp) (E : L2.St → XK) (ta : TE) (t : TA) : TE := fun σ H Q => ta σ H fun x H1 => ∃ a dx fs, x = .ref a ∧ H1 a = some (.ins C dx fs) ∧ fs.lookup m = none ∧
  t σ H1 fun vs H2 => sp (x :: vs) H2 Q (E σ)
theorem pe_methW {pl : Sem Bool} {ta : TE} {t : TA} {sp : Sp} {E : L2.St → XK} (he : PE X o ta) (c : Cls X.K C) (hm : Meth X.K C m f) (F : FnOk X.prog X.w X.K X.mg X.base (L2.CX X.prog X.w) k f fd ps sp) (hr : Room k X.A) (hb : Binds X.K fd ps []) (hx : ∀ σ, PassesAt (L2.CX X.prog X.w) X σ (E σ)) (ha : PA X (e :: es) t)
    (hst : starEach (e :: es) X.env = (false, eval e X.env) :: starEach es X.env := by rfl) (hpl : (backTo pos (starEach es X.env)).any (·.1) = false := by rfl)
    (ht : eval (.Call (.Attribute o m apos) (e :: es) [] pos) X.env = (do
      let ov ← eval o X.env
      standAt apos.atName
      let (f, first) ← holding [ov] (getMethod ov m pl)
      callWith pos f first (backTo pos (starEach (e :: es) X.env)) (backToKw pos (keywordEach [] X.env))) := by rfl) :
    PE X (.Call (.Attribute o m apos) (e :: es) [] pos) (tMethS C m sp E ta t) := by
  refine ⟨fun pins s σ H Q I h => ?_⟩
  refine PySem.W.methodCall_KW (pl := pl) (thn (he.run pins s σ H _ I h) fun u s1 ⟨x, H1, I1, rx, a, dx, fs, ex, ea, l, q⟩ => ?_) ht
  subst ex
  obtain rfl : u = Value.ref a := rx
  refine getmeth_ok I1 ea c hm l ?_
  refine PySem.W.callWith_K (first := [.ref a]) (h₀ := X.base) I.ok.mod.kin hm.kp (thn (ha.run pos pins s1 σ H1 _ I1 q) fun us s2 ⟨vs, H2, I2, r, q2⟩ => ⟨I2.kIn, ?_⟩) hst hpl
  exact run_fnS (E := E) (us := .ref a :: us) (vs := .ref a :: vs) F hr hb (hx σ) I2 (.cons rfl r) q2
theorem pe_methW0 {pl : Sem Bool} {ta : TE} {sp : Sp} {E : L2.St → XK} (he : PE X o ta) (c : Cls X.K C) (hm : Meth X.K C m f) (F : FnOk X.prog X.w X.K X.mg X.base (L2.CX X.prog X.w) k f fd ps sp) (hr : Room k X.A) (hb : Binds X.K fd ps []) (hx : ∀ σ, PassesAt (L2.CX X.prog X.w) X σ (E σ))
    (ht : eval (.Call (.Attribute o m apos) [] [] pos) X.env = (do
      let ov ← eval o X.env
      standAt apos.atName
      let (f, first) ← holding [ov] (getMethod ov m pl)
      callWith pos f first (backTo pos (starEach [] X.env)) (backToKw pos (keywordEach [] X.env))) := by rfl) :
    PE X (.Call (.Attribute o m apos) [] [] pos) (tMethS C m sp E ta tNil) := by
  refine ⟨fun pins s σ H Q I h => ?_⟩
  refine PySem.W.methodCall_KW (pl := pl) (thn (he.run pins s σ H _ I h) fun u s1 ⟨x, H1, I1, rx, a, dx, fs, ex, ea, l, q⟩ => ?_) ht
  subst ex
  obtain rfl : u = Value.ref a := rx
  refine getmeth_ok I1 ea c hm l ?_
  exact PySem.W.callWith_K0 (first := [.ref a]) I1.kIn hm.kp (run_fnS (E := E) (us := [.ref a]) (vs := [.ref a]) F hr hb (hx σ) I1 (.cons rfl .nil) q)
theorem simMeth {ta : TE} {t : TA} (ho : SimE X.K W ta de) (h : SimA X.K W t dr) : SimE X.K W (tMethS C m (spOf X.K R) (WE W) ta t) (xMeth R C m de dr) := by
  intro σ H ρ S Q Φ Ω rel env hd ret exc
  refine ho σ H ρ S _ _ Ω rel env hd (fun x H1 a S1 rel1 st1 d1 g1 => ?_) exc
  split at g1
  · rename_i p
    obtain ⟨dx, fs, e1, e2, g1⟩ := g1
    cases d1
    obtain ⟨vs, h1, h2⟩ := rel_ins rel1 e1
    refine ⟨p, dx, vs, rfl, h1, ?_, ?_⟩
    · rcases h2.look m with ⟨_, z⟩ | ⟨_, _, z1, _, _⟩
      · exact z
      · rw [z1] at e2; cases e2
    · refine h σ H1 ρ S1 _ _ Ω rel1 (env.step st1) g1 (fun vs H2 as S2 rel2 st2 d2 g2 => ?_) (exc.mono st1)
      have st12 := st1.trans st2
      exact ⟨.ref p :: as, S2, Φ, Ω, rel2, ⟨.ref p, vs, rfl, rfl, d2⟩, g2, ret.mono st12, exc.mono st12⟩
  · exact g1.elim
theorem de_meth {pl : Sem Bool} (c : Cxt X W k) (cl : Cls X.K C) (hm : Meth X.K C m f) (F : FnD X.prog X.w X.K X.mg X.base j f fd ps R) (hj : j ≤ k) (hb : Binds X.K fd ps []) (ho : DE X W o de) (h : DA X W (e :: es) dr)
    (hst : starEach (e :: es) X.env = (false, eval e X.env) :: starEach es X.env := by rfl) (hpl : (backTo pos (starEach es X.env)).any (·.1) = false := by rfl)
    (ht : eval (.Call (.Attribute o m apos) (e :: es) [] pos) X.env = (do
      let ov ← eval o X.env
      standAt apos.atName
      let (f, first) ← holding [ov] (getMethod ov m pl)
      callWith pos f first (backTo pos (starEach (e :: es) X.env)) (backToKw pos (keywordEach [] X.env))) := by rfl) : DE X W (.Call (.Attribute o m apos) (e :: es) [] pos) (xMeth R C m de dr) :=
  let ⟨_, p1, s1⟩ := ho; let ⟨_, p2, s2⟩ := h; ⟨_, pe_methW (E := WE W) p1 cl hm F (c.hr.mono hj) hb (fun σ => passAt c.tk σ) p2 hst hpl ht, simMeth s1 s2⟩
theorem de_meth0 {pl : Sem Bool} (c : Cxt X W k) (cl : Cls X.K C) (hm : Meth X.K C m f) (F : FnD X.prog X.w X.K X.mg X.base j f fd ps R) (hj : j ≤ k) (hb : Binds X.K fd ps []) (ho : DE X W o de)
    (ht : eval (.Call (.Attribute o m apos) [] [] pos) X.env = (do
      let ov ← eval o X.env
      standAt apos.atName
      let (f, first) ← holding [ov] (getMethod ov m pl)
      callWith pos f first (backTo pos (starEach [] X.env)) (backToKw pos (keywordEach [] X.env))) := by rfl) : DE X W (.Call (.Attribute o m apos) [] [] pos) (xMeth R C m de xNil) :=
  let ⟨_, p1, s1⟩ := ho; ⟨_, pe_methW0 (E := WE W) p1 cl hm F (c.hr.mono hj) hb (fun σ => passAt c.tk σ) ht, simMeth s1 fun σ H ρ S Q Φ Ω rel env h ret exc => ret [] H [] S rel Step.refl rfl h⟩
/-- C(..) -/
theorem run_makeW {pins : List (Addr × Obj)} {σ : L2.St} {H : Hp} {s : Shared} {Q : VK} {us ws : List Value} {vs : List V} {ks : List Str} {g : List Value} {sp : Sp} {E : L2.St → XK} (M : Mk X.K C f) (F : FnOk X.prog X.w X.K X.mg X.base (L2.CX X.prog X.w) k f fd ps sp) (hr : Room (k + 1) X.A)
    (hb : ∀ (s : Shared) (y : Value), X.K.In s.heap → (y :: g).length = ps.length → BindsTo s fd ⟨y :: us, ks.zip ws⟩ (ps.zip (y :: g)))
    (hx : PassesAt (L2.CX X.prog X.w) X σ (E σ)) (I : Inv X pins σ H s) (r : Vals vs g)
    (h : ∀ x dx, H x = none → H dx = none → dx ≠ x → sp (.ref x :: vs) (upd (upd H dx (.own x)) x (.ins C dx [])) (fun v H2 => v = .non ∧ Q (.ref x) H2) (E σ)) :
    wpAny (model X.prog X.w) X.A (call (.ref C) us (ks.zip ws)) (EP X pins σ Q) X.xe s := by
  have hq := h (s.heap.objs.size + 1) s.heap.objs.size (I.hok.fresh (Nat.le_succ _)) (I.hok.fresh (Nat.le_refl _)) (Nat.ne_of_lt (Nat.lt_succ_self _))
  have I2 := Inv.made (C := C) I
  have r2 : Vals (V.ref (s.heap.objs.size + 1) :: vs) (Value.ref (s.heap.objs.size + 1) :: g) := .cons rfl r
  have hl : (Value.ref (s.heap.objs.size + 1) :: g).length = ps.length := by
    have e := r2.length
    rw [F.len _ _ _ _ hq] at e
    exact e.symm
  refine wpAny_call (make_map (f := f) I.kIn M.makes M.init (beq_iff_eq.mp M.fn) (codeAny_mono (F.run _ X.stack _ _ ⟨Value.ref (s.heap.objs.size + 1) :: us, ks.zip ws⟩ (Value.ref (s.heap.objs.size + 1) :: g) _ _ (E σ) (hr.make C us (ks.zip ws))
    (I2.env0.make C us (ks.zip ws)) (hb _ _ I2.kIn hl) r2 hq) fun r s' hq' => ?_))
  cases r with
  | error e => exact hx pins _ _ e s' I2 hq'
  | ok fl =>
    cases fl with
    | ret u =>
      obtain ⟨v, H', I3, rv, ev, q3⟩ := I2.after hq'
      subst ev
      exact ⟨rv, ⟨V.ref (s.heap.objs.size + 1), H', I3, rfl, q3⟩⟩
    | next => exact False.elim hq'
    | brk => exact False.elim hq'
    | cont => exact False.elim hq'
def tMakeS (C : Addr) (sp : Sp) (dvs : List V) (E : L2.St → XK) (t : TA) : TE := fun σ H Q => t σ H fun vs H1 => ∀ x dx, H1 x = none → H1 dx = none → dx ≠ x →
  sp (.ref x :: (vs ++ dvs)) (upd (upd H1 dx (.own x)) x (.ins C dx [])) (fun v H2 => v = .non ∧ Q (.ref x) H2) (E σ)
theorem pe_makeW {t : TA} {sp : Sp} {E : L2.St → XK} {dvs : List V} {ds : List Value} (M : Mk X.K C f) (F : FnOk X.prog X.w X.K X.mg X.base (L2.CX X.prog X.w) k f fd ps sp) (hr : Room (k + 1) X.A) (hg : Gl X x) (hm : X.mg x = some (.ref C)) (hb : Binds X.K fd ps ds) (hd : Vals dvs ds) (hx : ∀ σ, PassesAt (L2.CX X.prog X.w) X σ (E σ))
    (ha : PA X (e :: es) t) (hdb : (x == ("__debug__" : Str)) = false) (he : starEach (e :: es) X.env = (false, eval e X.env) :: starEach es X.env) (hpl : (backTo pos (starEach es X.env)).any (·.1) = false) :
    PE X (.Call (.Name x p) (e :: es) [] pos) (tMakeS C sp dvs E t) := by
  refine ⟨fun pins s σ H Q I h => ?_⟩
  refine wpAny_Call_Name_kw (ld_glob I hg hm ?_ hdb)
  refine PySem.W.callWith_K (h₀ := X.base) I.ok.mod.kin M.kp (thn (ha.run pos pins s σ H _ I h) fun us s1 ⟨vs, H1, I1, r, q⟩ => ⟨I1.kIn, ?_⟩) he hpl
  exact run_makeW (ks := []) (ws := []) (g := us ++ ds) M F hr (fun s y hin hl => hb s (y :: us) hin hl) (hx σ) I1 (r.append hd) q
theorem pe_makeW0 {sp : Sp} {E : L2.St → XK} {dvs : List V} {ds : List Value} (M : Mk X.K C f) (F : FnOk X.prog X.w X.K X.mg X.base (L2.CX X.prog X.w) k f fd ps sp) (hr : Room (k + 1) X.A) (hg : Gl X x) (hm : X.mg x = some (.ref C)) (hb : Binds X.K fd ps ds) (hd : Vals dvs ds) (hx : ∀ σ, PassesAt (L2.CX X.prog X.w) X σ (E σ))
    (hdb : (x == ("__debug__" : Str)) = false) : PE X (.Call (.Name x p) [] [] pos) (tMakeS C sp dvs E tNil) := by
  refine ⟨fun pins s σ H Q I h => ?_⟩
  refine wpAny_Call_Name_kw (ld_glob I hg hm ?_ hdb)
  exact PySem.W.callWith_K0 I.kIn M.kp (run_makeW (us := []) (ks := []) (ws := []) (g := ds) M F hr (fun s y hin hl => hb s [y] hin hl) (hx σ) I hd h)
theorem rel_made {K : PySem.W.Frag} {S : Store} {H : Hp} {x dx : Addr} (r : Rel K S H) (h1 : H x = none) (h2 : H dx = none) (ne : dx ≠ x) :
    Rel K (su S x (.ins C dx [])) (upd (upd H dx (.own x)) x (.ins C dx [])) ∧ Step S H (su S x (.ins C dx [])) (upd (upd H dx (.own x)) x (.ins C dx [])) := by
  have r1 : Rel K S (upd H dx (.own x)) := r.new1 h2
  have e : upd H dx (.own x) x = none := by rw [upd_ne (fun z => ne z.symm)]; exact h1
  exact ⟨r1.put (m := .ins C dx []) (.inr e) ⟨[], upd_same, .nil⟩, (Step.new1 h2).trans (Step.put (.inr e))⟩
theorem simMake {t : TA} {dvs : List V} {dvd : List Dt} (hdv : ∀ S H, DAll X.K S H dvd dvs) (h : SimA X.K W t dr) : SimE X.K W (tMakeS C (spOf X.K R) dvs (WE W) t) (xMake R C dvd dr) := by
  intro σ H ρ S Q Φ Ω rel env hd ret exc
  refine h σ H ρ S _ _ Ω rel env hd (fun vs H1 as S1 rel1 st1 d1 g1 x dx hx hdx ne => ?_) exc
  obtain ⟨r2, st2⟩ := rel_made (C := C) rel1 hx hdx ne
  refine ⟨.ref x :: (as ++ dvd), _, _, Ω, r2, ⟨.ref x, _, rfl, rfl, (DAll.step st2 _ d1).append (hdv _ _)⟩, g1 x dx (rel1.hp hx), fun v H2 a S2 r3 st3 d3 g3 => ?_, exc.mono (st1.trans st2)⟩
  obtain ⟨rfl, g3⟩ := g3
  cases d3
  exact ⟨rfl, ret (.ref x) H2 (.ref x) S2 r3 ((st1.trans st2).trans st3) rfl g3⟩
theorem de_make {dvd : List Dt} {dvs : List V} {ds : List Value} (c : Cxt X W k) (M : Mk X.K C f) (F : FnD X.prog X.w X.K X.mg X.base j f fd ps R) (hj : j + 1 ≤ k) (hm : X.mg x = some (.ref C)) (hb : Binds X.K fd ps ds) (hd : Vals dvs ds) (hdv : ∀ S H, DAll X.K S H dvd dvs) (h : DA X W (e :: es) dr) (hg : Gl X x := by rfl) (hdb : (x == ("__debug__" : Str)) = false := by decide)
    (he : starEach (e :: es) X.env = (false, eval e X.env) :: starEach es X.env := by rfl) (hpl : (backTo pos (starEach es X.env)).any (·.1) = false := by rfl) : DE X W (.Call (.Name x p) (e :: es) [] pos) (xMake R C dvd dr) :=
  let ⟨_, p1, s1⟩ := h; ⟨_, pe_makeW (E := WE W) M F (c.hr.mono hj) hg hm hb hd (fun σ => passAt c.tk σ) p1 hdb he hpl, simMake hdv s1⟩
theorem de_make0 {dvd : List Dt} {dvs : List V} {ds : List Value} (c : Cxt X W k) (M : Mk X.K C f) (F : FnD X.prog X.w X.K X.mg X.base j f fd ps R) (hj : j + 1 ≤ k) (hm : X.mg x = some (.ref C)) (hb : Binds X.K fd ps ds) (hd : Vals dvs ds) (hdv : ∀ S H, DAll X.K S H dvd dvs) (hg : Gl X x := by rfl) (hdb : (x == ("__debug__" : Str)) = false := by decide) :
    DE X W (.Call (.Name x p) [] [] pos) (xMake R C dvd xNil) :=
  ⟨_, pe_makeW0 (E := WE W) M F (c.hr.mono hj) hg hm hb hd (fun σ => passAt c.tk σ) hdb, simMake hdv fun σ H ρ S Q Φ Ω rel env h ret exc => ret [] H [] S rel Step.refl rfl h⟩
end
end DL
namespace DL
open PySem PySem.Spec PyProof.Rows L2
/-! ### a try whose body raises nothing -/
section
variable {X : Cx} {W : WX} {k : Nat} {body : List Stmt} {h₀ : ExceptHandler} {hds : List ExceptHandler} {pos : Pos} {tb : WX → TS}
theorem ps_tryN (hb : ∀ (W : WX) (pn : List (Addr × Obj)) (xe : Value → Shared → Prop), Takes (X.tr pn xe) W → PassesOwn (model X.prog X.w) X.A X.env xe → PSs (X.tr pn xe) body (tb W)) :
    PS X (.Try body (h₀ :: hds) [] [] pos) (fun D σ H => tb W0 D σ H) := by
  refine ⟨fun pins s σ H D I h => ?_⟩
  have ok := I.ok
  refine wpAny_Try_except ?_
  refine wpAny_mono ((hb W0 (X.pn ++ pins) (fun e s₁ => wpAny (model X.prog X.w) X.A (noteFrame e X.env) (fun _ s₂ => wpAny (model X.prog X.w) X.A (setFlight e none) (fun _ s₃ =>
    wpAny (model X.prog X.w) X.A (handleBy e X.env (h₀ :: hds)) (SP X pins D) X.xe s₃) X.xe s₂) X.xe s₁) (fun u s' xx => ?_) PassesOwn.looking).run [] s σ H D (I.toTry _) h) (fun f s1 hsp => ?_) (fun e s1 he => he)
  · obtain ⟨a, B, sI, pins', σ', H', cls, d, rfl, J', nb, up, sky, na, os, ag, w⟩ := xx
    exact w.elim
  · cases f with
    | next =>
      obtain ⟨σ', H', J', q⟩ := hsp
      exact wpAny_execs_nil ⟨σ', H', J'.ofTry ok, q⟩
    | brk =>
      obtain ⟨σ', H', J', q⟩ := hsp
      exact ⟨σ', H', J'.ofTry ok, q⟩
    | cont =>
      obtain ⟨σ', H', J', q⟩ := hsp
      exact ⟨σ', H', J'.ofTry ok, q⟩
    | ret u =>
      obtain ⟨v, σ', H', J', r, q⟩ := hsp
      exact ⟨v, σ', H', J'.ofTry ok, r, q⟩
@[reducible] def xTryN (db : XTS) : XTS := fun Δ _ ρ S => db Δ noXS ρ S
theorem ds_tryN {db : XTS} (c : Cxt X W k) (hb : ∀ (W' : WX) (pn : List (Addr × Obj)) (xe : Value → Shared → Prop), Cxt (X.tr pn xe) W' k → DSs (X.tr pn xe) W' body db) : DS X W (.Try body (h₀ :: hds) [] [] pos) (xTryN db) := by
  refine ⟨_, ps_tryN (tb := fun W' => tS X.K W' db) (fun W' pn xe tk po => (hb W' pn xe (c.tr tk po)).can), fun σ H ρ S E Δ Ω rel env h en exc => ?_⟩
  exact ⟨ρ, S, Δ, noXS, rel, env, h, en, fun _ _ _ _ _ _ _ _ _ _ _ z => z.elim⟩
end
end DL
namespace DL
open PySem PySem.Spec PyProof.Rows L2
theorem names_of {X : Cx} {x : Str} {c : Value} (hm : X.mg x = some c) (hg : Gl X x := by rfl) (hdb : (x == ("__debug__" : Str)) = false := by decide) : Names X x c := ⟨hg, hdb, .inl hm⟩
theorem exm_of {K : PySem.W.Frag} {S : Addr} {cls : Value} {b : Bool} (h1 : PySem.W.subIn K (.ref S) (.type "BaseException") = some true) (h2 : PySem.W.isClsIn K S = true) (h3 : PySem.W.typeIn K (.ref S) = some (.type "type")) (h4 : PySem.W.subIn K cls (.ref S) = some b) :
    PySem.W.exmOne K cls (.ref S) = some b := by
  have e1 : (PySem.W.subIn K (.ref S) (.type "BaseException") == some true) = true := by rw [h1] <;> rfl
  have e2 : ((PySem.W.clsIn K S).isSome && PySem.W.typeIn K (.ref S) == some (.type "type")) = true := by
    have h2' : (PySem.W.clsIn K S).isSome = true := h2
    rw [h2', h3] <;> rfl
  show (if (PySem.W.subIn K (.ref S) (.type "BaseException") == some true) = true then (if ((PySem.W.clsIn K S).isSome && PySem.W.typeIn K (.ref S) == some (.type "type")) = true then PySem.W.subIn K cls (.ref S) else none) else none) = some b
  rw [if_pos e1, if_pos e2]
  exact h4
end DL

set_option Elab.async false
set_option linter.all false
set_option maxRecDepth 100000
set_option maxHeartbeats 4000000
/-! The data layer: walks of dicts, attribute targets, f-strings. -/
namespace DL
open PySem PySem.Spec PyProof.Rows L2
/-! ### a dict that is locked -/
def kDt : Key → Dt
  | .inl i => .int i
  | .inr x => .str x
theorem D_kV {K : PySem.W.Frag} {S : Store} {H : Hp} : ∀ k : Key, D K S H (kDt k) (kV k)
  | .inl _ => rfl
  | .inr _ => rfl
@[reducible] def xLock (d : XTE) : XTE := fun ρ S Φ Ω => ∃ p kvs, S p = some (.dK kvs) ∧ ∀ o us, d ρ (su S p (.fz o us kvs)) (fun v S' => S' p = some (.fz o us kvs) ∧ Φ v (su S' p (.dK kvs))) Ω
@[reducible] def xiItems (da : XTE) : XTI := fun ρ S Φ Ω => da ρ S (fun a S1 => match a with
  | .ref p => ∃ o us kvs, S1 p = some (.fz o us kvs) ∧ Φ (kvs.map fun kv => .tup [kDt kv.1, kv.2]) (fun S => S p = some (.fz o us kvs)) S1
  | _ => False) Ω
@[reducible] def xiKeys (da : XTE) : XTI := fun ρ S Φ Ω => da ρ S (fun a S1 => match a with
  | .ref p => ∃ o us kvs, S1 p = some (.fz o us kvs) ∧ Φ (kvs.map fun kv => kDt kv.1) (fun S => S p = some (.fz o us kvs)) S1
  | _ => False) Ω
theorem lock_in {K : PySem.W.Frag} {S : Store} {H : Hp} {p : Addr} {kvs : List (Key × Dt)} {us : List (Key × V)} {od : Obj} (rel : Rel K S H) (e : S p = some (.dK kvs)) (h2 : DKV K S H kvs us) :
    Rel K (su S p (.fz od us kvs)) (upd H p (.frz od (.dK us))) ∧ Step S H (su S p (.fz od us kvs)) (upd H p (.frz od (.dK us))) := by
  have nz : S p ≠ none := by rw [e]; intro z; cases z
  have st : Step S H (su S p (.fz od us kvs)) (upd H p (.frz od (.dK us))) := Step.put (.inl nz)
  exact ⟨rel.put (m := .fz od us kvs) (.inl nz) ⟨us, upd_same, DKV.step st h2, rfl⟩, st⟩
theorem lock_out {K : PySem.W.Frag} {S : Store} {H : Hp} {p : Addr} {kvs : List (Key × Dt)} {us : List (Key × V)} {od : Obj} (rel : Rel K S H) (e : S p = some (.fz od us kvs)) :
    H p = some (.frz od (.dK us)) ∧ Rel K (su S p (.dK kvs)) (upd H p (.dK us)) ∧ Step S H (su S p (.dK kvs)) (upd H p (.dK us)) := by
  obtain ⟨vs, h1, h2, rfl⟩ := rel p _ e
  have nz : S p ≠ none := by rw [e]; intro z; cases z
  have st : Step S H (su S p (.dK kvs)) (upd H p (.dK vs)) := Step.put (.inl nz)
  exact ⟨h1, rel.put (m := .dK kvs) (.inl nz) ⟨vs, upd_same, DKV.step st h2⟩, st⟩
theorem DKV.key_get {K : PySem.W.Frag} {S : Store} {H : Hp} {κ : Type} : ∀ {kvs : List (κ × Dt)} {us : List (κ × V)} {i : Nat} {k : κ} {d : Dt}, DKV K S H kvs us → kvs[i]? = some (k, d) → ∃ v, us[i]? = some (k, v) ∧ D K S H d v
  | _, _, _, _, _, .nil, h => by cases h
  | _, _, 0, k, d, @Paired.cons _ _ _ p q l₁ l₂ r t, h => by
    obtain ⟨pk, pd⟩ := p
    obtain ⟨qk, qv⟩ := q
    have e := Option.some.inj h
    cases e
    obtain ⟨r1, r2⟩ := r
    dsimp only at r1 r2
    subst r1
    exact ⟨qv, rfl, r2⟩
  | _, _, i + 1, k, d, @Paired.cons _ _ _ p q l₁ l₂ r t, h => DKV.key_get (i := i) t (by simpa using h)
section
variable {X : Cx} {W : WX} {tg e o i value : Expr} {d da de dv : XTE} {pos apos cpos p tpos pos' : Pos} {K : PySem.W.Frag}
theorem de_lock (h : DE X W e d) : DE X W e (xLock d) := by
  obtain ⟨t, p1, s1⟩ := h
  refine ⟨_, pe_lock p1, fun σ H ρ S Q Φ Ω rel env hd ret exc => ?_⟩
  obtain ⟨p, kvs, e, hd⟩ := hd
  obtain ⟨us, h1, h2⟩ := rel_dk rel e
  refine ⟨p, .dK us, h1, True.intro, fun od => ?_⟩
  obtain ⟨r1, st⟩ := lock_in (od := od) rel e h2
  refine s1 σ _ ρ _ _ _ Ω r1 (env.step st) (hd od us) (fun v H' a S' r' st' d' g' => ?_) (exc.mono st)
  obtain ⟨e', g'⟩ := g'
  obtain ⟨h3, r4, st4⟩ := lock_out r' e'
  exact ⟨h3, ret v _ a _ r4 ((st.trans st').trans st4) (D.step st4 _ d') g'⟩
theorem itd_items {S₁ : Store} {H₁ : Hp} {p : Addr} {od : Obj} {us : List (Key × V)} {kvs : List (Key × Dt)} : ItD K S₁ H₁ (Iti p od us) (kvs.map fun kv => .tup [kDt kv.1, kv.2]) (fun S => S p = some (.fz od us kvs)) := by
  intro S H i rel st sy
  obtain ⟨vs, h1, h2, rfl⟩ := rel p _ sy
  have hl := h2.length
  refine ⟨fun hi => ⟨h1, by rw [List.length_map] at hi; omega⟩, fun d hd => ?_⟩
  rw [List.getElem?_map] at hd
  cases e : kvs[i]? with
  | none => rw [e] at hd; cases hd
  | some kv =>
    rw [e] at hd
    have hd : d = .tup [kDt kv.1, kv.2] := (Option.some.inj hd).symm
    subst hd
    obtain ⟨k, x⟩ := kv
    obtain ⟨v, hv, dv⟩ := h2.key_get e
    refine ⟨⟨h1, (List.getElem?_eq_some_iff.mp hv).1⟩, fun y H' yy => ?_⟩
    obtain ⟨T, k', v', e1, rfl, hT, rfl⟩ := yy
    rw [hv] at e1; cases e1
    have st1 : Step S H S (upd H T (.tup [kV k, v])) := Step.new1 hT
    exact ⟨rel.new1 hT, st1, D.tup (rel.hp hT) upd_same ⟨kV k, [v], rfl, D_kV k, v, [], rfl, D.step st1 _ dv, rfl⟩⟩
theorem itd_keys {S₁ : Store} {H₁ : Hp} {p : Addr} {od : Obj} {us : List (Key × V)} {kvs : List (Key × Dt)} : ItD K S₁ H₁ (Itk p od us) (kvs.map fun kv => kDt kv.1) (fun S => S p = some (.fz od us kvs)) := by
  intro S H i rel st sy
  obtain ⟨vs, h1, h2, rfl⟩ := rel p _ sy
  have hl := h2.length
  refine ⟨fun hi => ⟨h1, by rw [List.length_map] at hi; omega⟩, fun d hd => ?_⟩
  rw [List.getElem?_map] at hd
  cases e : kvs[i]? with
  | none => rw [e] at hd; cases hd
  | some kv =>
    rw [e] at hd
    have hd : d = kDt kv.1 := (Option.some.inj hd).symm
    subst hd
    obtain ⟨k, x⟩ := kv
    obtain ⟨v, hv, dv⟩ := h2.key_get e
    refine ⟨⟨h1, (List.getElem?_eq_some_iff.mp hv).1⟩, fun y H' yy => ?_⟩
    obtain ⟨rfl, k', v', e1, rfl⟩ := yy
    rw [hv] at e1; cases e1
    exact ⟨rel, Step.refl, D_kV k⟩
theorem di_items {elts : List Expr} {kk : Nat} (h : DE X W e da) (hbase : attributeBase e "items" X.env (eval e X.env) = eval e X.env := by rfl) (hline : (apos.endLine == cpos.line) = true := by rfl) : DI X W (.Tuple elts kk tpos) (.Call (.Attribute e "items" apos) [] [] cpos) (xiItems da) := by
  obtain ⟨t, p1, s1⟩ := h
  refine ⟨_, pi_items p1 hbase hline, fun σ H ρ S R Φ Ω rel env hd nx exc => ?_⟩
  refine s1 σ H ρ S _ _ Ω rel env hd (fun x H1 a S1 rel1 st1 d1 g1 => ?_) exc
  split at g1
  · rename_i p
    obtain ⟨od, us, kvs, e1, g1⟩ := g1
    cases d1
    obtain ⟨vs, h1, h2, rfl⟩ := rel1 p _ e1
    exact ⟨p, od, vs, rfl, h1, nx _ H1 S1 _ _ rel1 st1 itd_items g1⟩
  · exact g1.elim
theorem di_keys (h : DE X W e da) : DI X W tg e (xiKeys da) := by
  obtain ⟨t, p1, s1⟩ := h
  refine ⟨_, pi_keys p1, fun σ H ρ S R Φ Ω rel env hd nx exc => ?_⟩
  refine s1 σ H ρ S _ _ Ω rel env hd (fun x H1 a S1 rel1 st1 d1 g1 => ?_) exc
  split at g1
  · rename_i p
    obtain ⟨od, us, kvs, e1, g1⟩ := g1
    cases d1
    obtain ⟨vs, h1, h2, rfl⟩ := rel1 p _ e1
    exact ⟨p, od, rfl, .inl ⟨vs, h1, nx _ H1 S1 _ _ rel1 st1 itd_keys g1⟩⟩
  · exact g1.elim
end
/-! ### len, list, dict of dicts -/
def gLenD : FC := fun S as k => match as with
  | [.ref p] => ∃ kvs, S p = some (.dK kvs) ∧ k (.int kvs.length) S
  | _ => False
def gListD : FC := fun S as k => match as with
  | [.ref p] => ∃ kvs, S p = some (.dK kvs) ∧ k (.lst (kvs.map fun kv => kDt kv.1)) S
  | _ => False
def gListDM : FC := fun S as k => match as with
  | [.ref p] => ∃ kvs, S p = some (.dK kvs) ∧ ∀ l, S l = none → k (.ref l) (su S l (.lst (kvs.map fun kv => kDt kv.1)))
  | _ => False
/-- pairs (key, value) -/
def prD : Dt → Option (Key × Dt)
  | .tup [k, v] => (kD k).map fun k => (k, v)
  | _ => none
def gDictP : FC := fun S as k => match as with
  | [.lst xs] => ∃ kvs : List (Key × Dt), xs.map prD = kvs.map some ∧ kvs.length ≤ sizeLine ∧ ∀ l, S l = none → k (.ref l) (su S l (.dK (mergeD [] kvs)))
  | _ => False
section
variable {K : PySem.W.Frag}
theorem simLenD : SimC K (fun xs H Q => ∃ a kvs, xs = [V.ref a] ∧ H a = some (.dK kvs) ∧ Q (.int kvs.length) H) gLenD := by
  intro xs as S H Q k rel d h ret
  unfold gLenD at h
  split at h
  · obtain ⟨v, rfl, dv⟩ := d.one
    cases dv
    obtain ⟨kvs, e, h⟩ := h
    obtain ⟨us, h1, h2⟩ := rel_dk rel e
    exact ⟨_, us, rfl, h1, by rw [← h2.length]; exact ret.now rel Din h⟩
  · exact h.elim
theorem dall_keys {S : Store} {H : Hp} : ∀ {kvs : List (Key × Dt)} {us : List (Key × V)}, DKV K S H kvs us → DAll K S H (kvs.map fun kv => kDt kv.1) (us.map fun kv => kV kv.1)
  | _, _, .nil => rfl
  | _, _, @Paired.cons _ _ _ p q l₁ l₂ r t => by
    obtain ⟨r1, r2⟩ := r
    refine ⟨kV q.1, _, rfl, ?_, dall_keys t⟩
    show D K S H (kDt p.1) (kV q.1)
    rw [r1]; exact D_kV _
theorem simListD : SimC K (fun xs H Q => ∃ (a : Addr) (kvs : List (Key × V)), xs = [.ref a] ∧ Rd H a (.dK kvs) ∧ ∀ p, H p = none → Q (.ref p) (upd H p (.lst (kvs.map fun kv => kV kv.1)))) gListD := by
  intro xs as S H Q k rel d h ret
  unfold gListD at h
  split at h
  · obtain ⟨v, rfl, dv⟩ := d.one
    cases dv
    obtain ⟨kvs, e, h⟩ := h
    obtain ⟨us, h1, h2⟩ := rel_dk rel e
    exact ⟨_, us, rfl, .inl h1, fun l hl => ret.newL rel (dall_keys h2) hl h⟩
  · exact h.elim
theorem simListDM : SimC K (fun xs H Q => ∃ (a : Addr) (kvs : List (Key × V)), xs = [.ref a] ∧ Rd H a (.dK kvs) ∧ ∀ p, H p = none → Q (.ref p) (upd H p (.lst (kvs.map fun kv => kV kv.1)))) gListDM := by
  intro xs as S H Q k rel d h ret
  unfold gListDM at h
  split at h
  · obtain ⟨v, rfl, dv⟩ := d.one
    cases dv
    obtain ⟨kvs, e, h⟩ := h
    obtain ⟨us, h1, h2⟩ := rel_dk rel e
    exact ⟨_, us, rfl, .inl h1, fun l hl => ret.newM rel (dall_keys h2) hl (h l (rel.hp hl))⟩
  · exact h.elim
theorem pairs_data {S : Store} {H : Hp} : ∀ {xs : List Dt} {vs : List V} {kvs : List (Key × Dt)}, DAll K S H xs vs → xs.map prD = kvs.map some →
    ∃ (ps : List Addr) (us : List (Key × V)), vs = ps.map V.ref ∧ Paired (fun p kv => SqT K H p [kV kv.1, kv.2]) ps us ∧ DKV K S H kvs us
  | [], _, [], h, _ => by cases h; exact ⟨[], [], rfl, .nil, .nil⟩
  | [], _, _ :: _, _, e => by cases e
  | _ :: _, _, [], _, e => by cases e
  | x :: xs, _, kv :: kvs, ⟨v, r, rfl, dv, g⟩, e => by
    rw [List.map_cons, List.map_cons] at e
    injection e with e1 e2
    obtain ⟨ps, us, rfl, h1, h2⟩ := pairs_data g e2
    unfold prD at e1
    split at e1
    · rename_i kd vd
      obtain ⟨a, ws, rfl, f, g2⟩ := dv
      obtain ⟨u1, u2, rfl, d1, d2⟩ := g2.two
      cases hk : kD kd with
      | none => rw [hk] at e1; cases e1
      | some k =>
        rw [hk] at e1
        have e1 : kv = (k, vd) := (Option.some.inj e1).symm
        subst e1
        have := kD_V d1 hk
        subst this
        exact ⟨a :: ps, (k, u2) :: us, rfl, .cons f.sq h1, .cons ⟨rfl, d2⟩ h2⟩
    · cases e1
theorem simDictP : SimC K (fun xs H Q => ∃ (a : Addr) (ps : List Addr) (kvs : List (Key × V)), xs = [.ref a] ∧ SqL K H a (ps.map V.ref) ∧ Paired (fun p kv => SqT K H p [kV kv.1, kv.2]) ps kvs ∧ ∀ p, H p = none → Q (.ref p) (upd H p (.dK (mergeK [] kvs)))) gDictP := by
  intro xs as S H Q k rel d h ret
  unfold gDictP at h
  split at h
  · obtain ⟨v, rfl, dv⟩ := d.one
    obtain ⟨kvs, e, hz, h⟩ := h
    obtain ⟨a, vs, rfl, f, g⟩ := dv
    obtain ⟨ps, us, rfl, h1, h2⟩ := pairs_data g e
    refine ⟨a, ps, us, rfl, f.sq, h1, fun l hl => ?_⟩
    have st : Step S H (su S l (.dK (mergeD [] kvs))) (upd H l (.dK (mergeK [] us))) := Step.put (.inr hl)
    exact ret _ _ (.ref l) _ (rel.put (m := .dK (mergeD [] kvs)) (.inr hl) ⟨_, upd_same, DKV.step st (DKV.merge h2 .nil)⟩) st rfl (h l (rel.hp hl))
  · exact h.elim
end
/-- list(d.items()) -/
@[reducible] def xListItems (da : XTE) : XTE := fun ρ S Φ Ω => da ρ S (fun a S1 => match a with
  | .ref p => ∃ kvs, S1 p = some (.dK kvs) ∧ Φ (.lst (kvs.map fun kv => .tup [kDt kv.1, kv.2])) S1
  | _ => False) Ω
theorem dall_items {K : PySem.W.Frag} {S : Store} {H : Hp} : ∀ {kvs : List (Key × Dt)} {us : List (Key × V)} {ts : List Addr}, DKV K S H kvs us → (∀ t ∈ ts, S t = none) → Paired (fun (t : Addr) (q : Key × V) => H t = some (.tup [kV q.1, q.2])) ts us → DAll K S H (kvs.map fun kv => .tup [kDt kv.1, kv.2]) (ts.map V.ref)
  | _, _, [], .nil, _, _ => rfl
  | _, _, _ :: _, .nil, _, h => by cases h
  | _, _, [], .cons _ _, _, h => by cases h
  | _, _, a :: l₃, @Paired.cons _ _ _ p q l₁ l₂ r t, hn, h => by
    obtain ⟨r1, r3⟩ := r
    have h' : H a = some (.tup [kV q.1, q.2]) ∧ Paired (fun (t : Addr) (q : Key × V) => H t = some (.tup [kV q.1, q.2])) l₃ l₂ := by
      cases h with | cons x y => exact ⟨x, y⟩
    obtain ⟨r2, t2⟩ := h'
    refine ⟨.ref a, _, rfl, D.tup (hn a (by simp)) r2 ⟨kV q.1, [q.2], rfl, by rw [r1]; exact D_kV _, q.2, [], rfl, r3, rfl⟩, dall_items t (fun t ht => hn t (by simp [ht])) t2⟩
section
variable {X : Cx} {W : WX} {tg e o i value : Expr} {d da de dv : XTE} {pos apos cpos p tpos pos' : Pos} {K : PySem.W.Frag}
theorem de_listItems {k : Nat} (c : Cxt X W k) (hm : X.mg "list" = none) (h : DE X W e da) (hg : Gl X "list" := by rfl) (hbase : attributeBase e "items" X.env (eval e X.env) = eval e X.env := by rfl) (hline : (apos.endLine == cpos.line) = true := by rfl)
    (h1 : starEach [.Call (.Attribute e "items" apos) [] [] cpos] X.env = (false, eval (.Call (.Attribute e "items" apos) [] [] cpos) X.env) :: starEach [] X.env := by rfl) :
    DE X W (.Call (.Name "list" p) [.Call (.Attribute e "items" apos) [] [] cpos] [] pos) (xListItems da) := by
  obtain ⟨t, p1, s1⟩ := h
  refine ⟨_, LiI.pe_listItems c.calm p1 hg hm (by decide +kernel) hbase hline h1, fun σ H ρ S Q Φ Ω rel env hd ret exc => ?_⟩
  refine s1 σ H ρ S _ _ Ω rel env hd (fun x H1 a S1 rel1 st1 d1 g1 => ?_) exc
  split at g1
  · rename_i p
    obtain ⟨kvs, e1, g1⟩ := g1
    cases d1
    obtain ⟨us, h1, h2⟩ := rel_dk rel1 e1
    refine ⟨p, us, rfl, h1, fun H' q ts kp hq hts hqt hl pr => ?_⟩
    have st2 : Step S1 H1 S1 H' := ⟨fun a u _ e => kp a u e, fun _ e n => absurd e n⟩
    have r2 : Rel X.K S1 H' := fun a m ea => by
      have hm := rel1 a m ea
      cases ha : H1 a with
      | none => rw [rel1.hp ha] at ea; cases ea
      | some u => exact hm.step st2 ((kp a u ha).trans ha.symm)
    exact ret _ _ _ _ r2 (st1.trans st2) (D.lst (rel1.hp hq) hl (dall_items (DKV.step st2 h2) (fun t ht => rel1.hp (hts t ht)) pr)) g1
  · exact g1.elim
/-! ### an attribute as a target -/
def gFld (K : PySem.W.Frag) (to : TE) (f : Str) : TG := fun v σ H Q => to σ H fun x H2 => ∃ a C dx fs, x = .ref a ∧ H2 a = some (.ins C dx fs) ∧ Cls K C ∧ NoAttr K C f ∧ fs.length < 1000 ∧ Q σ (upd H2 a (.ins C dx (L2.putF f v fs)))
theorem pg_fld {f : Str} {to : TE} (ho : PE X o to) : PG X (.Attribute o f pos) (gFld X.K to f) := by
  refine ⟨fun pins s σ H v u Q I r h => ?_⟩
  rw [arm_assign_Attribute]
  refine wpAny_bind (wpAny_holding (thn (ho.run pins s σ H _ I h) fun ov s1 ⟨x, H1, I1, r1, a, C, dx, fs, ex, ea, c, n, hl, q1⟩ => ?_))
  subst ex
  obtain rfl : ov = Value.ref a := r1
  refine wpAny_bind (wpAny_standAt (wpAny_bind (wpAny_holding (setattr_ok I1 ea c n hl r fun s3 I3 => ?_))))
  exact wpAny_release ⟨σ, _, I3, q1⟩
theorem dg_fld {C : Addr} {f : Str} (c : Cls X.K C) (n : NoAttr X.K C f) (ho : ∀ W, DE X W o de) : DG X (.Attribute o f pos) (xgFld C f de) := by
  obtain ⟨t, p1, s1⟩ := ho W0
  refine ⟨_, pg_fld p1, fun v a σ H ρ S Q Φ rel env dv h nx => ?_⟩
  refine s1 σ H ρ S _ _ _ rel env h (fun x H1 b S1 rel1 st1 d1 g1 => ?_) (fun _ _ _ _ _ _ _ _ z => z.elim)
  split at g1
  · rename_i q
    obtain ⟨dx, fs, e1, e2, g1⟩ := g1
    cases d1
    obtain ⟨vs, h1, h2⟩ := rel_ins rel1 e1
    obtain ⟨r3, st3⟩ := put_ins (f := f) rel1 e1 h2 (D.step st1 _ dv)
    exact ⟨q, C, dx, vs, rfl, h1, c, n, by rw [← h2.length]; exact e2, nx σ _ ρ _ r3 (st1.trans st3) (env.step (st1.trans st3)) g1⟩
  · exact g1.elim
end
end DL

set_option Elab.async false
set_option linter.all false
set_option maxRecDepth 100000
set_option maxHeartbeats 4000000
/-! The data layer: dict comprehensions, nested blocks, two targets, f-strings, lists cut anew. -/
namespace DL
open PySem PySem.Spec PyProof.Rows L2
section
variable {X : Cx} {scope : Scope} {vs : List Nat} {pos : Pos}
theorem dgm_tup {es : List Expr} {k n : Nat} {t : TGs} {r : XTGs} (hc : X.calm = true) (h : DGxs X scope es vs t r)
    (hn : ∀ (s : Shared) (H : Hp) (C : Addr) (cl : List (Str × Addr)) (fp : List Addr), (assignEach es (X.blk s H scope (compEnvC scope cl C X.env) fp).env).length = n := by intro _ _ _ _ _; rfl)
    (hst : ∀ (s : Shared) (H : Hp) (C : Addr) (cl : List (Str × Addr)) (fp : List Addr), (assignEach es (X.blk s H scope (compEnvC scope cl C X.env) fp).env).findIdx? (·.1) = none := by intro _ _ _ _ _; rfl) : DGm X scope (.Tuple es k pos) vs (fun v σ H Q => gTup X.K n t v σ H Q ∨ gLst X.K n t v σ H Q) (xgTup n r) := by
  refine ⟨dgx_tup hc h hn hst, fun v σ H Q Q' m q => ?_⟩
  rcases q with ⟨a, xs, e, sq, hl, q⟩ | ⟨a, xs, e, sq, hl, q⟩
  · exact .inl ⟨a, xs, e, sq, hl, h.mono _ _ _ _ _ m q⟩
  · exact .inr ⟨a, xs, e, sq, hl, h.mono _ _ _ _ _ m q⟩
end
/-! ### dict comprehensions -/
@[reducible] def xDc (di : XTI) (g : XTG) (tt : XTT) (tk tv : XTE) (vs : List Nat) : XTE := fun ρ S Φ Ω => di ρ S (fun its stay S1 => ∀ p, S1 p = none → ∃ I : Nat → List (Key × Dt) → Store → Prop, I 0 [] (su S1 p (.dK [])) ∧
  (∀ i acc S', I i acc S' → stay S' ∧ S' p = some (.dK acc)) ∧
  (∀ i d acc S', its[i]? = some d → I i acc S' → acc.length < sizeLine ∧ g d (wipeR ρ vs) S' fun ρ2 S2 => tt ρ2 S2 (fun b S3 =>
    if b = true then tk ρ2 S3 (fun y S4 => tv ρ2 S4 (fun z S5 => ∃ k, kD y = some k ∧ S5 p = some (.dK acc) ∧ I (i + 1) (putD acc k z) (su S5 p (.dK (putD acc k z)))) (fun _ _ _ => False)) (fun _ _ _ => False)
    else I (i + 1) acc S3) (fun _ _ _ => False)) ∧
  (∀ acc S', I its.length acc S' → Φ (.ref p) S')) Ω
section
variable {K : PySem.W.Frag} {W : WX} {di : XTI} {dg : XTG} {dt : XTT} {dk de : XTE} {X : Cx} {scope : Scope} {own : List (Str × Nat)} {pos : Pos} {tg iter kx elt : Expr} {ifs : List Expr}
theorem simDc {wi : TI} {g : TG} {vs : List Nat} (h : SimI K W wi di) (hg : SimG K g dg) (ok : TgOk g vs) : SimE K W (tDc wi g (tT K W0 dt) (tE K W0 dk) (tE K W0 de) vs) (xDc di dg dt dk de vs) := by
  intro σ H ρ S Q Φ Ω rel env h' ret exc
  refine h σ H ρ S _ _ _ rel env h' (fun J H1 S1 its stay rel1 st1 it g1 Dl hD => ?_) exc
  obtain ⟨I, i0, inv, turn, done⟩ := g1 Dl (rel1.hp hD)
  refine ⟨fun i m H' => m = its.length - i ∧ i ≤ its.length ∧ ∃ acc S', Rel K S' H' ∧ Step S1 H1 S' H' ∧ I i acc S', ⟨its.length, by simp, Nat.zero_le _, [], _, rel1.put (m := .dK []) (.inr hD) ⟨[], upd_same, .nil⟩, Step.put (.inr hD), i0⟩, ?_⟩
  rintro i m H' ⟨rfl, hi, acc, S', rel', st', hI⟩
  obtain ⟨sy, hp⟩ := inv i acc S' hI
  obtain ⟨a1, a2⟩ := it S' H' i rel' st' sy
  by_cases hlt : i < its.length
  · refine .inr ?_
    have hd : its[i]? = some its[i] := List.getElem?_eq_getElem hlt
    obtain ⟨go, b2⟩ := a2 _ hd
    refine ⟨go, fun H2 => ∃ acc S2, Rel K S2 H2 ∧ Step S1 H1 S2 H2 ∧ I (i + 1) acc S2, fun H2 ⟨acc, S2, r2, s2, h2⟩ => ⟨its.length - (i + 1), by omega, rfl, hlt, acc, S2, r2, s2, h2⟩, fun x H'' y => ?_⟩
    obtain ⟨r3, s3, d3⟩ := b2 x H'' y
    obtain ⟨hz, tn⟩ := turn i _ acc S' hd hI
    have env' : EnvR K S' H'' (wipe σ vs) (wipeR ρ vs) := ((env.step ((st1.trans st').trans s3)).wipe vs)
    have z := ok x (wipe σ vs) H'' _ (hg x _ (wipe σ vs) H'' (wipeR ρ vs) S' (fun σ2 H2 => tT K W0 dt σ2 H2 fun b H3 => if b = true then tE K W0 dk σ2 H3 fun y H4 => tE K W0 de σ2 H4 fun z H5 => ∃ kvs k, y = kV k ∧ H5 Dl = some (.dK kvs) ∧ kvs.length < sizeLine ∧ ∃ acc S2, Rel K S2 (upd H5 Dl (.dK (putK kvs k z))) ∧ Step S1 H1 S2 (upd H5 Dl (.dK (putK kvs k z))) ∧ I (i + 1) acc S2
        else ∃ acc S2, Rel K S2 H3 ∧ Step S1 H1 S2 H3 ∧ I (i + 1) acc S2) _ r3 env' d3 tn fun σ2 H2 ρ2 S2 r2 s2 e2 h2 => ?_)
    · have e := @wipe_wipe σ vs
      rw [e] at z
      exact z
    · refine ⟨ρ2, S2, _, _, r2, e2, h2, fun b H3 S3 r5 s5 h5 => ?_, fun _ _ _ _ _ _ _ _ z => z.elim⟩
      have st5 := ((st'.trans s3).trans s2).trans s5
      cases b with
      | true =>
        rw [if_pos rfl] at h5
        refine iteT ?_
        refine ⟨ρ2, S3, _, _, r5, e2.step s5, h5, fun y H4 yd S4 r6 s6 d6 h6 => ?_, fun _ _ _ _ _ _ _ _ z => z.elim⟩
        refine ⟨ρ2, S4, _, _, r6, (e2.step s5).step s6, h6, fun z H5 zd S5 r7 s7 d7 h7 => ?_, fun _ _ _ _ _ _ _ _ z => z.elim⟩
        obtain ⟨k, ek, hp7, h7⟩ := h7
        have ey := kD_V (D.step s7 _ d6) ek
        subst ey
        obtain ⟨us, e7, g7⟩ := rel_dk r7 hp7
        obtain ⟨r8, st8⟩ := put_dk r7 hp7 (g7.put (k := k) d7)
        exact ⟨us, k, rfl, e7, by rw [← g7.length]; exact hz, _, _, r8, ((st5.trans s6).trans s7).trans st8, h7⟩
      | false =>
        rw [if_neg Bool.false_ne_true] at h5
        refine iteF ?_
        exact ⟨acc, S3, r5, st5, h5⟩
  · have e : i = its.length := by omega
    subst e
    exact .inl ⟨a1 (Nat.le_refl _), ret (.ref Dl) H' (.ref Dl) S' rel' (st1.trans st') rfl (done acc S' hI)⟩
theorem de_dc {k : Nat} {g : TG} (c : Cxt X W k) (hi : DI X W tg iter di) (ok : BlkOk X.N X.env.scope scope own) (hg : DGx X scope tg (own.map (·.2)) g dg)
    (ht : ∀ (s : Shared) (H : Hp) (C : Addr) (cl : List (Str × Addr)) (fp : List Addr), DTs (X.blk s H scope (compEnvC scope cl C X.env) fp) W0 ifs dt)
    (hk : ∀ (s : Shared) (H : Hp) (C : Addr) (cl : List (Str × Addr)) (fp : List Addr), DE (X.blk s H scope (compEnvC scope cl C X.env) fp) W0 kx dk)
    (he : ∀ (s : Shared) (H : Hp) (C : Addr) (cl : List (Str × Addr)) (fp : List Addr), DE (X.blk s H scope (compEnvC scope cl C X.env) fp) W0 elt de) (hs : ∀ x, foldedSetIterable iter X.env x = pure x := by intro _; rfl) :
    DE X W (.DictComp kx elt [⟨tg, iter, ifs, 0⟩] scope pos) (xDc di dg dt dk de (own.map (·.2))) := by
  obtain ⟨t, p1, s1⟩ := hi
  exact ⟨_, pe_dc c.calm c.nd p1 ok hg.pg (fun s H C cl fp => (ht s H C cl fp).can) (fun s H C cl fp => (hk s H C cl fp).can) (fun s H C cl fp => (he s H C cl fp).can) hs, simDc s1 hg.sim hg.ok⟩
end
/-! ### t1 = t2 = e -/
@[reducible] def xAsg2 (da : XTE) (g1 g2 : XTG) : XTS := fun Δ Ω ρ S => da ρ S (fun a S1 => g1 a ρ S1 fun ρ1 S2 => g2 a ρ1 S2 Δ.nx) fun c fs S1 => Ω c fs ρ S1
section
variable {X : Cx} {W : WX} {e a t1 t2 : Expr} {da : XTE} {g1 g2 : XTG} {pos : Pos} {K : PySem.W.Frag}
theorem ds_asg2 (h : DE X W e da) (h1 : DG X t1 g1) (h2 : DG X t2 g2) (ha : (assignEach [t1, t2] X.env).map (·.2) = [assign t1 X.env, assign t2 X.env] := by rfl) (hw : swappedStores [t1, t2] e X.env = pure none := by rfl) : DS X W (.Assign [t1, t2] e pos) (xAsg2 da g1 g2) := by
  obtain ⟨t, p1, s1⟩ := h
  obtain ⟨u1, q1, r1⟩ := h1
  obtain ⟨u2, q2, r2⟩ := h2
  refine ⟨_, ps_asg2 p1 q1 q2 ha hw, fun σ H ρ S E Δ Ω rel env h en exc => ?_⟩
  refine s1 σ H ρ S _ _ _ rel env h (fun x H1 a S1 rel1 st1 d1 g => ?_) (exc.at env)
  refine r1 x a σ H1 ρ S1 _ _ rel1 (env.step st1) d1 g (fun σ2 H2 ρ2 S2 rel2 st2 env2 g' => ?_)
  exact r2 x a σ2 H2 ρ2 S2 _ _ rel2 env2 (D.step st2 _ d1) g' (en.nx.mono (st1.trans st2))
/-! ### f-strings -/
abbrev XTJ := Str → Ro → Store → (Str → Store → Prop) → XK1 → Prop
@[reducible] def xFmt (da : XTE) : XTE := fun ρ S Φ Ω => da ρ S (fun a S1 => match a with
  | .str y => y.length ≤ sizeLine ∧ Φ (.str y) S1
  | .int i => i.natAbs.log2 < 1920 ∧ Φ (.str (toString i)) S1
  | _ => False) Ω
def DJ (X : Cx) (W : WX) (es : List Expr) (d : XTJ) : Prop := ∃ ts, PJ X es ts ∧ ∀ acc σ H ρ S Q Φ Ω, Rel X.K S H → EnvR X.K S H σ ρ → d acc ρ S Φ Ω → (∀ out H' S', Rel X.K S' H' → Step S H S' H' → Φ out S' → Q out H') → Exc X.K S H Ω (WE W σ) → tJs ts acc σ H Q
@[reducible] def xjNil : XTJ := fun acc _ S Φ _ => Φ acc S
@[reducible] def xjCons (de : XTE) (r : XTJ) : XTJ := fun acc ρ S Φ Ω => de ρ S (fun a S1 => match a with
  | .str y => (acc ++ y).length ≤ sizeLine ∧ r (acc ++ y) ρ S1 Φ Ω
  | _ => False) Ω
@[reducible] def xJoined (r : XTJ) : XTE := fun ρ S Φ Ω => r Str.empty ρ S (fun out S' => Φ (.str out) S') Ω
theorem de_fmt (h : DE X W e da) : DE X W (.FormattedValue e (-1) none pos) (xFmt da) := by
  obtain ⟨t, p1, s1⟩ := h
  refine ⟨_, pe_fmt p1, fun σ H ρ S Q Φ Ω rel env hd ret exc => ?_⟩
  refine s1 σ H ρ S _ _ Ω rel env hd (fun x H1 a S1 rel1 st1 d1 g1 => ?_) exc
  split at g1
  · cases d1
    exact .inl ⟨_, rfl, g1.1, ret _ _ _ _ rel1 st1 Dst g1.2⟩
  · cases d1
    exact .inr ⟨_, rfl, g1.1, ret _ _ _ _ rel1 st1 Dst g1.2⟩
  · exact g1.elim
theorem dj_nil : DJ X W [] xjNil := ⟨[], .nil, fun acc σ H ρ S Q Φ Ω rel env h ret exc => ret acc H S rel Step.refl h⟩
theorem dj_cons {es : List Expr} {r : XTJ} (h : DE X W e da) (hr : DJ X W es r) : DJ X W (e :: es) (xjCons da r) := by
  obtain ⟨t, p1, s1⟩ := h
  obtain ⟨ts, p2, s2⟩ := hr
  refine ⟨t :: ts, .cons p1 p2, fun acc σ H ρ S Q Φ Ω rel env h ret exc => ?_⟩
  refine s1 σ H ρ S _ _ Ω rel env h (fun x H1 a S1 rel1 st1 d1 g1 => ?_) exc
  split at g1
  · cases d1
    exact ⟨_, rfl, g1.1, s2 _ σ H1 ρ S1 _ _ Ω rel1 (env.step st1) g1.2 (fun out H' S' r' st' q => ret out H' S' r' (st1.trans st') q) (exc.mono st1)⟩
  · exact g1.elim
theorem de_joined {v1 v2 : Expr} {rest : List Expr} {r : XTJ} (h : DJ X W (v1 :: v2 :: rest) r) : DE X W (.JoinedStr (v1 :: v2 :: rest) pos) (xJoined r) := by
  obtain ⟨ts, p1, s1⟩ := h
  exact ⟨_, pe_joined p1, fun σ H ρ S Q Φ Ω rel env hd ret exc => s1 Str.empty σ H ρ S _ _ Ω rel env hd (fun out H' S' r' st' q => ret _ _ _ _ r' st' Dst q) exc⟩
/-! ### str(x) -/
def gStrIS : FC := fun S as k => match as with
  | [.int i] => i.natAbs.log2 < 1920 ∧ k (.str (toString i)) S
  | [.str x] => k (.str x) S
  | _ => False
theorem simStrIS : SimC K (fun xs H Q => (∃ i, xs = [.int i] ∧ i.natAbs.log2 < 1920 ∧ Q (.str (toString i)) H) ∨ (∃ a, xs = [.str a] ∧ Q (.str a) H)) gStrIS := by
  intro xs as S H Q k rel d h ret
  unfold gStrIS at h
  split at h
  · obtain ⟨v, rfl, dv⟩ := d.one
    cases dv
    exact .inl ⟨_, rfl, h.1, ret.now rel Dst h.2⟩
  · obtain ⟨v, rfl, dv⟩ := d.one
    cases dv
    exact .inr ⟨_, rfl, ret.now rel Dst h⟩
  · exact h.elim
/-! ### a list cut anew -/
@[reducible] def fSlM (S : Store) (a : Dt) (lo hi : Option Int) (k : OK1) : Prop := match a with
  | .ref p => ∃ xs, S p = some (.lst xs) ∧ ∀ q, S q = none → k (.ref q) (su S q (.lst (cutL xs lo hi)))
  | .lst xs => ∀ q, S q = none → k (.ref q) (su S q (.lst (cutL xs lo hi)))
  | _ => False
@[reducible] def xSlM (da : XTE) (dl dh : XTO) : XTE := fun ρ S Φ Ω => da ρ S (fun a S1 => dl ρ S1 (fun lo S2 => dh ρ S2 (fun hi S3 => fSlM S3 a lo hi Φ) Ω) Ω) Ω
theorem de_slM {lo hi : Option Expr} {dl dh : XTO} {p2 : Pos} (ha : DE X W a da) (hl : DO X W lo dl) (hh : DO X W hi dh) : DE X W (.Subscript a (.Slice lo hi none p2) pos) (xSlM da dl dh) := by
  obtain ⟨t, h1, s1⟩ := ha
  obtain ⟨tl, h2, s2⟩ := hl
  obtain ⟨th, h3, s3⟩ := hh
  refine ⟨_, pe_slice (sl_list.or (sl_tupA.or L2.sl_str)) h1 h2 h3, fun σ H ρ S Q Φ Ω rel env h ret exc => ?_⟩
  refine s1 σ H ρ S _ _ Ω rel env h (fun x H1 a S1 rel1 st1 d1 g1 => ?_) exc
  refine s2 σ H1 ρ S1 _ _ Ω rel1 (env.step st1) g1 (fun l H2 S2 rel2 st2 g2 => ?_) (exc.mono st1)
  refine s3 σ H2 ρ S2 _ _ Ω rel2 (env.step (st1.trans st2)) g2 (fun u H3 S3 rel3 st3 g3 => ?_) (exc.mono (st1.trans st2))
  have d3 := D.step (st2.trans st3) _ d1
  have ret3 := ret.mono ((st1.trans st2).trans st3)
  unfold fSlM at g3
  split at g3
  · obtain ⟨xs, e, g3⟩ := g3
    cases d3
    obtain ⟨vs, e2, g⟩ := rel3 _ _ e
    exact .inl ⟨_, vs, rfl, .inl (.inl e2), fun q hq => ret3.newM rel3 (cutL_D g l u) hq (g3 q (rel3.hp hq))⟩
  · obtain ⟨p, vs, e, f, g⟩ := d3
    exact .inl ⟨p, vs, e, f.sq, fun q hq => ret3.newM rel3 (cutL_D g l u) hq (g3 q (rel3.hp hq))⟩
  · exact g3.elim
end
end DL
namespace DL
open PySem PySem.Spec PyProof.Rows L2
theorem de_make0X {X : Cx} {W : WX} {k j : Nat} {C f : Addr} {fd : FuncData} {ps : List Str} {R : Fsp} {x : Str} {p pos : Pos} {dvd : List Dt} {dvs : List V} (c : Cxt X W k) (M : Mk X.K C f) (F : FnD X.prog X.w X.K X.mg X.base j f fd ps R) (hj : j + 1 ≤ k) (hm : X.mg x = some (.ref C)) (hb : ∃ ds, Vals dvs ds ∧ Binds X.K fd ps ds) (hdv : ∀ S H, DAll X.K S H dvd dvs) (hg : Gl X x := by rfl) (hdb : (x == ("__debug__" : Str)) = false := by decide) :
    DE X W (.Call (.Name x p) [] [] pos) (xMake R C dvd xNil) := let ⟨_, hd, hb⟩ := hb; de_make0 c M F hj hm hb hd hdv hg hdb
end DL

set_option Elab.async false
set_option linter.all false
set_option maxRecDepth 100000
set_option maxHeartbeats 4000000
/-! The data layer: data that may be compared; lists compared item by item. -/
namespace DL
open PySem PySem.Spec PyProof.Rows L2
/-- data of depth n at most -/
structure Okn (n : Nat) (d : Dt) : Prop where
  pure : pureD d = true
  lay : PyData.canLay0 (toP d) = true
  dep : PyData.depth (toP d) ≤ n
theorem Okn.ok {n : Nat} {d : Dt} (h : Okn n d) (hn : n ≤ 64) : okD d = true := by
  unfold okD SeqAt.shaped
  rw [h.pure, h.lay, decide_eq_true (Nat.le_trans h.dep hn)]; rfl
theorem Okn.mono {n m : Nat} {d : Dt} (h : Okn n d) (hn : n ≤ m) : Okn m d := ⟨h.pure, h.lay, Nat.le_trans h.dep hn⟩
theorem Okn.int {n : Nat} {i : Int} : Okn n (.int i) := ⟨rfl, by show PyData.canLay0 (.int i) = true; unfold PyData.canLay0; rfl, Nat.zero_le _⟩
theorem Okn.bl {n : Nat} {i : Bool} : Okn n (.bl i) := ⟨rfl, by show PyData.canLay0 (.bool i) = true; unfold PyData.canLay0; rfl, Nat.zero_le _⟩
theorem Okn.non {n : Nat} : Okn n .non := ⟨rfl, by show PyData.canLay0 .none = true; unfold PyData.canLay0; rfl, Nat.zero_le _⟩
theorem Okn.str {n : Nat} {s : Str} (h : PyData.strOk s = true) : Okn n (.str s) := ⟨rfl, by show PyData.canLay0 (.str s) = true; unfold PyData.canLay0; exact h, Nat.zero_le _⟩
theorem oknAll {n : Nat} : ∀ {xs : List Dt}, (∀ d ∈ xs, Okn n d) → pureDs xs = true ∧ PyData.canLayAll0 (toPs xs) = true ∧ PyData.depthAll (toPs xs) ≤ n
  | [], _ => ⟨rfl, by show PyData.canLayAll0 [] = true; unfold PyData.canLayAll0; rfl, Nat.zero_le _⟩
  | d :: ds, h => by
    obtain ⟨a, b, c⟩ := oknAll (xs := ds) fun x hx => h x (by simp [hx])
    have hd := h d (by simp)
    refine ⟨by unfold pureDs; rw [hd.pure, a]; rfl, ?_, ?_⟩
    · show PyData.canLayAll0 (toP d :: toPs ds) = true
      unfold PyData.canLayAll0; rw [hd.lay, b]; rfl
    · show PyData.depthAll (toP d :: toPs ds) ≤ n
      unfold PyData.depthAll
      exact Nat.max_le.mpr ⟨hd.dep, c⟩
theorem Okn.lst {n : Nat} {xs : List Dt} (h : ∀ d ∈ xs, Okn n d) : Okn (n + 1) (.lst xs) := by
  obtain ⟨a, b, c⟩ := oknAll h
  refine ⟨by unfold pureD; exact a, ?_, ?_⟩
  · show PyData.canLay0 (.list (toPs xs)) = true
    unfold PyData.canLay0; exact b
  · show PyData.depth (.list (toPs xs)) ≤ n + 1
    unfold PyData.depth; omega
theorem Okn.tup {n : Nat} {xs : List Dt} (h : ∀ d ∈ xs, Okn n d) : Okn (n + 1) (.tup xs) := by
  obtain ⟨a, b, c⟩ := oknAll h
  refine ⟨by unfold pureD; exact a, ?_, ?_⟩
  · show PyData.canLay0 (.tuple (toPs xs)) = true
    unfold PyData.canLay0; exact b
  · show PyData.depth (.tuple (toPs xs)) ≤ n + 1
    unfold PyData.depth; omega
theorem Okn.rl {n : Nat} {xs : List Dt} (h : ∀ d ∈ xs, Okn n d) : Okn (n + 1) (.rl xs) := by
  obtain ⟨a, b, c⟩ := oknAll h
  refine ⟨by unfold pureD; exact a, ?_, ?_⟩
  · show PyData.canLay0 (.list (toPs xs)) = true
    unfold PyData.canLay0; exact b
  · show PyData.depth (.list (toPs xs)) ≤ n + 1
    unfold PyData.depth; omega
theorem Okn.ints {n : Nat} (l : List Int) : Okn (n + 1) (.lst (l.map .int)) := .lst fun d hd => by
  obtain ⟨i, _, rfl⟩ := List.mem_map.mp hd; exact .int
theorem eqDs_refl : ∀ {xs : List Dt}, (∀ d ∈ xs, eqD d d = true) → eqDs xs xs = true
  | [], _ => rfl
  | d :: ds, h => by
    show (eqD d d && eqDs ds ds) = true
    rw [h d (by simp), eqDs_refl fun x hx => h x (by simp [hx])]; rfl
theorem eqD_nil {xs : List Dt} : eqD (.lst xs) (.lst []) = decide (xs = []) := by
  rw [eqD_lst]; cases xs <;> rfl
theorem int_refl {i : Int} : eqD (.int i) (.int i) = true := by rw [eqD_int]; simp
theorem str_refl {i : Str} : eqD (.str i) (.str i) = true := by rw [eqD_str]; simp
theorem ints_refl {l : List Int} : eqD (.lst (l.map .int)) (.lst (l.map .int)) = true := by
  rw [eqD_lst]; exact eqDs_refl fun d hd => by obtain ⟨i, _, rfl⟩ := List.mem_map.mp hd; exact int_refl
theorem cl_empty : cl Str.empty = [] := rfl
theorem empty_app {x : Str} : Str.empty ++ x = x := cl_ext (by rw [cl_app, cl_empty]; rfl)
theorem sum_le {α : Type} {f : α → Nat} {b : Nat} : ∀ {l : List α}, (∀ x ∈ l, f x ≤ b) → (l.map f).sum ≤ b * l.length
  | [], _ => by simp
  | x :: l, h => by
    have ih := sum_le (l := l) fun y hy => h y (by simp [hy])
    have := h x (by simp)
    rw [List.map_cons, List.sum_cons, List.length_cons, Nat.mul_succ]; omega
end DL
namespace DL
/-- if p and q: .. -/
theorem br2 {p q : Bool} {P Q : Prop} (h1 : (p && q) = true → P) (h2 : (p && q) = false → Q) : if p = true then (if q = true then P else Q) else (if false = true then P else Q) := by
  cases p <;> cases q
  · exact h2 rfl
  · exact h2 rfl
  · exact h2 rfl
  · exact h1 rfl
/-- .. where q is asked with conditions -/
theorem br2c {p q : Bool} {A P Q : Prop} (ha : A) (h1 : (p && q) = true → P) (h2 : (p && q) = false → Q) : if p = true then (A ∧ (if q = true then P else Q)) else (if false = true then P else Q) := by
  cases p <;> cases q
  · exact h2 rfl
  · exact h2 rfl
  · exact ⟨ha, h2 rfl⟩
  · exact ⟨ha, h1 rfl⟩
theorem br2c3 {p q : Bool} {A B C P Q : Prop} (ha : A) (hb : B) (hc : C) (h1 : (p && q) = true → P) (h2 : (p && q) = false → Q) : if p = true then (A ∧ B ∧ C ∧ (if q = true then P else Q)) else (if false = true then P else Q) := by
  cases p <;> cases q
  · exact h2 rfl
  · exact h2 rfl
  · exact ⟨ha, hb, hc, h2 rfl⟩
  · exact ⟨ha, hb, hc, h1 rfl⟩
theorem br3c3 {p q r : Bool} {A B C P Q : Prop} (ha : A) (hb : B) (hc : C) (h1 : (p && q && r) = true → P) (h2 : (p && q && r) = false → Q) : if p = true then (A ∧ B ∧ C ∧ (if q = true then (if r = true then P else Q) else (if false = true then P else Q))) else (if false = true then P else Q) := by
  cases p <;> cases q <;> cases r
  all_goals first | exact h2 rfl | exact ⟨ha, hb, hc, h2 rfl⟩ | exact ⟨ha, hb, hc, h1 rfl⟩
end DL

set_option Elab.async false
set_option linter.all false
set_option maxRecDepth 100000
set_option maxHeartbeats 4000000
/-! The data layer: pop, reverse, objects made with keywords. -/
namespace DL
open PySem PySem.Spec PyProof.Rows L2
theorem DAll.dropLast {K : PySem.W.Frag} {S : Store} {H : Hp} {ds : List Dt} {vs : List V} (h : DAll K S H ds vs) : DAll K S H ds.dropLast vs.dropLast := by
  rw [List.dropLast_eq_take, List.dropLast_eq_take, h.length]; exact h.take _
theorem DAll.erase {K : PySem.W.Frag} {S : Store} {H : Hp} {ds : List Dt} {vs : List V} (h : DAll K S H ds vs) (i : Nat) : DAll K S H (ds.eraseIdx i) (vs.eraseIdx i) := by
  rw [List.eraseIdx_eq_take_drop_succ, List.eraseIdx_eq_take_drop_succ]; exact (h.take _).append (h.drop _)
def gPop : FM := fun S a as k => match a, as with
  | .ref p, [] => ∃ xs d, S p = some (.lst (xs ++ [d])) ∧ k d (su S p (.lst xs))
  | _, _ => False
def gPopAt : FM := fun S a as k => match a, as with
  | .ref p, [.int i] => ∃ xs d, S p = some (.lst xs) ∧ 0 ≤ i ∧ i < 2 ^ 63 ∧ xs[i.toNat]? = some d ∧ k d (su S p (.lst (xs.eraseIdx i.toNat)))
  | _, _ => False
def gRevM : FM := fun S a as k => match a, as with
  | .ref p, [] => ∃ xs, S p = some (.lst xs) ∧ k .non (su S p (.lst xs.reverse))
  | _, _ => False
section
variable {K : PySem.W.Frag}
theorem simPop : SimM K rPop gPop := by
  intro x xs a as S H Q k rel dx d h ret
  unfold gPop at h
  split at h
  · rename_i p
    cases dx
    have : xs = [] := d
    subst this
    obtain ⟨ys, y, e, h⟩ := h
    obtain ⟨vs, e2, g⟩ := rel p _ e
    have ne : S p ≠ none := by rw [e]; intro z; cases z
    obtain ⟨v, hv, dv⟩ := g.get (i := ys.length) (d := y) (by simp)
    have hl := g.length
    rw [List.length_append] at hl
    have gd := g.dropLast
    rw [List.dropLast_concat] at gd
    refine ⟨_, vs, v, rfl, rfl, e2, by rw [← hl]; exact hv, ?_⟩
    have st : Step S H (su S p (.lst ys)) (upd H p (.lst vs.dropLast)) := Step.put (.inl ne)
    exact ret _ _ y _ (rel.put (m := .lst ys) (.inl ne) ⟨_, upd_same, DAll.step st _ gd⟩) st (D.step st _ dv) h
  · exact h.elim
theorem simPopAt : SimM K rPopAt gPopAt := by
  intro x xs a as S H Q k rel dx d h ret
  unfold gPopAt at h
  split at h
  · rename_i p i
    obtain ⟨v0, rfl, dv0⟩ := d.one
    cases dv0
    cases dx
    obtain ⟨ys, y, e, h0, h1, hy, h⟩ := h
    obtain ⟨vs, e2, g⟩ := rel p _ e
    have ne : S p ≠ none := by rw [e]; intro z; cases z
    obtain ⟨v, hv, dv⟩ := g.get hy
    have hlt := (List.getElem?_eq_some_iff.mp hv).1
    refine ⟨_, vs, i, i.toNat, v, rfl, rfl, e2, by omega, h1, ?_, hv, ?_⟩
    · exact seqIndex_of h0 (by omega)
    have st : Step S H (su S p (.lst (ys.eraseIdx i.toNat))) (upd H p (.lst (vs.eraseIdx i.toNat))) := Step.put (.inl ne)
    exact ret _ _ y _ (rel.put (m := .lst (ys.eraseIdx i.toNat)) (.inl ne) ⟨_, upd_same, DAll.step st _ (g.erase _)⟩) st (D.step st _ dv) h
  · exact h.elim
theorem simRevM : SimM K rReverse gRevM := by
  intro x xs a as S H Q k rel dx d h ret
  unfold gRevM at h
  split at h
  · rename_i p
    cases dx
    have : xs = [] := d
    subst this
    obtain ⟨ys, e, h⟩ := h
    obtain ⟨vs, e2, g⟩ := rel p _ e
    have ne : S p ≠ none := by rw [e]; intro z; cases z
    refine ⟨_, vs, rfl, rfl, e2, ?_⟩
    have st : Step S H (su S p (.lst ys.reverse)) (upd H p (.lst vs.reverse)) := Step.put (.inl ne)
    exact ret _ _ .non _ (rel.put (m := .lst ys.reverse) (.inl ne) ⟨_, upd_same, DAll.step st _ g.rev⟩) st rfl h
  · exact h.elim
end
section
variable {X : Cx} {W : WX} {o e : Expr} {da : XTE} {dr : XTA} {apos cpos : Pos}
theorem de_pop (ho : DE X W o da) (hbase : attributeBase o "pop" X.env (eval o X.env) = eval o X.env := by rfl) (hline : (apos.endLine == cpos.line) = true := by rfl) : DE X W (.Call (.Attribute o "pop" apos) [] [] cpos) (xM tyL gPop da xNil) :=
  de_m0 PySem.F.plainAttrs_list PySem.F.slot_list_pop PySem.F.type_list_pop mt_pop simPop tyL_ok ho hbase hline
theorem de_revM (ho : DE X W o da) (hbase : attributeBase o "reverse" X.env (eval o X.env) = eval o X.env := by rfl) (hline : (apos.endLine == cpos.line) = true := by rfl) : DE X W (.Call (.Attribute o "reverse" apos) [] [] cpos) (xM tyL gRevM da xNil) :=
  de_m0 PySem.F.plainAttrs_list PySem.F.slot_list_reverse PySem.F.type_list_reverse mt_reverse simRevM tyL_ok ho hbase hline
theorem de_popAt (ho : DE X W o da) (ha : DA X W [e] dr) (hbase : attributeBase o "pop" X.env (eval o X.env) = eval o X.env := by rfl)
    (hfew : ((backTo cpos (starEach [e] X.env)).all (fun x => !x.1) && (backToKw cpos (keywordEach [] X.env)).all (fun x => x.1.isSome)
      && decide ([e].length + ([] : List Keyword).length + (if ([] : List Keyword).isEmpty then 0 else 1) < 30)) = true := by rfl)
    (hline : (apos.endLine == cpos.line) = true := by rfl) (hst : starEach [e] X.env = (false, eval e X.env) :: starEach [] X.env := by rfl) (hplain : (backTo cpos (starEach [] X.env)).any (·.1) = false := by rfl) :
    DE X W (.Call (.Attribute o "pop" apos) [e] [] cpos) (xM tyL gPopAt da dr) :=
  de_m PySem.F.plainAttrs_list PySem.F.slot_list_pop PySem.F.type_list_pop mt_popAt simPopAt tyL_ok ho ha hbase hfew hline hst hplain
end
/-! ### C(k = v, ..) -/
section
variable {X : Cx} {W : WX} {k j : Nat} {C f : Addr} {fd : FuncData} {ps ks : List Str} {R : Fsp} {x : Str} {p pos : Pos} {kws : List Keyword} {dk : XTA} {gD : List Dt → List Dt → List Dt}
theorem run_makeKW {pins : List (Addr × Obj)} {σ : L2.St} {H : Hp} {s : Shared} {Q : VK} {ws : List Value} {zs : List V} {n : Nat} {g : List Value → List Value → List Value} {gV : List V → List V → List V} {sp : Sp} {E : L2.St → XK} (M : Mk X.K C f) (F : FnOk X.prog X.w X.K X.mg X.base (L2.CX X.prog X.w) k f fd ps sp) (hr : Room (k + 1) X.A)
    (hb : KBn X.K fd ps 1 ks g gV) (hx : PassesAt (L2.CX X.prog X.w) X σ (E σ)) (I : Inv X pins σ H s) (rz : Vals zs ws) (l2 : zs.length = ks.length)
    (h : ∀ x dx, H x = none → H dx = none → dx ≠ x → sp (gV [.ref x] zs) (upd (upd H dx (.own x)) x (.ins C dx [])) (fun v H2 => v = .non ∧ Q (.ref x) H2) (E σ)) :
    wpAny (model X.prog X.w) X.A (call (.ref C) [] (ks.zip ws)) (EP X pins σ Q) X.xe s := by
  have hq := h (s.heap.objs.size + 1) s.heap.objs.size (I.hok.fresh (Nat.le_succ _)) (I.hok.fresh (Nat.le_refl _)) (Nat.ne_of_lt (Nat.lt_succ_self _))
  have I2 := Inv.made (C := C) I
  have r1 : Vals [V.ref (s.heap.objs.size + 1)] [Value.ref (s.heap.objs.size + 1)] := .cons rfl .nil
  have r2 := hb.rel r1 rz
  refine wpAny_call (make_map (f := f) I.kIn M.makes M.init (beq_iff_eq.mp M.fn) (codeAny_mono (F.run _ X.stack _ _ ⟨[Value.ref (s.heap.objs.size + 1)], ks.zip ws⟩ (g [Value.ref (s.heap.objs.size + 1)] ws) _ _ (E σ) (hr.make C [] (ks.zip ws))
    (I2.env0.make C [] (ks.zip ws)) (hb.to _ [Value.ref (s.heap.objs.size + 1)] ws I2.kIn rfl (rz.length.symm.trans l2)) r2 hq) fun r s' hq' => ?_))
  cases r with
  | error e => exact hx pins _ _ e s' I2 hq'
  | ok fl =>
    cases fl with
    | ret u =>
      obtain ⟨v, H', I3, rv, ev, q3⟩ := I2.after hq'
      subst ev
      exact ⟨rv, ⟨V.ref (s.heap.objs.size + 1), H', I3, rfl, q3⟩⟩
    | next => exact False.elim hq'
    | brk => exact False.elim hq'
    | cont => exact False.elim hq'
@[reducible] def xMakeK0 (R : Fsp) (C : Addr) (gD : List Dt → List Dt → List Dt) (m : Nat) (dk : XTA) : XTE := fun ρ S Φ Ω => dk ρ S (fun bs S2 => bs.length = m ∧ ∀ x dx, S2 x = none → R (gD [.ref x] bs) (su S2 x (.ins C dx [])) (fun v S3 => v = .non ∧ Φ (.ref x) S3) Ω) Ω
theorem de_makeK0 (c : Cxt X W k) (M : Mk X.K C f) (F : FnD X.prog X.w X.K X.mg X.base j f fd ps R) (hj : j + 1 ≤ k) (hm : X.mg x = some (.ref C)) (hb : KBd X.K fd ps 1 ks gD) (hkw : DKw X W kws dk) (hg : Gl X x := by rfl) (hdb : (x == ("__debug__" : Str)) = false := by decide)
    (hall : (backToKw pos (keywordEach kws X.env)).all (·.1.isSome) = true := by rfl) (hks : (backToKw pos (keywordEach kws X.env)).filterMap (·.1) = ks := by rfl)
    (hpl : ((backTo pos (starEach [] X.env)).any (·.1) || (backToKw pos (keywordEach kws X.env)).any (·.1.isNone)) = false := by rfl) : DE X W (.Call (.Name x p) [] kws pos) (xMakeK0 R C gD ks.length dk) := by
  obtain ⟨g, gV, hb, hgd⟩ := hb.ex
  obtain ⟨t2, p2, s2⟩ := hkw
  refine ⟨fun σ H Q => t2 σ H fun zs H2 => zs.length = ks.length ∧ ∀ x dx, H2 x = none → H2 dx = none → dx ≠ x → spOf X.K R (gV [.ref x] zs) (upd (upd H2 dx (.own x)) x (.ins C dx [])) (fun v H3 => v = .non ∧ Q (.ref x) H3) (WE W σ), ⟨fun pins s σ H Q I h => ?_⟩, fun σ H ρ S Q Φ Ω rel env hd ret exc => ?_⟩
  · refine wpAny_Call_Name_kw (ld_glob I hg hm ?_ hdb)
    refine PySem.W.callWith_KW0 I.ok.mod.kin M.kp hall (thn (p2.run pos pins s σ H _ I h) fun ws s2 ⟨zs, H2, I2, rz, l2, q2⟩ => ⟨I2.kIn, ?_⟩) hpl
    rw [hks]
    exact run_makeKW (n := 1) (E := WE W) M F (c.hr.mono hj) hb (passAt c.tk σ) I2 rz l2 q2
  · refine s2 σ H ρ S _ _ Ω rel env hd (fun zs H2 bs S2 rel2 st2 d2 g2 => ?_) exc
    obtain ⟨l2, g2⟩ := g2
    refine ⟨by rw [← d2.length]; exact l2, fun x dx hx hdx ne => ?_⟩
    obtain ⟨r3, st3⟩ := rel_made (C := C) rel2 hx hdx ne
    refine ⟨_, _, _, Ω, r3, hgd _ _ [.ref x] bs [.ref x] zs rfl l2 ⟨.ref x, [], rfl, rfl, rfl⟩ (DAll.step st3 _ d2), g2 x dx (rel2.hp hx), fun v H3 a S3 r4 st4 d4 g4 => ?_, exc.mono (st2.trans st3)⟩
    obtain ⟨rfl, g4⟩ := g4
    cases d4
    exact ⟨rfl, ret (.ref x) H3 (.ref x) S3 r4 ((st2.trans st3).trans st4) rfl g4⟩
end
end DL

set_option Elab.async false
set_option linter.all false
set_option maxRecDepth 100000
set_option maxHeartbeats 4000000
/-! The data layer: a list that is changed no more. -/
namespace DL
open PySem PySem.Spec PyProof.Rows L2
/-- from here on the list is data -/
@[reducible] def xFrz (da : XTE) : XTE := fun ρ S Φ Ω => da ρ S (fun a S1 => match a with
  | .ref p => ∃ xs, S1 p = some (.lst xs) ∧ Φ (.lst xs) (sdel S1 p)
  | _ => False) Ω
theorem de_frz {X : Cx} {W : WX} {e : Expr} {da : XTE} (h : DE X W e da) : DE X W e (xFrz da) := by
  obtain ⟨t, p1, s1⟩ := h
  refine ⟨t, p1, fun σ H ρ S Q Φ Ω rel env hd ret exc => ?_⟩
  refine s1 σ H ρ S _ _ Ω rel env hd (fun x H1 a S1 rel1 st1 d1 g1 => ?_) exc
  split at g1
  · rename_i q
    obtain ⟨xs, e, g1⟩ := g1
    cases d1
    obtain ⟨vs, e2, g⟩ := rel1 _ _ e
    have sb : Sub (sdel S1 q) S1 := Sub.del
    exact ret _ H1 (.lst xs) _ (sb.rel rel1) (st1.trans sb.step) (D.lst sdel_same e2 (DAll.step sb.step _ g)) g1
  · exact g1.elim
/-- two ways that go on alike -/
theorem brD {b : Bool} {P Q : Prop} {F : Int → Store → Prop} (C : Int → Store → Prop) (hP : b = true → (∀ m S', C m S' → F m S') → P) (hQ : b = false → (∀ m S', C m S' → F m S') → Q) (hR : ∀ m S', C m S' → F m S') : if b = true then P else Q := by
  cases b with
  | true => exact hP rfl hR
  | false => exact hQ rfl hR
theorem brA {b : Bool} {P Q : Prop} {F : Addr → Store → Prop} (C : Addr → Store → Prop) (hP : b = true → (∀ m S', C m S' → F m S') → P) (hQ : b = false → (∀ m S', C m S' → F m S') → Q) (hR : ∀ m S', C m S' → F m S') : if b = true then P else Q := by
  cases b with
  | true => exact hP rfl hR
  | false => exact hQ rfl hR
theorem brV {b : Bool} {P Q : Prop} {F : Dt → Store → Prop} (C : Dt → Store → Prop) (hP : b = true → (∀ m S', C m S' → F m S') → P) (hQ : b = false → (∀ m S', C m S' → F m S') → Q) (hR : ∀ m S', C m S' → F m S') : if b = true then P else Q := by
  cases b with
  | true => exact hP rfl hR
  | false => exact hQ rfl hR
/-- a list without one of its items -/
theorem erase_filter {α β : Type} [DecidableEq β] (f : α → β) : ∀ {l : List α} {i : Nat} {x : α}, (l.map f).Nodup → l[i]? = some x → l.filter (fun q => decide (f q ≠ f x)) = l.eraseIdx i
  | [], _, _, _, h => by cases h
  | y :: l, 0, x, hn, h => by
    have e : y = x := Option.some.inj h
    subst e
    rw [List.map_cons, List.nodup_cons] at hn
    have h0 : decide (f y ≠ f y) = false := decide_eq_false fun z => z rfl
    rw [List.filter_cons, h0, List.eraseIdx_cons_zero]
    show (if false = true then _ else _) = l
    rw [if_neg Bool.false_ne_true]
    exact List.filter_eq_self.mpr fun q hq => decide_eq_true fun e => hn.1 (List.mem_map.mpr ⟨q, hq, e⟩)
  | y :: l, i + 1, x, hn, h => by
    have h' : l[i]? = some x := h
    rw [List.map_cons, List.nodup_cons] at hn
    have hx := List.mem_of_getElem? h'
    have h0 : decide (f y ≠ f x) = true := decide_eq_true fun e => hn.1 (List.mem_map.mpr ⟨x, hx, e.symm⟩)
    rw [List.filter_cons, h0, List.eraseIdx_cons_succ, ← erase_filter f hn.2 h']
    rfl
end DL

set_option Elab.async false
set_option linter.all false
set_option maxRecDepth 100000
set_option maxHeartbeats 4000000
/-! The data layer: written dicts with tuples. -/
namespace DL
open PySem PySem.Spec PyProof.Rows L2
theorem kv_tup {K : PySem.W.Frag} {d a : Addr} {k : Str} {o : Option Addr} {n : Nat} {e : Array (Option Value)} {us : List Value} {vs : List V} {ds : List Dt} (h1 : PySem.W.nsIn K d k = some (some (.ref a))) (h2 : K.lookup a = some ⟨.type "tuple", o, .seq us.toArray n, e⟩) (hl : us.length ≤ sizeLine) (hv : Vals vs us) (hd : ∀ S H, DAll K S H ds vs) :
    ∃ u v, PySem.W.nsIn K d k = some (some u) ∧ RelV v u ∧ ∀ S H, D K S H (.tup ds) v :=
  ⟨.ref a, .ref a, h1, rfl, fun S H => Dtp (.inr ⟨_, us.toArray, n, h2, rfl, rfl, by simpa using hl, hv⟩) (hd S H)⟩
/-- what stands between two statements -/
theorem seq_cut {d u : XTS} {Δ : XEnds} {Ω : Value → List (Str × Dt) → Ro → Store → Prop} {ρ : Ro} {S : Store} (C : Ro → Store → Prop) (h1 : ∀ nx : Ro → Store → Prop, (∀ ρ S, C ρ S → nx ρ S) → d { Δ with nx := nx } Ω ρ S) (h2 : ∀ ρ S, C ρ S → u Δ Ω ρ S) : xSeq d u Δ Ω ρ S := h1 _ h2
/-- a test, once for both ways -/
theorem if_cut {c : XTT} {t u : XTS} {Δ : XEnds} {Ω : Value → List (Str × Dt) → Ro → Store → Prop} {ρ : Ro} {S : Store} (v : Bool) (h : ∀ Φ : Bool → Store → Prop, Φ v S → c ρ S Φ fun c fs S1 => Ω c fs ρ S1) (h1 : v = true → t Δ Ω ρ S) (h2 : v = false → u Δ Ω ρ S) : xIfS c t u Δ Ω ρ S := by
  refine h _ ?_
  cases v with
  | true => exact h1 rfl
  | false => exact h2 rfl
theorem cl_cut_mid {z : Str} {a b : Nat} {i j : Int} (hi : i = a) (hj : j = b) : cl (cutS z (some i) (some j)) = ((cl z).drop a).take (b - a) := by
  subst hi; subst hj
  rw [cl_cut, sIx_pos (by omega), sIx_pos (by omega), cl_len, Int.toNat_natCast, Int.toNat_natCast]
  rcases Nat.le_total a (cl z).length with q | q
  · rw [Nat.min_eq_left q]
    rcases Nat.le_total b (cl z).length with r | r
    · rw [Nat.min_eq_left r]
    · rw [Nat.min_eq_right r, List.take_of_length_le (by rw [List.length_drop]; omega), List.take_of_length_le (by rw [List.length_drop]; omega)]
  · rw [Nat.min_eq_right q, List.drop_eq_nil_of_le (Nat.le_refl _), List.drop_eq_nil_of_le q, List.take_nil, List.take_nil]
end DL

namespace LW
open PySem PySem.Spec PyProof.Rows L2 DL
def topS (i : Nat) : Stmt := PySem.Challenge.pw_wordways_k12_written_words_read.main.body.getD i (.Pass ⟨0, 0, 0, 0⟩)
abbrev s_law_alike : Stmt := topS 25
abbrev s_law_bag : Stmt := topS 22
abbrev s_law_stirred : Stmt := topS 23
abbrev s_law_draw : Stmt := topS 24
abbrev s_law_name : Stmt := topS 26
abbrev s_law_leaf : Stmt := topS 27
abbrev s_law_word : Stmt := topS 28
abbrev s_law_written : Stmt := topS 29
abbrev s_Reader___init : Stmt := inClass (topS 19) 0
abbrev s_Reader_need : Stmt := inClass (topS 19) 1
abbrev s_sized : Stmt := topS 17
abbrev s_joined : Stmt := topS 18
abbrev s_Reader_closed : Stmt := inClass (topS 19) 3
abbrev s_Reader_item : Stmt := inClass (topS 19) 2
abbrev s_Reader_mark : Stmt := inClass (topS 19) 4
abbrev s_is_name : Stmt := topS 5
abbrev s_leaf_of : Stmt := topS 16
abbrev s_Reader_part : Stmt := inClass (topS 19) 5
abbrev s_shown : Stmt := topS 14
abbrev s_bracketed : Stmt := topS 13
abbrev s_tokens_of : Stmt := topS 15
abbrev s_read : Stmt := topS 20
abbrev s_law : Stmt := topS 30
structure Ad where
  f_law_alike : Addr
  d_law_alike : FuncData
  f_law_bag : Addr
  d_law_bag : FuncData
  f_law_stirred : Addr
  d_law_stirred : FuncData
  f_law_draw : Addr
  d_law_draw : FuncData
  f_law_name : Addr
  d_law_name : FuncData
  f_law_leaf : Addr
  d_law_leaf : FuncData
  f_law_word : Addr
  d_law_word : FuncData
  f_law_written : Addr
  d_law_written : FuncData
  f_Reader___init : Addr
  d_Reader___init : FuncData
  f_Reader_need : Addr
  d_Reader_need : FuncData
  f_sized : Addr
  d_sized : FuncData
  f_joined : Addr
  d_joined : FuncData
  f_Reader_closed : Addr
  d_Reader_closed : FuncData
  f_Reader_item : Addr
  d_Reader_item : FuncData
  f_Reader_mark : Addr
  d_Reader_mark : FuncData
  f_is_name : Addr
  d_is_name : FuncData
  f_leaf_of : Addr
  d_leaf_of : FuncData
  f_Reader_part : Addr
  d_Reader_part : FuncData
  f_shown : Addr
  d_shown : FuncData
  f_bracketed : Addr
  d_bracketed : FuncData
  f_tokens_of : Addr
  d_tokens_of : FuncData
  f_read : Addr
  d_read : FuncData
  f_law : Addr
  d_law : FuncData
  C_Reader : Addr
structure Tx (K : PySem.W.Frag) (w : World) (mg : Str → Option Value) (a : Ad) : Prop where
  F_law_alike : Fun K "_law_alike" "_law_alike" s_law_alike a.f_law_alike a.d_law_alike
  g_law_alike : mg "_law_alike" = some (.ref a.f_law_alike)
  b_law_alike : Binds K a.d_law_alike ["found", "due"] []
  F_law_bag : Fun K "_law_bag" "_law_bag" s_law_bag a.f_law_bag a.d_law_bag
  g_law_bag : mg "_law_bag" = some (.ref a.f_law_bag)
  b_law_bag : Binds K a.d_law_bag ["script"] []
  F_law_stirred : Fun K "_law_stirred" "_law_stirred" s_law_stirred a.f_law_stirred a.d_law_stirred
  g_law_stirred : mg "_law_stirred" = some (.ref a.f_law_stirred)
  b_law_stirred : Binds K a.d_law_stirred ["bag", "many"] []
  F_law_draw : Fun K "_law_draw" "_law_draw" s_law_draw a.f_law_draw a.d_law_draw
  g_law_draw : mg "_law_draw" = some (.ref a.f_law_draw)
  b_law_draw : Binds K a.d_law_draw ["bag", "many"] []
  F_law_name : Fun K "_law_name" "_law_name" s_law_name a.f_law_name a.d_law_name
  g_law_name : mg "_law_name" = some (.ref a.f_law_name)
  b_law_name : Binds K a.d_law_name ["bag"] []
  F_law_leaf : Fun K "_law_leaf" "_law_leaf" s_law_leaf a.f_law_leaf a.d_law_leaf
  g_law_leaf : mg "_law_leaf" = some (.ref a.f_law_leaf)
  b_law_leaf : Binds K a.d_law_leaf ["bag", "names"] []
  F_law_word : Fun K "_law_word" "_law_word" s_law_word a.f_law_word a.d_law_word
  g_law_word : mg "_law_word" = some (.ref a.f_law_word)
  b_law_word : Binds K a.d_law_word ["bag", "names", "many", "deep"] []
  F_law_written : Fun K "_law_written" "_law_written" s_law_written a.f_law_written a.d_law_written
  g_law_written : mg "_law_written" = some (.ref a.f_law_written)
  b_law_written : Binds K a.d_law_written ["word"] []
  F_Reader___init : Fun K "__init__" "Reader.__init__" s_Reader___init a.f_Reader___init a.d_Reader___init
  b_Reader___init : Binds K a.d_Reader___init ["self"] []
  F_Reader_need : Fun K "need" "Reader.need" s_Reader_need a.f_Reader_need a.d_Reader_need
  me_Reader_need : Meth K a.C_Reader "need" a.f_Reader_need
  b_Reader_need : Binds K a.d_Reader_need ["self", "truth"] []
  F_sized : Fun K "sized" "sized" s_sized a.f_sized a.d_sized
  g_sized : mg "sized" = some (.ref a.f_sized)
  F_joined : Fun K "joined" "joined" s_joined a.f_joined a.d_joined
  g_joined : mg "joined" = some (.ref a.f_joined)
  b_joined : Binds K a.d_joined ["head", "items"] []
  F_Reader_closed : Fun K "closed" "Reader.closed" s_Reader_closed a.f_Reader_closed a.d_Reader_closed
  me_Reader_closed : Meth K a.C_Reader "closed" a.f_Reader_closed
  b_Reader_closed : Binds K a.d_Reader_closed ["self"] []
  F_Reader_item : Fun K "item" "Reader.item" s_Reader_item a.f_Reader_item a.d_Reader_item
  me_Reader_item : Meth K a.C_Reader "item" a.f_Reader_item
  b_Reader_item : Binds K a.d_Reader_item ["self", "one"] []
  F_Reader_mark : Fun K "mark" "Reader.mark" s_Reader_mark a.f_Reader_mark a.d_Reader_mark
  me_Reader_mark : Meth K a.C_Reader "mark" a.f_Reader_mark
  b_Reader_mark : Binds K a.d_Reader_mark ["self", "head"] []
  F_is_name : Fun K "is_name" "is_name" s_is_name a.f_is_name a.d_is_name
  g_is_name : mg "is_name" = some (.ref a.f_is_name)
  b_is_name : Binds K a.d_is_name ["text"] []
  F_leaf_of : Fun K "leaf_of" "leaf_of" s_leaf_of a.f_leaf_of a.d_leaf_of
  g_leaf_of : mg "leaf_of" = some (.ref a.f_leaf_of)
  b_leaf_of : Binds K a.d_leaf_of ["token"] []
  F_Reader_part : Fun K "part" "Reader.part" s_Reader_part a.f_Reader_part a.d_Reader_part
  me_Reader_part : Meth K a.C_Reader "part" a.f_Reader_part
  b_Reader_part : Binds K a.d_Reader_part ["self", "token"] []
  F_shown : Fun K "shown" "shown" s_shown a.f_shown a.d_shown
  g_shown : mg "shown" = some (.ref a.f_shown)
  b_shown : Binds K a.d_shown ["word"] []
  F_bracketed : Fun K "bracketed" "bracketed" s_bracketed a.f_bracketed a.d_bracketed
  g_bracketed : mg "bracketed" = some (.ref a.f_bracketed)
  b_bracketed : Binds K a.d_bracketed ["word", "heads"] []
  F_tokens_of : Fun K "tokens_of" "tokens_of" s_tokens_of a.f_tokens_of a.d_tokens_of
  g_tokens_of : mg "tokens_of" = some (.ref a.f_tokens_of)
  b_tokens_of : Binds K a.d_tokens_of ["text"] []
  F_read : Fun K "read" "read" s_read a.f_read a.d_read
  g_read : mg "read" = some (.ref a.f_read)
  b_read : Binds K a.d_read ["text"] []
  F_law : Fun K "law" "law" s_law a.f_law a.d_law
  g_law : mg "law" = some (.ref a.f_law)
  b_law : Binds K a.d_law ["script"] []
  kb_read_0 : KBd K a.d_read ["text"] 0 ["text"] (fun as bs => pick [0] (as ++ bs))
  kb_sized_1 : KBd K a.d_sized ["word", "deep", "leaves"] 1 ["deep", "leaves"] (fun as bs => pick [0, 1, 2] (as ++ bs))
  g_Reader : mg "Reader" = some (.ref a.C_Reader)
  cl_Reader : Cls K a.C_Reader
  na_Reader_rows : NoAttr K a.C_Reader "rows"
  na_Reader_wanted : NoAttr K a.C_Reader "wanted"
  mk_Reader : Mk K a.C_Reader a.f_Reader___init
  n_abs : mg "abs" = none
  n_all : mg "all" = none
  n_bool : mg "bool" = none
  n_int : mg "int" = none
  n_isinstance : mg "isinstance" = none
  n_len : mg "len" = none
  n_list : mg "list" = none
  n_max : mg "max" = none
  n_min : mg "min" = none
  n_range : mg "range" = none
  n_str : mg "str" = none
  n_tuple : mg "tuple" = none
  kd_BARE : KDm K w mg "BARE" [(".", (.tup [(.str "any")])), ("^.", (.tup [(.str "anyback")])), ("()", (.tup [(.str "empty")])), ("!", (.tup [(.str "none")]))]
  kd_HEADS : KDm K w mg "HEADS" [("*", (.str "again")), ("+", (.str "more")), ("?", (.str "maybe"))]
  c_LETTERS : Gc K mg "LETTERS" (.str "abcdefghijklmnopqrstuvwxyz")
  kd_MARKS : KDm K w mg "MARKS" [("again", (.str "*")), ("more", (.str "+")), ("maybe", (.str "?"))]
  c_MOST_DEEP : Gc K mg "MOST_DEEP" (.int 20)
  c_MOST_LEAVES : Gc K mg "MOST_LEAVES" (.int 40)
  c_MOST_SIGNS : Gc K mg "MOST_SIGNS" (.int 8)
  kd_STILLS : KDm K w mg "STILLS" [("any", (.str ".")), ("anyback", (.str "^.")), ("empty", (.str "()")), ("none", (.str "!"))]
set_option maxHeartbeats 40000000
variable {P : Program} {w : World} {K : PySem.W.Frag} {mg : Str → Option Value} {base : Heap} {a : Ad}
theorem sc_law_alike : FnScope ["found", "due", "k"] ["found", "due"] (defScope s_law_alike) := ⟨rfl, rfl, rfl, by decide +kernel, rfl, by decide +kernel, by decide +kernel⟩
theorem sc_law_bag : FnScope ["script", "stir", "cell"] ["script"] (defScope s_law_bag) := ⟨rfl, rfl, rfl, by decide +kernel, rfl, by decide +kernel, by decide +kernel⟩
theorem sc_law_stirred : FnScope ["bag", "many", "found", "k"] ["bag", "many"] (defScope s_law_stirred) := ⟨rfl, rfl, rfl, by decide +kernel, rfl, by decide +kernel, by decide +kernel⟩
theorem sc_law_draw : FnScope ["bag", "many", "found"] ["bag", "many"] (defScope s_law_draw) := ⟨rfl, rfl, rfl, by decide +kernel, rfl, by decide +kernel, by decide +kernel⟩
theorem sc_law_name : FnScope ["bag", "way", "k"] ["bag"] (defScope s_law_name) := ⟨rfl, rfl, rfl, by decide +kernel, rfl, by decide +kernel, by decide +kernel⟩
theorem sc_law_leaf : FnScope ["bag", "names", "way"] ["bag", "names"] (defScope s_law_leaf) := ⟨rfl, rfl, rfl, by decide +kernel, rfl, by decide +kernel, by decide +kernel⟩
theorem sc_law_word : FnScope ["bag", "names", "many", "deep", "parts", "k", "at", "way", "word", "low", "both", "closer", "head"] ["bag", "names", "many", "deep"] (defScope s_law_word) := ⟨rfl, rfl, rfl, by decide +kernel, rfl, by decide +kernel, by decide +kernel⟩
theorem sc_law_written : FnScope ["word", "stills", "parts", "k", "bare"] ["word"] (defScope s_law_written) := ⟨rfl, rfl, rfl, by decide +kernel, rfl, by decide +kernel, by decide +kernel⟩
theorem sc_Reader___init : FnScope ["self"] ["self"] (defScope s_Reader___init) := ⟨rfl, rfl, rfl, by decide +kernel, rfl, by decide +kernel, by decide +kernel⟩
theorem sc_Reader_need : FnScope ["self", "truth"] ["self", "truth"] (defScope s_Reader_need) := ⟨rfl, rfl, rfl, by decide +kernel, rfl, by decide +kernel, by decide +kernel⟩
theorem sc_sized : FnScope ["word", "deep", "leaves"] ["word", "deep", "leaves"] (defScope s_sized) := ⟨rfl, rfl, rfl, by decide +kernel, rfl, by decide +kernel, by decide +kernel⟩
theorem sc_joined : FnScope ["head", "items", "others", "last", "word", "deep", "leaves", "more", "deeper", "many"] ["head", "items"] (defScope s_joined) := ⟨rfl, rfl, rfl, by decide +kernel, rfl, by decide +kernel, by decide +kernel⟩
theorem sc_Reader_closed : FnScope ["self", "items"] ["self"] (defScope s_Reader_closed) := ⟨rfl, rfl, rfl, by decide +kernel, rfl, by decide +kernel, by decide +kernel⟩
theorem sc_Reader_item : FnScope ["self", "one"] ["self", "one"] (defScope s_Reader_item) := ⟨rfl, rfl, rfl, by decide +kernel, rfl, by decide +kernel, by decide +kernel⟩
theorem sc_Reader_mark : FnScope ["self", "head", "word", "deep", "leaves"] ["self", "head"] (defScope s_Reader_mark) := ⟨rfl, rfl, rfl, by decide +kernel, rfl, by decide +kernel, by decide +kernel⟩
theorem sc_is_name : FnScope ["text", "sign"] ["text"] (defScope s_is_name) := ⟨rfl, rfl, rfl, by decide +kernel, rfl, by decide +kernel, by decide +kernel⟩
theorem sc_leaf_of : FnScope ["token"] ["token"] (defScope s_leaf_of) := ⟨rfl, rfl, rfl, by decide +kernel, rfl, by decide +kernel, by decide +kernel⟩
theorem sc_Reader_part : FnScope ["self", "token", "leaf", "one"] ["self", "token"] (defScope s_Reader_part) := ⟨rfl, rfl, rfl, by decide +kernel, rfl, by decide +kernel, by decide +kernel⟩
theorem sc_shown : FnScope ["word", "head", "parts"] ["word"] (defScope s_shown) := ⟨rfl, rfl, rfl, by decide +kernel, rfl, by decide +kernel, by decide +kernel⟩
theorem sc_bracketed : FnScope ["word", "heads"] ["word", "heads"] (defScope s_bracketed) := ⟨rfl, rfl, rfl, by decide +kernel, rfl, by decide +kernel, by decide +kernel⟩
theorem sc_tokens_of : FnScope ["text", "found", "at", "more"] ["text"] (defScope s_tokens_of) := ⟨rfl, rfl, rfl, by decide +kernel, rfl, by decide +kernel, by decide +kernel⟩
theorem sc_read : FnScope ["text", "reader", "token", "word", "deep", "leaves"] ["text"] (defScope s_read) := ⟨rfl, rfl, rfl, by decide +kernel, rfl, by decide +kernel, by decide +kernel⟩
theorem sc_law : FnScope ["script", "bag", "ahead", "again", "many", "names", "word", "due", "found", "k"] ["script"] (defScope s_law) := ⟨rfl, rfl, rfl, by decide +kernel, rfl, by decide +kernel, by decide +kernel⟩
/-! ### the law's bag of draws -/
def BagOk (xs : List Dt) : Prop := ∃ (cells : List Int) (a l s c : Int), xs = [.lst (cells.map .int), .int a, .int l, .int s, .int c] ∧ (∀ x ∈ cells, 0 ≤ x) ∧ 0 ≤ a ∧ 0 ≤ l ∧ 0 ≤ s ∧ s < 2147483647
def BagAt (S : Store) (b : Addr) : Prop := ∃ xs, S b = some (.lst xs) ∧ BagOk xs
/-- the bag was drawn from, nothing else changed -/
def BS (S : Store) (b : Addr) (S' : Store) : Prop := ∃ xs, BagOk xs ∧ S' = su S b (.lst xs)
theorem BS.bag {S S' : Store} {b : Addr} (h : BS S b S') : BagAt S' b := by
  obtain ⟨xs, h1, rfl⟩ := h
  exact ⟨xs, su_same, h1⟩
theorem BS.refl {S : Store} {b : Addr} (h : BagAt S b) : BS S b S := by
  obtain ⟨xs, h1, h2⟩ := h
  exact ⟨xs, h2, (su_id h1).symm⟩
theorem BS.trans {S S' S'' : Store} {b : Addr} (h : BS S b S') (g : BS S' b S'') : BS S b S'' := by
  obtain ⟨xs, h1, rfl⟩ := h
  obtain ⟨ys, g1, rfl⟩ := g
  exact ⟨ys, g1, su_su⟩
theorem BS.ne {S S' : Store} {b c : Addr} (h : BS S b S') (n : c ≠ b) : S' c = S c := by
  obtain ⟨xs, h1, rfl⟩ := h
  exact su_ne n
theorem BS.none {S S' : Store} {b p : Addr} (h : BS S b S') (hp : S' p = Option.none) : S p = Option.none := by
  by_cases e : p = b
  · subst e; obtain ⟨xs, h1, rfl⟩ := h; rw [su_same] at hp; cases hp
  · rw [← h.ne e]; exact hp
theorem BS.sane {S S' : Store} {b p : Addr} (h : BS S b S') (n : p ≠ b) (hp : S p = Option.none) : S' p = Option.none := (h.ne n).trans hp
theorem BagAt.ne {S : Store} {b p : Addr} (h : BagAt S b) (hp : S p = Option.none) : p ≠ b := fun e => by
  subst e
  obtain ⟨xs, h1, _⟩ := h
  rw [hp] at h1; cases h1
/-- beside: another object of the store -/
theorem BS.su {S S' : Store} {b p : Addr} {m : MO} (n : p ≠ b) (h : BS S b S') : BS (su S p m) b (su S' p m) := by
  obtain ⟨xs, h1, rfl⟩ := h
  exact ⟨xs, h1, su_comm (fun e => n e.symm)⟩
theorem BagAt.su {S : Store} {b p : Addr} {m : MO} (n : p ≠ b) (h : BagAt S b) : BagAt (su S p m) b := by
  obtain ⟨xs, h1, h2⟩ := h
  exact ⟨xs, (su_ne (fun e => n e.symm)).trans h1, h2⟩
theorem BS.unsu {S S' : Store} {b p : Addr} {m : MO} (n : p ≠ b) (h : BS (DL.su S p m) b S') : ∃ S2, BS S b S2 ∧ S' = DL.su S2 p m := by
  obtain ⟨xs, h1, rfl⟩ := h
  exact ⟨_, ⟨xs, h1, rfl⟩, su_comm n⟩
/-- a draw: any number below many -/
def R_law_draw : Fsp := R2d fun x y S Φ Ω => ∃ (b : Addr) (m : Int), x = .ref b ∧ y = .int m ∧ 0 < m ∧ m.natAbs.log2 < 9000 ∧ BagAt S b ∧ ∀ k S', 0 ≤ k → k < m → BS S b S' → Φ (.int k) S'
def R_law_stirred : Fsp := R_law_draw
/-- a def that draws, and tells data -/
def Rbag (P : Dt → Prop) : Fsp := R1 fun x S Φ Ω => ∃ b, x = .ref b ∧ BagAt S b ∧ ∀ v S', BS S b S' → P v → Φ v S'
def R_law_name : Fsp := Rbag fun v => ∃ s, v = .str s ∧ NameOk s
/-- the bag was drawn from, new objects may stand beside -/
structure BX (S : Store) (b : Addr) (S' : Store) : Prop where
  bag : BagAt S' b
  keep : ∀ a m, a ≠ b → S a = some m → S' a = some m
theorem BS.bx {S S' : Store} {b : Addr} (h : BS S b S') : BX S b S' := ⟨h.bag, fun a m n e => by rw [h.ne n]; exact e⟩
theorem BX.refl {S : Store} {b : Addr} (h : BagAt S b) : BX S b S := ⟨h, fun _ _ _ e => e⟩
theorem BX.trans {S S' S'' : Store} {b : Addr} (h : BX S b S') (g : BX S' b S'') : BX S b S'' := ⟨g.bag, fun a m n e => g.keep a m n (h.keep a m n e)⟩
theorem BX.none {S S' : Store} {b p : Addr} (h : BX S b S') (n : p ≠ b) (hp : S' p = Option.none) : S p = Option.none := by
  cases e : S p with
  | none => rfl
  | some m => rw [h.keep p m n e] at hp; cases hp
theorem BX.ne {S S' : Store} {b p : Addr} (h : BX S b S') (hp : S' p = Option.none) : p ≠ b := h.bag.ne hp
theorem BX.su {S S' : Store} {b p : Addr} {m : MO} (h : BX S b S') (n : p ≠ b) (hp : S p = Option.none) : BX S b (su S' p m) :=
  ⟨h.bag.su n, fun a k na e => (su_ne (fun q => by subst q; rw [hp] at e; cases e)).trans (h.keep a k na e)⟩
theorem BX.del {S S' : Store} {b p : Addr} (h : BX S b S') (n : p ≠ b) (hp : S p = Option.none) : BX S b (sdel S' p) := by
  refine ⟨?_, fun a k na e => (sdel_ne (fun q => by subst q; rw [hp] at e; cases e)).trans (h.keep a k na e)⟩
  obtain ⟨xs, h1, h2⟩ := h.bag
  exact ⟨xs, (sdel_ne (fun q => n q.symm)).trans h1, h2⟩
/-- other objects stay, new ones may stand beside -/
def Ext (S S' : Store) : Prop := ∀ a m, S a = some m → S' a = some m
theorem Ext.refl {S : Store} : Ext S S := fun _ _ e => e
theorem Ext.trans {S S' S'' : Store} (h : Ext S S') (g : Ext S' S'') : Ext S S'' := fun a m e => g a m (h a m e)
theorem Ext.su {S S' : Store} {p : Addr} {m : MO} (h : Ext S S') (hp : S p = Option.none) : Ext S (su S' p m) := fun a k e => (su_ne (fun q => by subst q; rw [hp] at e; cases e)).trans (h a k e)
theorem Ext.del {S S' : Store} {p : Addr} (h : Ext S S') (hp : S p = Option.none) : Ext S (sdel S' p) := fun a k e => (sdel_ne (fun q => by subst q; rw [hp] at e; cases e)).trans (h a k e)
theorem Ext.none {S S' : Store} {p : Addr} (h : Ext S S') (hp : S' p = Option.none) : S p = Option.none := by
  cases e : S p with
  | none => rfl
  | some m => rw [h p m e] at hp; cases hp
theorem BX.ext {S S' S'' : Store} {b : Addr} (h : BX S b S') (g : Ext S' S'') : BX S b S'' := ⟨by obtain ⟨xs, h1, h2⟩ := h.bag; exact ⟨xs, g _ _ h1, h2⟩, fun a m n e => g a m (h.keep a m n e)⟩
def R_law_bag : Fsp := R1 fun x S Φ Ω => ∃ ns : List Int, x = .rl (ns.map .int) ∧ ns.length ≤ 63 ∧ ∀ b xs, S b = none → BagOk xs → Φ (.ref b) (su S b (.lst xs))
theorem intBits_le {m : Int} (h : 0 < m) (h2 : m.natAbs.log2 < 9000) : (Builtin.Int.intBits m : Int) ≤ 9001 := by
  unfold Builtin.Int.intBits
  split <;> omega
theorem log2_lt {n k : Nat} (h0 : k ≠ 0) (h : n < 2 ^ k) : n.log2 < k := by
  by_cases e : n = 0
  · subst e; simp; omega
  · exact (Nat.log2_lt e).mpr h
theorem pow3_ok {s : Int} (h3 : 0 ≤ s) (h4 : s < 2147483647) : (Builtin.Int.intBits s : Int) * 3 ≤ 2 ^ 27 := by
  have : s.natAbs.log2 < 31 := log2_lt (by decide) (by omega)
  unfold Builtin.Int.intBits
  split <;> omega
def nine : List Str := ["from", "any", "name", "back", "none", "then", "or", "way", "on"]
theorem nine_ex {j : Int} (h : 0 ≤ j) (h1 : j < 9) : ∃ s, atI (nine.map Dt.str) j = some (.str s) ∧ NameOk s := by
  obtain ⟨d, h2, h3⟩ := atI_ex (xs := nine.map Dt.str) h (show j < ((nine.map Dt.str).length : Int) from h1)
  rw [List.mem_map] at h3
  obtain ⟨s, h3, rfl⟩ := h3
  refine ⟨s, h2, ?_⟩
  unfold NameOk
  exact (show ∀ s ∈ nine, 1 ≤ (cl s).length ∧ (cl s).length ≤ 8 ∧ ∀ c ∈ cl s, 97 ≤ c ∧ c ≤ 122 by decide) s h3
theorem tail_ok {j : Int} (h : 0 ≤ j) (h1 : j < 8) : NameOk (cutS "aaaaaaab" (some j) none) := by
  have e : cl "aaaaaaab" = [97, 97, 97, 97, 97, 97, 97, 98] := by decide
  have h2 : j.toNat < 8 := by omega
  unfold NameOk
  rw [cl_cut_from h, e]
  refine ⟨by rw [List.length_drop]; show 1 ≤ 8 - j.toNat; omega, by rw [List.length_drop]; show 8 - j.toNat ≤ 8; omega, fun c hc => ?_⟩
  exact (show ∀ c ∈ [97, 97, 97, 97, 97, 97, 97, 98], 97 ≤ c ∧ c ≤ 122 by decide) c (List.mem_of_mem_drop hc)
theorem ones_ok : ∀ {l : List Str}, (∀ x ∈ l, ∃ c, cl x = [c] ∧ 97 ≤ c ∧ c ≤ 122) → (l.map cl).flatten.length = l.length ∧ ∀ c ∈ (l.map cl).flatten, 97 ≤ c ∧ c ≤ 122
  | [], _ => ⟨rfl, by simp⟩
  | x :: l, h => by
    obtain ⟨c, e, hc⟩ := h x (by simp)
    obtain ⟨h1, h2⟩ := ones_ok (l := l) fun y hy => h y (by simp [hy])
    rw [List.map_cons, List.flatten_cons, e]
    refine ⟨by simp [h1], fun d hd => ?_⟩
    rw [List.mem_append, List.mem_singleton] at hd
    rcases hd with rfl | hd
    · exact hc
    · exact h2 d hd
theorem ones_len : ∀ {l : List Str}, (∀ x ∈ l, ∃ c, cl x = [c] ∧ 97 ≤ c ∧ c ≤ 122) → (l.map fun x => x.length).sum = l.length
  | [], _ => rfl
  | x :: l, h => by
    obtain ⟨c, e, hc⟩ := h x (by simp)
    have := ones_len (l := l) fun y hy => h y (by simp [hy])
    rw [List.map_cons, List.sum_cons, this, cl_len, e]; simp only [List.length_cons, List.length_nil]; omega
theorem BagAt.ext {S S' : Store} {b : Addr} (h : BagAt S b) (e : Ext S S') : BagAt S' b := by
  obtain ⟨xs, h1, h2⟩ := h
  exact ⟨xs, e _ _ h1, h2⟩

/-! ### the reader as it stands in the store -/
def itD (w : Wd) : Dt := .tup [w.d, .int w.dp, .int w.lv]
abbrev Fr := Addr × List (Addr × List Wd)
def adrs (frs : List Fr) : List Addr := frs.flatMap fun f => f.1 :: f.2.map (·.1)
structure RdAt (C : Addr) (S0 S : Store) (x dx r : Addr) (frs : List Fr) (wt : Bool) : Prop where
  obj : S x = some (.ins C dx [("rows", .ref r), ("wanted", .bl wt)])
  rows : S r = some (.lst (frs.map fun f => .ref f.1))
  frm : ∀ f ∈ frs, S f.1 = some (.lst (f.2.map fun a => .ref a.1))
  alt : ∀ f ∈ frs, ∀ a ∈ f.2, S a.1 = some (.lst (a.2.map itD))
  nd : ([x, r] ++ adrs frs).Nodup
  fresh : ∀ a ∈ [x, r] ++ adrs frs, S0 a = none
  ext : Ext S0 S
def stOf (frs : List Fr) : List (List (List Wd)) := frs.map fun f => f.2.map (·.2)
/-- the reader at x holds st; what stood in S0 stands -/
def RdA (C : Addr) (S0 S : Store) (x : Addr) (st : List (List (List Wd))) (wt : Bool) : Prop := ∃ dx r frs, RdAt C S0 S x dx r frs wt ∧ stOf frs = st
theorem mem_adrs {frs : List Fr} {f : Fr} (h : f ∈ frs) : f.1 ∈ adrs frs := List.mem_flatMap.mpr ⟨f, h, by simp⟩
theorem mem_alts {frs : List Fr} {f : Fr} {a : Addr × List Wd} (h : f ∈ frs) (ha : a ∈ f.2) : a.1 ∈ adrs frs := List.mem_flatMap.mpr ⟨f, h, List.mem_cons_of_mem _ (List.mem_map.mpr ⟨a, ha, rfl⟩)⟩
theorem adrs_app (p q : List Fr) : adrs (p ++ q) = adrs p ++ adrs q := by unfold adrs; rw [List.flatMap_append]
theorem adrs_one (f : Fr) : adrs [f] = f.1 :: f.2.map (·.1) := by unfold adrs; simp
section
variable {C : Addr} {S0 S S' : Store} {x dx r : Addr} {frs : List Fr} {wt : Bool}
theorem ext_su {a : Addr} {m : MO} (h : Ext S0 S) (ha : S0 a = none) : Ext S0 (su S a m) := h.su ha
theorem RdAt.want (R : RdAt C S0 S x dx r frs wt) (wt' : Bool) : RdAt C S0 (su S x (.ins C dx [("rows", .ref r), ("wanted", .bl wt')])) x dx r frs wt' := by
  have nd := R.nd
  have hx : x ∉ r :: adrs frs := (List.nodup_cons.mp nd).1
  refine ⟨su_same, ?_, fun f hf => ?_, fun f hf a ha => ?_, nd, R.fresh, ext_su R.ext (R.fresh x (by simp))⟩
  · rw [su_ne (fun e => hx (by simp [← e]))]; exact R.rows
  · rw [su_ne (fun e => hx (by rw [← e]; exact List.mem_cons_of_mem _ (mem_adrs hf)))]; exact R.frm f hf
  · rw [su_ne (fun e => hx (by rw [← e]; exact List.mem_cons_of_mem _ (mem_alts hf ha)))]; exact R.alt f hf a ha
/-- the last row of the last frame -/
theorem RdAt.last {pre : List Fr} {f a : Addr} {al : List (Addr × List Wd)} {ws : List Wd} (R : RdAt C S0 S x dx r (pre ++ [(f, al ++ [(a, ws)])]) wt) (ws' : List Wd) :
    RdAt C S0 (su S a (.lst (ws'.map itD))) x dx r (pre ++ [(f, al ++ [(a, ws')])]) wt := by
  have e : ∀ ws : List Wd, [x, r] ++ adrs (pre ++ [(f, al ++ [(a, ws)])]) = ([x, r] ++ adrs pre ++ f :: al.map (·.1)) ++ [a] := fun ws => by
    rw [adrs_app, adrs_one]; simp
  have nd := R.nd
  have fr := R.fresh
  rw [e] at nd fr
  have na : a ∉ [x, r] ++ adrs pre ++ f :: al.map (·.1) := fun h => (List.nodup_append.mp nd).2.2 a h a (by simp) rfl
  have ne : ∀ b, b ∈ [x, r] ++ adrs pre ++ f :: al.map (·.1) → su S a (.lst (ws'.map itD)) b = S b := fun b hb => su_ne fun z => na (z ▸ hb)
  refine ⟨?_, ?_, fun g hg => ?_, fun g hg q hq => ?_, by rw [e]; exact nd, by rw [e]; exact fr, ext_su R.ext (fr a (by simp))⟩
  · rw [ne x (by simp)]; exact R.obj
  · rw [ne r (by simp)]
    have := R.rows
    simp at this ⊢
    exact this
  · rcases List.mem_append.mp hg with hg | hg
    · rw [ne g.1 (by simp [mem_adrs hg])]; exact R.frm g (List.mem_append_left _ hg)
    · rw [List.mem_singleton.mp hg, ne f (by simp)]
      have := R.frm (f, al ++ [(a, ws)]) (by simp)
      simp at this ⊢
      exact this
  · rcases List.mem_append.mp hg with hg | hg
    · rw [ne q.1 (by simp [mem_alts hg hq])]; exact R.alt g (List.mem_append_left _ hg) q hq
    · rw [List.mem_singleton.mp hg] at hq
      rcases List.mem_append.mp hq with hq | hq
      · rw [ne q.1 (by
          simp only [List.mem_append, List.mem_cons, List.mem_map]
          exact .inr (.inr ⟨q, hq, rfl⟩))]
        exact R.alt (f, al ++ [(a, ws)]) (by simp) q (List.mem_append_left _ hq)
      · rw [List.mem_singleton.mp hq]; exact su_same
/-- a frame is taken off -/
theorem RdAt.popF {pre : List Fr} {g : Fr} (R : RdAt C S0 S x dx r (pre ++ [g]) wt) : RdAt C S0 (su S r (.lst (pre.map fun f => .ref f.1))) x dx r pre wt := by
  have nd := R.nd
  have fr := R.fresh
  rw [adrs_app] at nd fr
  have nd' : ([x, r] ++ adrs pre).Nodup := by
    rw [← List.append_assoc] at nd
    exact (List.nodup_append.mp nd).1
  have hr : r ∉ adrs pre := (List.nodup_cons.mp (List.nodup_cons.mp nd').2).1
  have hxr : x ≠ r := fun e => (List.nodup_cons.mp nd').1 (by simp [e])
  refine ⟨by rw [su_ne hxr]; exact R.obj, su_same, fun f hf => ?_, fun f hf a ha => ?_, nd', fun a ha => fr a (by rw [← List.append_assoc]; exact List.mem_append_left _ ha), ext_su R.ext (fr r (by simp))⟩
  · rw [su_ne (fun e => hr (by rw [← e]; exact mem_adrs hf))]; exact R.frm f (List.mem_append_left _ hf)
  · rw [su_ne (fun e => hr (by rw [← e]; exact mem_alts hf ha))]; exact R.alt f (List.mem_append_left _ hf) a ha
theorem RdAt.in_ (R : RdAt C S0 S x dx r frs wt) {q : Addr} (hq : q ∈ [x, r] ++ adrs frs) : S q ≠ none := by
  simp only [List.mem_append, List.mem_cons, List.not_mem_nil, or_false] at hq
  rcases hq with (rfl | rfl) | hq
  · exact some_neR R.obj
  · exact some_neR R.rows
  · obtain ⟨f, hf, h⟩ := List.mem_flatMap.mp hq
    rcases List.mem_cons.mp h with rfl | h
    · exact some_neR (R.frm f hf)
    · obtain ⟨a, ha, rfl⟩ := List.mem_map.mp h
      exact some_neR (R.alt f hf a ha)
where some_neR {S : Store} {a : Addr} {m : MO} (h : S a = some m) : S a ≠ none := by rw [h]; intro z; cases z
/-- another object beside -/
theorem RdAt.beside {p : Addr} {m : MO} (R : RdAt C S0 S x dx r frs wt) (hp : S p = none) : RdAt C S0 (su S p m) x dx r frs wt := by
  have k : ∀ q ∈ [x, r] ++ adrs frs, su S p m q = S q := fun q hq => su_ne fun e => R.in_ hq (by rw [e]; exact hp)
  exact ⟨(k x (by simp)).trans R.obj, (k r (by simp)).trans R.rows, fun f hf => (k f.1 (by simp [mem_adrs hf])).trans (R.frm f hf), fun f hf a ha => (k a.1 (by simp [mem_alts hf ha])).trans (R.alt f hf a ha), R.nd, R.fresh, ext_su R.ext (R.ext.none hp)⟩
/-- a new frame with one row -/
theorem RdAt.pushF {a f : Addr} (R : RdAt C S0 S x dx r frs wt) (ha : S a = none) (hf : S f = none) (hfa : f ≠ a) :
    RdAt C S0 (su (su (su S a (.lst [])) f (.lst [.ref a])) r (.lst (frs.map (fun f => .ref f.1) ++ [.ref f]))) x dx r (frs ++ [(f, [(a, [])])]) wt := by
  have n1 : a ∉ [x, r] ++ adrs frs := fun h => R.in_ h ha
  have n2 : f ∉ [x, r] ++ adrs frs := fun h => R.in_ h hf
  have hr : r ∉ adrs frs := (List.nodup_cons.mp (List.nodup_cons.mp R.nd).2).1
  have hxr : x ≠ r := fun e => (List.nodup_cons.mp R.nd).1 (by simp [e])
  have fr : f ≠ r := fun e => n2 (by simp [e])
  have ar : a ≠ r := fun e => n1 (by simp [e])
  have k : ∀ m m' q, q ∈ adrs frs → su (su (su S a m) f m') r (.lst (frs.map (fun f => .ref f.1) ++ [.ref f])) q = S q := fun m m' q hq => by
    rw [su_ne (fun e => hr (by rw [← e]; exact hq)), su_ne (fun e => n2 (by simp [← e, hq])), su_ne (fun e => n1 (by simp [← e, hq]))]
  have hx : x ≠ f ∧ x ≠ a := ⟨fun e => n2 (by simp [← e]), fun e => n1 (by simp [← e])⟩
  refine ⟨?_, by rw [su_same]; simp, fun g hg => ?_, fun g hg q hq => ?_, ?_, ?_, ext_su (ext_su (ext_su R.ext (R.ext.none ha)) (R.ext.none hf)) (R.fresh r (by simp))⟩
  · rw [su_ne hxr, su_ne hx.1, su_ne hx.2]; exact R.obj
  · rcases List.mem_append.mp hg with hg | hg
    · rw [k _ _ _ (mem_adrs hg)]; exact R.frm g hg
    · rw [List.mem_singleton.mp hg, su_ne fr, su_same]; rfl
  · rcases List.mem_append.mp hg with hg | hg
    · rw [k _ _ _ (mem_alts hg hq)]; exact R.alt g hg q hq
    · rw [List.mem_singleton.mp hg] at hq
      rw [List.mem_singleton.mp hq, su_ne ar, su_ne hfa.symm, su_same]; rfl
  · rw [adrs_app, adrs_one, ← List.append_assoc]
    refine List.nodup_append.mpr ⟨R.nd, by simp [hfa], fun p hp q hq e => ?_⟩
    subst e
    simp only [List.map_cons, List.map_nil, List.mem_cons, List.not_mem_nil, or_false] at hq
    rcases hq with rfl | rfl
    · exact n2 hp
    · exact n1 hp
  · intro q hq
    rw [adrs_app, adrs_one, ← List.append_assoc] at hq
    rcases List.mem_append.mp hq with hq | hq
    · exact R.fresh q hq
    · simp only [List.map_cons, List.map_nil, List.mem_cons, List.not_mem_nil, or_false] at hq
      rcases hq with rfl | rfl
      · exact R.ext.none hf
      · exact R.ext.none ha
/-- a new row in the last frame -/
theorem RdAt.pushA {a f : Addr} {pre : List Fr} {al : List (Addr × List Wd)} (R : RdAt C S0 S x dx r (pre ++ [(f, al)]) wt) (ha : S a = none) :
    RdAt C S0 (su (su S a (.lst [])) f (.lst (al.map (fun q => .ref q.1) ++ [.ref a]))) x dx r (pre ++ [(f, al ++ [(a, [])])]) wt := by
  have e : ∀ al : List (Addr × List Wd), [x, r] ++ adrs (pre ++ [(f, al)]) = ([x, r] ++ adrs pre) ++ f :: al.map (·.1) := fun al => by rw [adrs_app, adrs_one, ← List.append_assoc]
  have n1 : a ∉ [x, r] ++ adrs (pre ++ [(f, al)]) := fun h => R.in_ h ha
  have nd := R.nd
  rw [e] at n1 nd
  obtain ⟨nd1, nd2, nd3⟩ := List.nodup_append.mp nd
  have nfp : f ∉ [x, r] ++ adrs pre := fun h => nd3 f h f (by simp) rfl
  have nfa : f ∉ al.map (·.1) := (List.nodup_cons.mp nd2).1
  have k : ∀ m q, q ∈ [x, r] ++ adrs pre ∨ q ∈ al.map (·.1) → su (su S a (.lst [])) f m q = S q := fun m q hq => by
    rw [su_ne (fun e => hq.elim (fun h => nfp (by rw [← e]; exact h)) (fun h => nfa (by rw [← e]; exact h))), su_ne (fun e => n1 (by
      subst e
      rcases hq with h | h
      · exact List.mem_append_left _ h
      · exact List.mem_append_right _ (List.mem_cons_of_mem _ h)))]
  have fa : a ≠ f := fun e => n1 (by rw [e]; simp)
  refine ⟨(k _ x (.inl (by simp))).trans R.obj, ?_, fun g hg => ?_, fun g hg q hq => ?_, ?_, ?_, ext_su (ext_su R.ext (R.ext.none ha)) (R.fresh f (by rw [e]; simp))⟩
  · rw [k _ r (.inl (by simp))]
    have := R.rows
    simp at this ⊢
    exact this
  · rcases List.mem_append.mp hg with hg | hg
    · rw [k _ g.1 (.inl (by simp [mem_adrs hg]))]; exact R.frm g (List.mem_append_left _ hg)
    · rw [List.mem_singleton.mp hg, su_same]; simp
  · rcases List.mem_append.mp hg with hg | hg
    · rw [k _ q.1 (.inl (by simp [mem_alts hg hq]))]; exact R.alt g (List.mem_append_left _ hg) q hq
    · rw [List.mem_singleton.mp hg] at hq
      rcases List.mem_append.mp hq with hq | hq
      · rw [k _ q.1 (.inr (List.mem_map.mpr ⟨q, hq, rfl⟩))]; exact R.alt (f, al) (by simp) q hq
      · rw [List.mem_singleton.mp hq, su_ne fa, su_same]; rfl
  · rw [e, List.map_append, show ([x, r] ++ adrs pre) ++ f :: (al.map (·.1) ++ [(a, ([] : List Wd))].map (·.1)) = (([x, r] ++ adrs pre) ++ f :: al.map (·.1)) ++ [a] by simp]
    refine List.nodup_append.mpr ⟨nd, by simp, fun p hp q hq z => ?_⟩
    rw [List.mem_singleton.mp hq] at z
    exact n1 (z ▸ hp)
  · intro q hq
    rw [e, List.map_append, show ([x, r] ++ adrs pre) ++ f :: (al.map (·.1) ++ [(a, ([] : List Wd))].map (·.1)) = (([x, r] ++ adrs pre) ++ f :: al.map (·.1)) ++ [a] by simp] at hq
    rcases List.mem_append.mp hq with hq | hq
    · exact R.fresh q (by rw [e]; exact hq)
    · rw [List.mem_singleton.mp hq]; exact R.ext.none ha
end
theorem stOf_snoc {frs : List Fr} {st : List (List (List Wd))} {as : List (List Wd)} (h : stOf frs = st ++ [as]) : ∃ pre f al, frs = pre ++ [(f, al)] ∧ stOf pre = st ∧ al.map (·.2) = as := by
  rcases List.eq_nil_or_concat frs with rfl | ⟨pre, g, rfl⟩
  · have := congrArg List.length h
    simp [stOf] at this
  · rw [List.concat_eq_append] at h ⊢
    unfold stOf at h
    rw [List.map_append, List.map_singleton] at h
    obtain ⟨h1, h2⟩ := List.append_inj' h rfl
    exact ⟨pre, g.1, g.2, rfl, h1, List.singleton_inj.mp h2⟩
theorem al_snoc {al : List (Addr × List Wd)} {as : List (List Wd)} {ws : List Wd} (h : al.map (·.2) = as ++ [ws]) : ∃ al' a, al = al' ++ [(a, ws)] ∧ al'.map (·.2) = as := by
  rcases List.eq_nil_or_concat al with rfl | ⟨pre, g, rfl⟩
  · have := congrArg List.length h
    simp at this
  · rw [List.concat_eq_append] at h ⊢
    rw [List.map_append, List.map_singleton] at h
    obtain ⟨h1, h2⟩ := List.append_inj' h rfl
    have h2 : g.2 = ws := List.singleton_inj.mp h2
    exact ⟨pre, g.1, by rw [← h2], h1⟩
theorem stOf_app {pre : List Fr} {f : Addr} {al : List (Addr × List Wd)} : stOf (pre ++ [(f, al)]) = stOf pre ++ [al.map (·.2)] := by unfold stOf; rw [List.map_append]; rfl
theorem atI_last {α : Type} {xs : List α} {d : α} : atI (xs ++ [d]) (-1) = some d := by
  have e : ixN (xs ++ [d]).length (-1) = some xs.length := by
    unfold ixN
    rw [if_neg (by omega)]
    rw [if_pos (by rw [List.length_append]; simp; omega)]
    congr 1
    rw [List.length_append]; simp
    omega
  unfold atI
  rw [e]
  simp
theorem atI_lastm {α β : Type} {f : α → β} {xs : List α} {d : α} : atI ((xs ++ [d]).map f) (-1) = some (f d) := by rw [List.map_append]; exact atI_last
/-- items joined from the right -/
def joinW (mk : Wd → Wd → Wd) : List Wd → Option Wd
  | [] => none
  | [w] => some w
  | w :: v :: r => (joinW mk (v :: r)).bind fun m => if (mk w m).dp ≤ 20 ∧ (mk w m).lv ≤ 40 then some (mk w m) else none
theorem joinW_cons {mk : Wd → Wd → Wd} {w r : Wd} {ws : List Wd} (hw : ws ≠ []) (h : joinW mk (w :: ws) = some r) : ∃ m, joinW mk ws = some m ∧ r = mk w m ∧ (mk w m).dp ≤ 20 ∧ (mk w m).lv ≤ 40 := by
  cases ws with
  | nil => exact absurd rfl hw
  | cons v t =>
    unfold joinW at h
    cases e : joinW mk (v :: t) with
    | none => rw [e] at h; cases h
    | some m =>
      rw [e] at h
      simp only [Option.bind_some] at h
      split at h
      · rename_i q; exact ⟨m, rfl, (Option.some.inj h).symm, q.1, q.2⟩
      · cases h
theorem joinW_suf {mk : Wd → Wd → Wd} : ∀ (p : List Wd) {ws : List Wd} {r : Wd}, ws ≠ [] → joinW mk (p ++ ws) = some r → ∃ m, joinW mk ws = some m
  | [], _, r, _, h => ⟨r, h⟩
  | w :: p, ws, r, hw, h => by
    obtain ⟨m, h1, _⟩ := joinW_cons (ws := p ++ ws) (by simp [hw]) h
    exact joinW_suf p hw h1
structure Mk2 (hd : Str) (mk : Wd → Wd → Wd) : Prop where
  d : ∀ a b, (mk a b).d = .tup [.str hd, a.d, b.d]
  dp : ∀ a b, (mk a b).dp = 1 + max a.dp b.dp
  lv : ∀ a b, (mk a b).lv = a.lv + b.lv
theorem mk_thn : Mk2 "then" Wd.thn := ⟨fun _ _ => rfl, fun _ _ => rfl, fun _ _ => rfl⟩
theorem mk_orr : Mk2 "or" Wd.orr := ⟨fun _ _ => rfl, fun _ _ => rfl, fun _ _ => rfl⟩
structure Mk1 (hd : Str) (mk : Wd → Wd) : Prop where
  d : ∀ a, (mk a).d = .tup [.str hd, a.d]
  dp : ∀ a, (mk a).dp = 1 + a.dp
  lv : ∀ a, (mk a).lv = a.lv
def joinAll (as : List (List Wd)) (w : Wd) : Prop := ∃ ms, as.map (joinW .thn) = ms.map some ∧ joinW .orr ms = some w
/-! ### texts cut into parts -/
def lettr (c : Nat) : Bool := decide (97 ≤ c) && decide (c ≤ 122)
def run1 (l : List Nat) : Nat := (l.takeWhile lettr).length
/-- where the first part ends, by letters alone -/
def nx1 : List Nat → Nat
  | [] => 0
  | c :: r => if c = 94 ∨ lettr c = true then 1 + run1 r else 1
/-- where the first part ends -/
def nx (l : List Nat) : Nat := if (l.take (nx1 l) = [94] ∧ (l.drop (nx1 l)).take 1 = [46]) ∨ l.take 2 = [40, 41] then 2 else nx1 l
theorem nx1_cons (c : Nat) (r : List Nat) : nx1 (c :: r) = if c = 94 ∨ lettr c = true then 1 + run1 r else 1 := rfl
theorem nx1_pos {l : List Nat} (h : l ≠ []) : 1 ≤ nx1 l := by
  cases l with
  | nil => exact absurd rfl h
  | cons c r =>
    rw [nx1_cons]
    split <;> omega
theorem nx_pos {l : List Nat} (h : l ≠ []) : 1 ≤ nx l := by
  unfold nx
  split
  · omega
  · exact nx1_pos h
theorem run1_le (l : List Nat) : run1 l ≤ l.length := by
  unfold run1
  exact (List.takeWhile_prefix (p := lettr)).length_le
theorem nx1_le (l : List Nat) : nx1 l ≤ l.length := by
  cases l with
  | nil => exact Nat.le_refl _
  | cons c r =>
    have := run1_le r
    rw [nx1_cons, List.length_cons]; split <;> omega
theorem nx_le (l : List Nat) : nx l ≤ l.length := by
  unfold nx
  split
  · rename_i h
    rcases h with ⟨h1, h2⟩ | h
    · have a := congrArg List.length h1
      have b := congrArg List.length h2
      rw [List.length_take] at a b
      rw [List.length_drop] at b
      simp at a b
      omega
    · have a := congrArg List.length h
      rw [List.length_take] at a
      simp at a
      omega
  · exact nx1_le l
/-- the parts of a text, n at most -/
def tks : Nat → List Nat → List (List Nat)
  | 0, _ => []
  | n + 1, l => if l = [] then [] else l.take (nx l) :: tks n (l.drop (nx l))
theorem tks_more : ∀ (n m : Nat) (l : List Nat), l.length ≤ n → l.length ≤ m → tks n l = tks m l
  | 0, m, l, h, _ => by
    have : l = [] := List.length_eq_zero_iff.mp (by omega)
    subst this
    cases m <;> rfl
  | n + 1, 0, l, _, h => by
    have : l = [] := List.length_eq_zero_iff.mp (by omega)
    subst this; rfl
  | n + 1, m + 1, l, h1, h2 => by
    unfold tks
    split
    · rfl
    · rename_i e
      have := nx_pos e
      congr 1
      exact tks_more n m _ (by rw [List.length_drop]; omega) (by rw [List.length_drop]; omega)
def tksA (l : List Nat) : List (List Nat) := tks l.length l
theorem tksA_cons {l : List Nat} (h : l ≠ []) : tksA l = l.take (nx l) :: tksA (l.drop (nx l)) := by
  unfold tksA
  have := nx_pos h
  have hl : l.length ≠ 0 := fun e => h (List.length_eq_zero_iff.mp e)
  obtain ⟨n, hn⟩ : ∃ n, l.length = n + 1 := ⟨l.length - 1, by omega⟩
  rw [hn]
  show (if l = [] then [] else l.take (nx l) :: tks n (l.drop (nx l))) = _
  rw [if_neg h]
  congr 1
  exact tks_more _ _ _ (by rw [List.length_drop]; omega) (Nat.le_refl _)
theorem tksA_app {a r : List Nat} (h : a ≠ []) (e : nx (a ++ r) = a.length) : tksA (a ++ r) = a :: tksA r := by
  rw [tksA_cons (by simp [h]), e]
  simp
/-! ### the parts read -/
def nameL (l : List Nat) : Bool := decide (1 ≤ l.length) && decide (l.length ≤ 8) && l.all lettr
def bareL : List (List Nat × Wd) := [([46], .any), ([94, 46], .anyback), ([40, 41], .empty), ([33], .non)]
def leafN (l : List Nat) : Option Wd :=
  match bareL.lookup l with
  | some w => some w
  | none => if l.take 1 = [94] ∧ nameL (l.drop 1) = true then some (.bk ⟨(l.drop 1).toArray⟩) else if nameL l = true then some (.nm ⟨l.toArray⟩) else none
structure Ps where
  out : List (List (List Wd) × List Wd)
  al : List (List Wd)
  ws : List Wd
  wt : Bool
def Ps.st (p : Ps) : List (List (List Wd)) := (p.out.reverse.map fun f => f.1 ++ [f.2]) ++ [p.al ++ [p.ws]]
def allS : List (Option Wd) → Option (List Wd)
  | [] => some []
  | o :: r => match o, allS r with | some w, some ws => some (w :: ws) | _, _ => none
def closeW (as : List (List Wd)) : Option Wd := match allS (as.map (joinW .thn)) with | some ms => joinW .orr ms | none => none
theorem allS_some : ∀ {l : List (Option Wd)} {ms : List Wd}, allS l = some ms → l = ms.map some
  | [], ms, h => by cases h; rfl
  | o :: r, ms, h => by
    unfold allS at h
    split at h
    · rename_i w ws e
      cases h
      rw [allS_some e]; rfl
    · cases h
theorem closeW_joinAll {as : List (List Wd)} {w : Wd} (h : closeW as = some w) : joinAll as w := by
  unfold closeW at h
  split at h
  · rename_i ms e
    exact ⟨ms, allS_some e, h⟩
  · cases h
def markN (l : List Nat) : Option (Wd → Wd) := if l = [42] then some .again else if l = [43] then some .more else if l = [63] then some .maybe else none
def szOk (w : Wd) : Bool := decide (w.dp ≤ 20) && decide (w.lv ≤ 40)
/-- one part read -/
def stp (l : List Nat) (p : Ps) : Option Ps :=
  match leafN l with
  | some w => if p.wt then some ⟨p.out, p.al, p.ws ++ [w], false⟩ else none
  | none =>
    if l = [40] then (if p.wt then some ⟨(p.al, p.ws) :: p.out, [], [], true⟩ else none)
    else if l = [41] then (match p.out with
      | [] => none
      | f :: r => if p.wt then none else match closeW (p.al ++ [p.ws]) with | some w => some ⟨r, f.1, f.2 ++ [w], false⟩ | none => none)
    else match markN l with
      | some mk => if p.wt then none else (match p.ws.reverse with | [] => none | w :: r => if szOk (mk w) then some ⟨p.out, p.al, r.reverse ++ [mk w], false⟩ else none)
      | none => if p.wt then none else if l = [32] then some ⟨p.out, p.al, p.ws, true⟩ else if l = [124] then some ⟨p.out, p.al ++ [p.ws], [], true⟩ else none
def stps : List (List Nat) → Ps → Option Ps
  | [], p => some p
  | l :: r, p => match stp l p with | some q => stps r q | none => none
theorem stps_app : ∀ {a b : List (List Nat)} {p q : Ps}, stps a p = some q → stps (a ++ b) p = stps b q
  | [], b, p, q, h => by cases h; rfl
  | l :: r, b, p, q, h => by
    unfold stps at h
    show (match stp l p with | some q => stps (r ++ b) q | none => none) = _
    cases e : stp l p with
    | none => rw [e] at h; cases h
    | some q1 =>
      rw [e] at h
      exact stps_app h
def ps0 : Ps := ⟨[], [], [], true⟩
/-- read, of a whole text -/
def readL (l : List Nat) : Option Wd := match stps (tksA l) ps0 with
  | some p => if p.out = [] ∧ p.wt = false then closeW (p.al ++ [p.ws]) else none
  | none => none
def Ps.bd (n : Nat) (p : Ps) : Prop := p.out.length ≤ n ∧ ∀ f ∈ (p.al, p.ws) :: p.out, f.1.length ≤ n ∧ f.2.length ≤ n ∧ ∀ v ∈ f.1, v.length ≤ n
theorem bd_up {n m : Nat} {f : List (List Wd) × List Wd} (hm : n ≤ m) (h : f.1.length ≤ n ∧ f.2.length ≤ n ∧ ∀ v ∈ f.1, v.length ≤ n) : f.1.length ≤ m ∧ f.2.length ≤ m ∧ ∀ v ∈ f.1, v.length ≤ m := ⟨by omega, by omega, fun v hv => by have := h.2.2 v hv; omega⟩
theorem Ps.bd.up {n m : Nat} {p : Ps} (h : p.bd n) (hm : n ≤ m) : p.bd m := ⟨by have := h.1; omega, fun f hf => bd_up hm (h.2 f hf)⟩
theorem stp_bd {l : List Nat} {p q : Ps} {n : Nat} (h : stp l p = some q) (b : p.bd n) : q.bd (n + 1) := by
  obtain ⟨b1, b2⟩ := b
  have b3 := b2 _ (List.mem_cons_self ..)
  have b4 : ∀ f ∈ p.out, _ := fun f hf => bd_up (Nat.le_succ n) (b2 f (List.mem_cons_of_mem _ hf))
  have mk : ∀ (al : List (List Wd)) (ws : List Wd) (out) (wt : Bool), out.length ≤ n + 1 → al.length ≤ n + 1 → ws.length ≤ n + 1 → (∀ v ∈ al, v.length ≤ n + 1) → (∀ f ∈ out, f.1.length ≤ n + 1 ∧ f.2.length ≤ n + 1 ∧ ∀ v ∈ f.1, v.length ≤ n + 1) → Ps.bd (n + 1) ⟨out, al, ws, wt⟩ := by
    intro al ws out wt h1 h2 h3 h4 h5
    refine ⟨h1, fun f hf => ?_⟩
    rcases List.mem_cons.mp hf with rfl | hf
    · exact ⟨h2, h3, h4⟩
    · exact h5 f hf
  have c1 : p.al.length ≤ n + 1 := Nat.le_succ_of_le b3.1
  have c2 : p.ws.length ≤ n := b3.2.1
  have c3 : ∀ v ∈ p.al, v.length ≤ n + 1 := fun v hv => Nat.le_succ_of_le (b3.2.2 v hv)
  unfold stp at h
  split at h
  · split at h
    · cases h
      exact mk _ _ _ _ (by omega) c1 (by rw [List.length_append, List.length_singleton]; omega) c3 b4
    · cases h
  · split at h
    · split at h
      · cases h
        refine mk _ _ _ _ (by rw [List.length_cons]; omega) (Nat.zero_le _) (Nat.zero_le _) (fun v hv => by cases hv) fun f hf => ?_
        rcases List.mem_cons.mp hf with rfl | hf
        · exact ⟨c1, by show p.ws.length ≤ _; omega, c3⟩
        · exact b4 f hf
      · cases h
    · split at h
      · split at h
        · cases h
        · rename_i f r e
          split at h
          · cases h
          · split at h
            · cases h
              rw [e] at b1 b2 b4
              rw [List.length_cons] at b1
              obtain ⟨d1, d2, d3⟩ := b2 f (by simp)
              exact mk _ _ _ _ (by omega) (by omega) (by rw [List.length_append, List.length_singleton]; omega) (fun v hv => by have := d3 v hv; omega) fun g hg => b4 g (List.mem_cons_of_mem _ hg)
            · cases h
      · split at h
        · split at h
          · cases h
          · split at h
            · cases h
            · rename_i w r e
              split at h
              · cases h
                have := congrArg List.length e
                rw [List.length_reverse, List.length_cons] at this
                exact mk _ _ _ _ (by omega) c1 (by rw [List.length_append, List.length_singleton, List.length_reverse]; omega) c3 b4
              · cases h
        · split at h
          · cases h
          · split at h
            · cases h
              exact mk _ _ _ _ (by omega) c1 (by omega) c3 b4
            · split at h
              · cases h
                refine mk _ _ _ _ (by omega) (by rw [List.length_append, List.length_singleton]; have : p.al.length ≤ n := b3.1; omega) (Nat.zero_le _) (fun v hv => ?_) b4
                rcases List.mem_append.mp hv with hv | hv
                · exact c3 v hv
                · rw [List.mem_singleton.mp hv]; omega
              · cases h
/-! ### a word's text cut into parts -/
def bkT (b : Bool) (l : List (List Nat)) : List (List Nat) := if b then [40] :: (l ++ [[41]]) else l
def tkL : Wd → List (List Nat)
  | .nm s => [cl s]
  | .bk s => [94 :: cl s]
  | .any => [[46]]
  | .anyback => [[94, 46]]
  | .empty => [[40, 41]]
  | .non => [[33]]
  | .thn x y => bkT (hsel ["then", "or"] x.head) (tkL x) ++ [32] :: bkT (hsel ["or"] y.head) (tkL y)
  | .orr x y => bkT (hsel ["or"] x.head) (tkL x) ++ [124] :: tkL y
  | .again x => bkT (hsel ["then", "or"] x.head) (tkL x) ++ [[42]]
  | .more x => bkT (hsel ["then", "or"] x.head) (tkL x) ++ [[43]]
  | .maybe x => bkT (hsel ["then", "or"] x.head) (tkL x) ++ [[63]]
def NL (r : List Nat) : Prop := ∀ c, r.head? = some c → lettr c = false
theorem nl_cons {c : Nat} {r : List Nat} (h : lettr c = false) : NL (c :: r) := fun d e => by cases e; exact h
theorem NameOk_let {s : Str} (h : NameOk s) : ∀ c ∈ cl s, lettr c = true := fun c hc => by
  have := h.2.2 c hc
  unfold lettr
  rw [decide_eq_true this.1, decide_eq_true this.2]; rfl
theorem run1_app {a r : List Nat} (h : ∀ c ∈ a, lettr c = true) (hr : NL r) : run1 (a ++ r) = a.length := by
  induction a with
  | nil =>
    cases r with
    | nil => rfl
    | cons c r =>
      unfold run1
      rw [List.nil_append, List.takeWhile_cons, hr c rfl]; rfl
  | cons c a ih =>
    unfold run1
    rw [List.cons_append, List.takeWhile_cons, h c (by simp), if_pos rfl, List.length_cons, List.length_cons]
    exact congrArg (· + 1) (ih fun d hd => h d (List.mem_cons_of_mem _ hd))
theorem nx_one {c : Nat} {r : List Nat} (h1 : c ≠ 94) (h2 : lettr c = false) (h3 : c = 40 → r.head? ≠ some 41) : nx (c :: r) = 1 := by
  have e : nx1 (c :: r) = 1 := by rw [nx1_cons, if_neg (by simp [h1, h2])]
  unfold nx
  rw [e, if_neg]
  rintro (⟨a, _⟩ | a)
  · simp at a; exact h1 a
  · cases r with
    | nil => simp at a
    | cons d r => simp at a; exact h3 a.1 (by simp [a.2])
theorem nx_nm {s : Str} {r : List Nat} (h : NameOk s) (hr : NL r) : nx (cl s ++ r) = (cl s).length := by
  have hl := NameOk_let h
  have h1 := h.1
  cases e : cl s with
  | nil => rw [e] at h1; simp at h1
  | cons c t =>
    rw [e] at hl
    have hc := hl c (by simp)
    have hc2 : 97 ≤ c := by unfold lettr at hc; simp at hc; exact hc.1
    have en : nx1 (c :: t ++ r) = 1 + t.length := by
      rw [List.cons_append, nx1_cons, if_pos (.inr hc), run1_app (fun d hd => hl d (List.mem_cons_of_mem _ hd)) hr]
    unfold nx
    rw [en, if_neg, List.length_cons, Nat.add_comm]
    rintro (⟨a, _⟩ | a)
    · have := congrArg List.head? a
      rw [Nat.add_comm, List.cons_append, List.take_succ_cons] at this
      simp at this; omega
    · have := congrArg List.head? a
      rw [List.cons_append, List.take_succ_cons] at this
      simp at this; omega
theorem nx_bk {s : Str} {r : List Nat} (h : NameOk s) (hr : NL r) : nx (94 :: cl s ++ r) = (94 :: cl s).length := by
  have en : nx1 (94 :: cl s ++ r) = 1 + (cl s).length := by
    rw [List.cons_append, nx1_cons, if_pos (.inl rfl), run1_app (NameOk_let h) hr]
  have h1 := h.1
  unfold nx
  rw [en, if_neg, List.length_cons, Nat.add_comm]
  rintro (⟨a, _⟩ | a)
  · have := congrArg List.length a
    rw [List.length_take, List.length_append, List.length_cons, List.length_singleton] at this
    omega
  · have := congrArg List.head? a
    rw [List.cons_append, List.take_succ_cons] at this
    simp at this
theorem txt_head (w : Wd) (h : w.Ok) : ∃ c r, w.txt = c :: r ∧ c ≠ 41 := by
  have hb : ∀ (b : Bool) (x : Wd) (z : List Nat), (∃ c r, x.txt = c :: r ∧ c ≠ 41) → ∃ c r, brk b x.txt ++ z = c :: r ∧ c ≠ 41 := by
    rintro b x z ⟨c, r, e, hc⟩
    cases b with
    | true => exact ⟨40, _, rfl, by decide⟩
    | false => exact ⟨c, r ++ z, by show x.txt ++ z = _; rw [e]; rfl, hc⟩
  induction w with
  | nm s =>
    have h1 := h.1
    cases e : cl s with
    | nil => rw [e] at h1; simp at h1
    | cons c t => exact ⟨c, t, e, by have := h.2.2 c (by rw [e]; simp); omega⟩
  | bk s => exact ⟨94, _, rfl, by decide⟩
  | any => exact ⟨46, _, rfl, by decide⟩
  | anyback => exact ⟨94, _, rfl, by decide⟩
  | empty => exact ⟨40, _, rfl, by decide⟩
  | non => exact ⟨33, _, rfl, by decide⟩
  | thn x y ihx ihy => exact hb _ _ _ (ihx h.1)
  | orr x y ihx ihy => exact hb _ _ _ (ihx h.1)
  | again x ih => exact hb _ _ _ (ih h)
  | more x ih => exact hb _ _ _ (ih h)
  | maybe x ih => exact hb _ _ _ (ih h)
theorem tksA_one {c : Nat} {r : List Nat} (h1 : c ≠ 94) (h2 : lettr c = false) (h3 : c = 40 → r.head? ≠ some 41) : tksA (c :: r) = [c] :: tksA r := by
  rw [tksA_cons (by simp), nx_one h1 h2 h3]; rfl
theorem tksA_txt (w : Wd) (h : w.Ok) : ∀ r, NL r → tksA (w.txt ++ r) = tkL w ++ tksA r := by
  have hb : ∀ (b : Bool) (x : Wd), x.Ok → (∀ r, NL r → tksA (x.txt ++ r) = tkL x ++ tksA r) → ∀ r, NL r → tksA (brk b x.txt ++ r) = bkT b (tkL x) ++ tksA r := by
    intro b x hx ih r hr
    cases b with
    | false => exact ih r hr
    | true =>
      obtain ⟨c, t, e, hc⟩ := txt_head x hx
      show tksA (40 :: (x.txt ++ [41]) ++ r) = [40] :: (tkL x ++ [[41]]) ++ tksA r
      rw [List.cons_append, tksA_one (by decide) (by decide) (fun _ => by rw [e]; simp; exact hc), List.append_assoc, List.singleton_append, ih _ (nl_cons (by decide)), List.cons_append, List.append_assoc]
      rfl
  induction w with
  | nm s =>
    intro r hr
    exact tksA_app (by intro e; have := h.1; rw [show cl s = [] from e] at this; simp at this) (nx_nm h hr)
  | bk s =>
    intro r hr
    exact tksA_app (by intro e; cases e) (nx_bk h hr)
  | any => intro r hr; exact tksA_one (by decide) (by decide) (fun e => by cases e)
  | anyback =>
    intro r hr
    refine tksA_app (by decide) ?_
    have e : nx1 (94 :: 46 :: r) = 1 := by
      rw [nx1_cons, if_pos (.inl rfl)]
      unfold run1
      rw [List.takeWhile_cons]; rfl
    show nx (94 :: 46 :: r) = 2
    unfold nx
    rw [e]
    exact if_pos (.inl ⟨rfl, rfl⟩)
  | empty =>
    intro r hr
    refine tksA_app (by decide) ?_
    show nx (40 :: 41 :: r) = 2
    unfold nx
    exact if_pos (.inr rfl)
  | non => intro r hr; exact tksA_one (by decide) (by decide) (fun e => by cases e)
  | thn x y ihx ihy =>
    intro r hr
    show tksA ((brk _ x.txt ++ 32 :: brk _ y.txt) ++ r) = (bkT _ (tkL x) ++ [32] :: bkT _ (tkL y)) ++ tksA r
    rw [List.append_assoc, List.cons_append (a := 32), hb _ x h.1 (ihx h.1) _ (nl_cons (by decide)), List.append_assoc, List.cons_append (a := [32]), tksA_one (by decide) (by decide) (fun e => by cases e), hb _ y h.2 (ihy h.2) r hr]
  | orr x y ihx ihy =>
    intro r hr
    show tksA ((brk _ x.txt ++ 124 :: y.txt) ++ r) = (bkT _ (tkL x) ++ [124] :: tkL y) ++ tksA r
    rw [List.append_assoc, List.cons_append (a := 124), hb _ x h.1 (ihx h.1) _ (nl_cons (by decide)), List.append_assoc, List.cons_append (a := [124]), tksA_one (by decide) (by decide) (fun e => by cases e), ihy h.2 r hr]
  | again x ih =>
    intro r hr
    show tksA ((brk _ x.txt ++ [42]) ++ r) = (bkT _ (tkL x) ++ [[42]]) ++ tksA r
    rw [List.append_assoc, List.singleton_append, hb _ x h (ih h) _ (nl_cons (by decide)), List.append_assoc]
    rfl
  | more x ih =>
    intro r hr
    show tksA ((brk _ x.txt ++ [43]) ++ r) = (bkT _ (tkL x) ++ [[43]]) ++ tksA r
    rw [List.append_assoc, List.singleton_append, hb _ x h (ih h) _ (nl_cons (by decide)), List.append_assoc]
    rfl
  | maybe x ih =>
    intro r hr
    show tksA ((brk _ x.txt ++ [63]) ++ r) = (bkT _ (tkL x) ++ [[63]]) ++ tksA r
    rw [List.append_assoc, List.singleton_append, hb _ x h (ih h) _ (nl_cons (by decide)), List.append_assoc]
    rfl
/-! ### the parts of a word's text read -/
def th : Wd → List Wd
  | .thn x y => x :: th y
  | w => [w]
def altp : Wd → List (List Wd) × List Wd
  | .orr x y => (th x :: (altp y).1, (altp y).2)
  | w => ([], th w)
theorem th_ne (w : Wd) : th w ≠ [] := by cases w <;> (intro e; cases e)
theorem joinW_add {mk : Wd → Wd → Wd} {x y : Wd} {ws : List Wd} (hw : ws ≠ []) (h : joinW mk ws = some y) (h1 : (mk x y).dp ≤ 20) (h2 : (mk x y).lv ≤ 40) : joinW mk (x :: ws) = some (mk x y) := by
  cases ws with
  | nil => exact absurd rfl hw
  | cons v r =>
    unfold joinW
    rw [h]
    show (if _ then _ else _) = _
    rw [if_pos ⟨h1, h2⟩]
def small (w : Wd) : Prop := w.dp ≤ 20 ∧ w.lv ≤ 40
theorem small.thn {x y : Wd} (h : small (.thn x y)) : small x ∧ small y := by
  obtain ⟨a, b⟩ := h
  unfold Wd.dp at a; unfold Wd.lv at b
  exact ⟨⟨by omega, by omega⟩, ⟨by omega, by omega⟩⟩
theorem small.orr {x y : Wd} (h : small (.orr x y)) : small x ∧ small y := by
  obtain ⟨a, b⟩ := h
  unfold Wd.dp at a; unfold Wd.lv at b
  exact ⟨⟨by omega, by omega⟩, ⟨by omega, by omega⟩⟩
theorem join_th : ∀ w : Wd, small w → joinW .thn (th w) = some w
  | .thn x y, h => joinW_add (th_ne y) (join_th y h.thn.2) h.1 h.2
  | .orr x y, _ => rfl
  | .nm _, _ => rfl
  | .bk _, _ => rfl
  | .any, _ => rfl
  | .anyback, _ => rfl
  | .empty, _ => rfl
  | .non, _ => rfl
  | .again _, _ => rfl
  | .more _, _ => rfl
  | .maybe _, _ => rfl
theorem closeW_cons {a : List Wd} {x y : Wd} {as : List (List Wd)} (h : closeW as = some y) (ha : joinW .thn a = some x) (has : as ≠ []) (hs : small (.orr x y)) : closeW (a :: as) = some (.orr x y) := by
  unfold closeW at h ⊢
  cases e : allS (as.map (joinW .thn)) with
  | none => rw [e] at h; cases h
  | some ms =>
    rw [e] at h
    have e2 : allS ((a :: as).map (joinW .thn)) = some (x :: ms) := by
      rw [List.map_cons]
      unfold allS
      rw [ha, e]
    rw [e2]
    refine joinW_add ?_ h hs.1 hs.2
    rintro rfl
    cases h
theorem close_alt : ∀ w : Wd, small w → closeW ((altp w).1 ++ [(altp w).2]) = some w := by
  have one : ∀ w : Wd, small w → closeW [th w] = some w := by
    intro w h
    unfold closeW
    rw [show allS ([th w].map (joinW .thn)) = some [w] by rw [List.map_singleton, join_th w h]; rfl]
    rfl
  intro w
  induction w with
  | orr x y ihx ihy => intro h; exact closeW_cons (ihy h.orr.2) (join_th x h.orr.1) (by simp) h
  | thn x y _ _ => exact one _
  | nm s => exact one _
  | bk s => exact one _
  | any => exact one _
  | anyback => exact one _
  | empty => exact one _
  | non => exact one _
  | again x _ => exact one _
  | more x _ => exact one _
  | maybe x _ => exact one _
theorem bare_no {c : Nat} {t : List Nat} (h : 97 ≤ c) : bareL.lookup (c :: t) = none := by
  have e : ∀ d u, d < 97 → (c :: t == d :: u) = false := fun d u hd => by
    rw [beq_eq_false_iff_ne]
    intro e
    injection e with e _
    omega
  unfold bareL
  rw [List.lookup_cons, e 46 _ (by decide)]
  simp only [List.lookup_cons, e 94 _ (by decide), e 40 _ (by decide), e 33 _ (by decide), List.lookup_nil]
theorem bare_no2 {c : Nat} {t : List Nat} (h : 97 ≤ c) : bareL.lookup (94 :: c :: t) = none := by
  have e : ∀ d u, (94 :: c :: t == d :: u) = true → d = 94 ∧ u = c :: t := fun d u hd => by
    have := eq_of_beq hd
    injection this with a b
    exact ⟨a.symm, b.symm⟩
  have e1 : ∀ d u, d ≠ 94 ∨ (u ≠ c :: t) → (94 :: c :: t == d :: u) = false := fun d u hd => by
    cases q : (94 :: c :: t == d :: u) with
    | false => rfl
    | true =>
      obtain ⟨a, b⟩ := e d u q
      rcases hd with hd | hd
      · exact absurd a hd
      · exact absurd b hd
  unfold bareL
  rw [List.lookup_cons, e1 46 _ (.inl (by decide))]
  simp only [List.lookup_cons, e1 94 [46] (.inr (by intro z; injection z with z _; omega)), e1 40 _ (.inl (by decide)), e1 33 _ (.inl (by decide)), List.lookup_nil]
theorem nameL_ok {s : Str} (h : NameOk s) : nameL (cl s) = true := by
  unfold nameL
  rw [decide_eq_true h.1, decide_eq_true h.2.1, List.all_eq_true.mpr (NameOk_let h)]; rfl
theorem leafN_nm {s : Str} (h : NameOk s) : leafN (cl s) = some (.nm s) := by
  have hn := nameL_ok h
  have hs : (⟨(cl s).toArray⟩ : Str) = s := cl_ext rfl
  have h1 := h.1
  cases e : cl s with
  | nil => rw [e] at h1; simp at h1
  | cons c t =>
    have hc : 97 ≤ c := (h.2.2 c (by rw [e]; simp)).1
    unfold leafN
    rw [bare_no hc]
    show (if _ then _ else _) = _
    rw [if_neg (by rintro ⟨a, _⟩; simp at a; omega), ← e, if_pos hn, hs]
theorem leafN_bk {s : Str} (h : NameOk s) : leafN (94 :: cl s) = some (.bk s) := by
  have hn := nameL_ok h
  have hs : (⟨(cl s).toArray⟩ : Str) = s := cl_ext rfl
  have h1 := h.1
  cases e : cl s with
  | nil => rw [e] at h1; simp at h1
  | cons c t =>
    have hc : 97 ≤ c := (h.2.2 c (by rw [e]; simp)).1
    unfold leafN
    rw [bare_no2 hc]
    show (if _ then _ else _) = _
    rw [← e, if_pos ⟨rfl, hn⟩]
    show some (Wd.bk ⟨(cl s).toArray⟩) = _
    rw [hs]
theorem stp_leaf {l : List Nat} {w : Wd} {out al ws} (h : leafN l = some w) : stp l ⟨out, al, ws, true⟩ = some ⟨out, al, ws ++ [w], false⟩ := by
  unfold stp
  rw [h]; rfl
theorem stps_leaf {l : List Nat} {w : Wd} {out al ws} (h : leafN l = some w) : stps [l] ⟨out, al, ws, true⟩ = some ⟨out, al, ws ++ [w], false⟩ := by
  unfold stps
  rw [stp_leaf h]; rfl
theorem stp_mark {l : List Nat} {mk : Wd → Wd} {w : Wd} {out al ws} (h0 : leafN l = none) (h1 : l ≠ [40]) (h2 : l ≠ [41]) (h : markN l = some mk) (hs : small (mk w)) : stps [l] ⟨out, al, ws ++ [w], false⟩ = some ⟨out, al, ws ++ [mk w], false⟩ := by
  unfold stps stp
  rw [h0]
  show (match (if _ then _ else _) with | some q => stps [] q | none => none) = _
  rw [if_neg h1, if_neg h2, h]
  show (match (match (ws ++ [w]).reverse with | [] => none | w :: r => _) with | some q => stps [] q | none => none) = _
  rw [List.reverse_append]
  show (match (if szOk (mk w) then some (Ps.mk out al (ws.reverse.reverse ++ [mk w]) false) else none) with | some q => stps [] q | none => none) = _
  rw [show szOk (mk w) = true by unfold szOk; rw [decide_eq_true hs.1, decide_eq_true hs.2]; rfl, List.reverse_reverse]
  rfl
def RI (w : Wd) : Prop := ∀ out al ws, stps (bkT (hsel ["then", "or"] w.head) (tkL w)) ⟨out, al, ws, true⟩ = some ⟨out, al, ws ++ [w], false⟩
def RT (w : Wd) : Prop := ∀ out al ws, stps (bkT (hsel ["or"] w.head) (tkL w)) ⟨out, al, ws, true⟩ = some ⟨out, al, ws ++ th w, false⟩
def RO (w : Wd) : Prop := ∀ out al, stps (tkL w) ⟨out, al, [], true⟩ = some ⟨out, al ++ (altp w).1, (altp w).2, false⟩
theorem RO.brk {w : Wd} (h : RO w) (hs : small w) : ∀ out al ws, stps (bkT true (tkL w)) ⟨out, al, ws, true⟩ = some ⟨out, al, ws ++ [w], false⟩ := by
  intro out al ws
  show stps ([40] :: (tkL w ++ [[41]])) _ = _
  have e1 : stp [40] ⟨out, al, ws, true⟩ = some ⟨(al, ws) :: out, [], [], true⟩ := rfl
  unfold stps
  rw [e1]
  show stps (tkL w ++ [[41]]) _ = _
  rw [stps_app (h _ _)]
  unfold stps
  have e2 : stp [41] ⟨(al, ws) :: out, [] ++ (altp w).1, (altp w).2, false⟩ = (match closeW ((altp w).1 ++ [(altp w).2]) with | some w => some ⟨out, al, ws ++ [w], false⟩ | none => none) := rfl
  rw [e2, close_alt w hs]; rfl
theorem single {w : Wd} (hi : hsel ["then", "or"] w.head = false) (ho : hsel ["or"] w.head = false) (ht : th w = [w]) (ha : altp w = ([], [w])) (h : ∀ out al ws, stps (tkL w) ⟨out, al, ws, true⟩ = some ⟨out, al, ws ++ [w], false⟩) : RI w ∧ RT w ∧ RO w := by
  refine ⟨fun out al ws => ?_, fun out al ws => ?_, fun out al => ?_⟩
  · rw [hi]; exact h out al ws
  · rw [ho, ht]; exact h out al ws
  · rw [ha, List.append_nil]; exact h out al []
theorem reads (w : Wd) : w.Ok → small w → RI w ∧ RT w ∧ RO w := by
  induction w with
  | nm s => intro h _; exact single rfl rfl rfl rfl fun out al ws => stps_leaf (leafN_nm h)
  | bk s => intro h _; exact single rfl rfl rfl rfl fun out al ws => stps_leaf (leafN_bk h)
  | any => intro h _; exact single rfl rfl rfl rfl fun out al ws => rfl
  | anyback => intro h _; exact single rfl rfl rfl rfl fun out al ws => rfl
  | empty => intro h _; exact single rfl rfl rfl rfl fun out al ws => rfl
  | non => intro h _; exact single rfl rfl rfl rfl fun out al ws => rfl
  | again x ih =>
    intro h hs
    have sx : small x := ⟨by have := hs.1; unfold Wd.dp at this; omega, hs.2⟩
    refine single rfl rfl rfl rfl fun out al ws => ?_
    show stps (bkT _ (tkL x) ++ [[42]]) _ = _
    rw [stps_app ((ih h sx).1 _ _ _)]
    exact stp_mark (by decide) (by decide) (by decide) rfl hs
  | more x ih =>
    intro h hs
    have sx : small x := ⟨by have := hs.1; unfold Wd.dp at this; omega, hs.2⟩
    refine single rfl rfl rfl rfl fun out al ws => ?_
    show stps (bkT _ (tkL x) ++ [[43]]) _ = _
    rw [stps_app ((ih h sx).1 _ _ _)]
    exact stp_mark (by decide) (by decide) (by decide) rfl hs
  | maybe x ih =>
    intro h hs
    have sx : small x := ⟨by have := hs.1; unfold Wd.dp at this; omega, hs.2⟩
    refine single rfl rfl rfl rfl fun out al ws => ?_
    show stps (bkT _ (tkL x) ++ [[63]]) _ = _
    rw [stps_app ((ih h sx).1 _ _ _)]
    exact stp_mark (by decide) (by decide) (by decide) rfl hs
  | thn x y ihx ihy =>
    intro h hs
    have U : ∀ out al ws, stps (tkL (.thn x y)) ⟨out, al, ws, true⟩ = some ⟨out, al, ws ++ th (.thn x y), false⟩ := by
      intro out al ws
      show stps (bkT _ (tkL x) ++ [32] :: bkT _ (tkL y)) _ = _
      rw [stps_app ((ihx h.1 hs.thn.1).1 _ _ _)]
      have e : stp [32] ⟨out, al, ws ++ [x], false⟩ = some ⟨out, al, ws ++ [x], true⟩ := rfl
      unfold stps
      rw [e]
      show stps (bkT _ (tkL y)) _ = _
      rw [(ihy h.2 hs.thn.2).2.1 _ _ _, List.append_assoc]; rfl
    have O : RO (.thn x y) := fun out al => by
      rw [U, show (altp (.thn x y)).1 = [] from rfl, List.append_nil]; rfl
    refine ⟨fun out al ws => ?_, fun out al ws => ?_, O⟩
    · exact O.brk hs out al ws
    · exact U out al ws
  | orr x y ihx ihy =>
    intro h hs
    have O : RO (.orr x y) := fun out al => by
      show stps (bkT _ (tkL x) ++ [124] :: tkL y) _ = _
      rw [stps_app ((ihx h.1 hs.orr.1).2.1 _ _ _)]
      have e : stp [124] ⟨out, al, [] ++ th x, false⟩ = some ⟨out, al ++ [th x], [], true⟩ := rfl
      unfold stps
      rw [e]
      show stps (tkL y) _ = _
      rw [(ihy h.2 hs.orr.2).2.2 _ _, List.append_assoc]; rfl
    exact ⟨fun out al ws => O.brk hs out al ws, fun out al ws => O.brk hs out al ws, O⟩
theorem readL_txt {w : Wd} (h : w.Ok) (hs : small w) : readL w.txt = some w := by
  have e : tksA w.txt = tkL w := by
    have := tksA_txt w h [] (fun c e => by cases e)
    rw [List.append_nil] at this
    rw [this]
    exact List.append_nil _
  unfold readL
  rw [e, show stps (tkL w) ps0 = _ from (reads w h hs).2.2 [] []]
  show (if _ then _ else _) = _
  rw [if_pos ⟨rfl, rfl⟩]
  exact close_alt w hs
theorem txt_inj {w v : Wd} (h : w.Ok) (hs : small w) (h2 : v.Ok) (hs2 : small v) (e : w.txt = v.txt) : w = v := by
  have a := readL_txt h hs
  rw [e, readL_txt h2 hs2] at a
  exact (Option.some.inj a).symm
theorem sg_eq {c d : Nat} {s : Str} (h : cl s = [d]) : (⟨#[c]⟩ : Str) = s ↔ c = d := by
  rw [← cl_inj, h]
  show [c] = [d] ↔ _
  simp
theorem tx_eq {t s : Str} {l m : List Nat} (h : cl t = l) (h2 : cl s = m) : t = s ↔ l = m := by rw [← cl_inj, h, h2]
theorem run1_at {l : List Nat} {j c : Nat} (h : l[j]? = some c) : run1 (l.drop j) = if lettr c = true then 1 + run1 (l.drop (j + 1)) else 0 := by
  obtain ⟨hl, rfl⟩ := List.getElem?_eq_some_iff.mp h
  unfold run1
  rw [List.drop_eq_getElem_cons hl, List.takeWhile_cons]
  split
  · rw [List.length_cons, Nat.add_comm]
  · rfl
theorem leafN_one {l : List Nat} {w : Wd} (h : leafN l = some w) : w.dp = 1 ∧ w.lv = 1 := by
  unfold leafN at h
  split at h
  · rename_i e
    cases h
    have := lookup_mem e
    simp only [bareL, List.mem_cons, List.not_mem_nil, or_false, Prod.mk.injEq] at this
    rcases this with ⟨_, rfl⟩ | ⟨_, rfl⟩ | ⟨_, rfl⟩ | ⟨_, rfl⟩ <;> exact ⟨rfl, rfl⟩
  · split at h
    · cases h; exact ⟨rfl, rfl⟩
    · split at h
      · cases h; exact ⟨rfl, rfl⟩
      · cases h
def Ps.pre (p : Ps) : List (List (List Wd)) := p.out.reverse.map fun f => f.1 ++ [f.2]
theorem Ps.st_eq (p : Ps) : p.st = p.pre ++ [p.al ++ [p.ws]] := rfl
theorem Ps.pre_len (p : Ps) : p.pre.length = p.out.length := by unfold Ps.pre; rw [List.length_map, List.length_reverse]
theorem stOf_len {frs : List Fr} : (stOf frs).length = frs.length := by unfold stOf; rw [List.length_map]
theorem stps_split : ∀ {a b : List (List Nat)} {p r : Ps}, stps (a ++ b) p = some r → ∃ q, stps a p = some q ∧ stps b q = some r
  | [], b, p, r, h => ⟨p, rfl, h⟩
  | l :: a, b, p, r, h => by
    have h : (match stp l p with | some q => stps (a ++ b) q | none => none) = some r := h
    cases e : stp l p with
    | none => rw [e] at h; cases h
    | some q =>
      rw [e] at h
      obtain ⟨q2, h1, h2⟩ := stps_split h
      refine ⟨q2, ?_, h2⟩
      show (match stp l p with | some q => stps a q | none => none) = some q2
      rw [e]
      exact h1
theorem tks_len : ∀ (n : Nat) (l : List Nat), (tks n l).length ≤ n
  | 0, _ => Nat.le_refl _
  | n + 1, l => by
    unfold tks
    split
    · exact Nat.zero_le _
    · rw [List.length_cons]
      exact Nat.succ_le_succ (tks_len n _)
theorem tks_mem : ∀ (n : Nat) (l m : List Nat), m ∈ tks n l → m.length ≤ l.length
  | 0, _, _, h => by cases h
  | n + 1, l, m, h => by
    unfold tks at h
    split at h
    · cases h
    · rcases List.mem_cons.mp h with rfl | h
      · rw [List.length_take]; omega
      · have := tks_mem n _ m h
        rw [List.length_drop] at this
        omega
theorem readL_out {l : List Nat} {w : Wd} (h : readL l = some w) : ∃ p, stps (tksA l) ps0 = some p ∧ p.out = [] ∧ p.wt = false ∧ closeW (p.al ++ [p.ws]) = some w := by
  unfold readL at h
  split at h
  · rename_i p e
    split at h
    · rename_i q
      exact ⟨p, e, q.1, q.2, h⟩
    · cases h
  · cases h
theorem okn_wd (w : Wd) (h : w.Ok) : Okn w.dp w.d := by
  have hs : ∀ (n : Nat) (s : Str), PyData.strOk s = true → Okn n (.str s) := fun n s h => Okn.str h
  have one : ∀ s : Str, PyData.strOk s = true → Okn 1 (.tup [.str s]) := fun s h => Okn.tup (n := 0) fun d hd => by rw [List.mem_singleton.mp hd]; exact hs _ _ h
  have two : ∀ (s : Str) (n : Nat) (d : Dt), PyData.strOk s = true → Okn n d → Okn (1 + n) (.tup [.str s, d]) := fun s n d h h2 => by
    rw [Nat.add_comm]
    refine Okn.tup fun e he => ?_
    simp only [List.mem_cons, List.not_mem_nil, or_false] at he
    rcases he with rfl | rfl
    · exact hs _ _ h
    · exact h2
  have three : ∀ (s : Str) (n m : Nat) (d d2 : Dt), PyData.strOk s = true → Okn n d → Okn m d2 → Okn (1 + max n m) (.tup [.str s, d, d2]) := fun s n m d d2 h h2 h3 => by
    rw [Nat.add_comm]
    refine Okn.tup fun e he => ?_
    simp only [List.mem_cons, List.not_mem_nil, or_false] at he
    rcases he with rfl | rfl | rfl
    · exact hs _ _ h
    · exact h2.mono (Nat.le_max_left ..)
    · exact h3.mono (Nat.le_max_right ..)
  induction w with
  | nm s => exact two "name" 0 _ (strOk_of (by decide)) (hs _ _ h.ok)
  | bk s => exact two "back" 0 _ (strOk_of (by decide)) (hs _ _ h.ok)
  | any => exact one _ (strOk_of (by decide))
  | anyback => exact one _ (strOk_of (by decide))
  | empty => exact one _ (strOk_of (by decide))
  | non => exact one _ (strOk_of (by decide))
  | thn x y ihx ihy => exact three _ _ _ _ _ (strOk_of (by decide)) (ihx h.1) (ihy h.2)
  | orr x y ihx ihy => exact three _ _ _ _ _ (strOk_of (by decide)) (ihx h.1) (ihy h.2)
  | again x ih => exact two _ _ _ (strOk_of (by decide)) (ih h)
  | more x ih => exact two _ _ _ (strOk_of (by decide)) (ih h)
  | maybe x ih => exact two _ _ _ (strOk_of (by decide)) (ih h)
theorem eqDs_cons {a b : Dt} {as bs : List Dt} : eqDs (a :: as) (b :: bs) = (eqD a b && eqDs as bs) := rfl
theorem wd_refl (w : Wd) : eqD w.d w.d = true := by
  induction w with
  | thn x y ihx ihy => unfold Wd.d; rw [eqD_tup, eqDs_cons, eqDs_cons, eqDs_cons, ihx, ihy, str_refl]; rfl
  | orr x y ihx ihy => unfold Wd.d; rw [eqD_tup, eqDs_cons, eqDs_cons, eqDs_cons, ihx, ihy, str_refl]; rfl
  | again x ih => unfold Wd.d; rw [eqD_tup, eqDs_cons, eqDs_cons, ih, str_refl]; rfl
  | more x ih => unfold Wd.d; rw [eqD_tup, eqDs_cons, eqDs_cons, ih, str_refl]; rfl
  | maybe x ih => unfold Wd.d; rw [eqD_tup, eqDs_cons, eqDs_cons, ih, str_refl]; rfl
  | nm s => unfold Wd.d; rw [eqD_tup, eqDs_cons, eqDs_cons, str_refl, str_refl]; rfl
  | bk s => unfold Wd.d; rw [eqD_tup, eqDs_cons, eqDs_cons, str_refl, str_refl]; rfl
  | any => unfold Wd.d; rw [eqD_tup, eqDs_cons, str_refl]; rfl
  | anyback => unfold Wd.d; rw [eqD_tup, eqDs_cons, str_refl]; rfl
  | empty => unfold Wd.d; rw [eqD_tup, eqDs_cons, str_refl]; rfl
  | non => unfold Wd.d; rw [eqD_tup, eqDs_cons, str_refl]; rfl
def hdN : Wd → Nat
  | .nm _ => 0 | .bk _ => 1 | .any => 2 | .anyback => 3 | .empty => 4 | .non => 5 | .thn _ _ => 6 | .orr _ _ => 7 | .again _ => 8 | .more _ => 9 | .maybe _ => 10
def hdS : List Str := ["name", "back", "any", "anyback", "empty", "none", "then", "or", "again", "more", "maybe"]
theorem hdN_lt (w : Wd) : hdN w < 11 := by cases w <;> simp [hdN]
theorem hdS_at (w : Wd) : ∃ as, w.d = .tup (.str (hdS.getD (hdN w) "") :: as) := by cases w <;> exact ⟨_, rfl⟩
theorem hdS_inj : ∀ i, i < 11 → ∀ j, j < 11 → hdS.getD i "" = hdS.getD j "" → i = j := by decide
theorem wd_hd {w v : Wd} (h : eqD w.d v.d = true) : hdN w = hdN v := by
  obtain ⟨as, ew⟩ := hdS_at w
  obtain ⟨bs, ev⟩ := hdS_at v
  rw [ew, ev, eqD_tup, eqDs_cons, eqD_str, Bool.and_eq_true] at h
  exact hdS_inj _ (hdN_lt w) _ (hdN_lt v) (of_decide_eq_true h.1)
theorem and3 {a b c : Bool} (h : (a && (b && c)) = true) : b = true ∧ c = true := by
  cases a <;> cases b <;> cases c <;> simp_all
theorem wd_eq : ∀ (w v : Wd), eqD w.d v.d = true → w = v := by
  intro w
  induction w with
  | nm s =>
    intro v h
    have e := wd_hd h
    cases v <;> first | (cases e; done) | skip
    unfold Wd.d at h
    rw [eqD_tup, eqDs_cons, eqDs_cons] at h
    have := (and3 h).1
    rw [eqD_str] at this
    rw [of_decide_eq_true this]
  | bk s =>
    intro v h
    have e := wd_hd h
    cases v <;> first | (cases e; done) | skip
    unfold Wd.d at h
    rw [eqD_tup, eqDs_cons, eqDs_cons] at h
    have := (and3 h).1
    rw [eqD_str] at this
    rw [of_decide_eq_true this]
  | any => intro v h; have e := wd_hd h; cases v <;> first | (cases e; done) | rfl
  | anyback => intro v h; have e := wd_hd h; cases v <;> first | (cases e; done) | rfl
  | empty => intro v h; have e := wd_hd h; cases v <;> first | (cases e; done) | rfl
  | non => intro v h; have e := wd_hd h; cases v <;> first | (cases e; done) | rfl
  | thn x y ihx ihy =>
    intro v h
    have e := wd_hd h
    cases v <;> first | (cases e; done) | skip
    unfold Wd.d at h
    rw [eqD_tup, eqDs_cons, eqDs_cons, eqDs_cons] at h
    obtain ⟨a, b⟩ := and3 h
    rw [Bool.and_eq_true] at b
    rw [ihx _ a, ihy _ b.1]
  | orr x y ihx ihy =>
    intro v h
    have e := wd_hd h
    cases v <;> first | (cases e; done) | skip
    unfold Wd.d at h
    rw [eqD_tup, eqDs_cons, eqDs_cons, eqDs_cons] at h
    obtain ⟨a, b⟩ := and3 h
    rw [Bool.and_eq_true] at b
    rw [ihx _ a, ihy _ b.1]
  | again x ih =>
    intro v h
    have e := wd_hd h
    cases v <;> first | (cases e; done) | skip
    unfold Wd.d at h
    rw [eqD_tup, eqDs_cons, eqDs_cons] at h
    rw [ih _ (and3 h).1]
  | more x ih =>
    intro v h
    have e := wd_hd h
    cases v <;> first | (cases e; done) | skip
    unfold Wd.d at h
    rw [eqD_tup, eqDs_cons, eqDs_cons] at h
    rw [ih _ (and3 h).1]
  | maybe x ih =>
    intro v h
    have e := wd_hd h
    cases v <;> first | (cases e; done) | skip
    unfold Wd.d at h
    rw [eqD_tup, eqDs_cons, eqDs_cons] at h
    rw [ih _ (and3 h).1]
theorem fEq_wd {neg : Bool} {S : Store} {w v : Wd} {k : OK1} (hw : w.Ok) (hv : v.Ok) (h1 : w.dp ≤ 64) (h2 : v.dp ≤ 64) (h : k (.bl (neg != eqD w.d v.d)) S) : fEq neg S w.d v.d k := by
  have a := (okn_wd w hw).ok h1
  have b := (okn_wd v hv).ok h2
  have go : ∀ x y : Dt, (∃ xs, x = .tup xs) → (∃ ys, y = .tup ys) → okD x = true → okD y = true → k (.bl (neg != eqD x y)) S → fEq neg S x y k := by
    rintro _ _ ⟨xs, rfl⟩ ⟨ys, rfl⟩ h1 h2 h
    exact ⟨h1, h2, h⟩
  obtain ⟨_, ew⟩ := hdS_at w
  obtain ⟨_, ev⟩ := hdS_at v
  exact go _ _ ⟨_, ew⟩ ⟨_, ev⟩ a b h
theorem fEq_str {neg : Bool} {S : Store} {i j : Str} {k : OK1} (h : k (.bl (neg != decide (i = j))) S) : fEq neg S (.str i) (.str j) k := h

-- ==FN law_alike

def R_law_alike (n : Nat) : Fsp := R2d fun x y S Φ Ω => Same S n x y ∧ Φ (.bl true) S
theorem no_law_alike : ∀ ds S Φ Ω, ¬ R_law_alike 0 ds S Φ Ω := fun ds S Φ Ω ⟨x, y, _, h, _⟩ => h
theorem ok_law_alike {P : Program} {w : World} {K : PySem.W.Frag} {mg : Str → Option Value} {base : Heap} {a : Ad} (T : Tx K w mg a) (n : Nat) : FnD P w K mg base (1 + n) a.f_law_alike a.d_law_alike ["found", "due"] (R_law_alike n) := by
  induction n with
  | zero => exact fn_never (k := 0) T.F_law_alike sc_law_alike no_law_alike
  | succ n IH =>
  refine fnD2 (k := 1 + n) T.F_law_alike sc_law_alike rfl (fun cdv A outer s H E c => (dss_cons (ds_if (dt_val (de_isi T.n_isinstance (da_cons (de_var 1) (da_cons (de_tup (da_cons (de_ty (n := "list") T.n_list (by decide +kernel)) (da_cons (de_ty (n := "tuple") T.n_tuple (by decide +kernel)) da_nil))) da_nil)))) (dss_cons (ds_if (dt_w (dw_or (dt_not (dt_val (de_isi T.n_isinstance (da_cons (de_var 0) (da_cons (de_tup (da_cons (de_ty (n := "list") T.n_list (by decide +kernel)) (da_cons (de_ty (n := "tuple") T.n_tuple (by decide +kernel)) da_nil))) da_nil))))) (dw_or1 (dt_rel c.ne (de_isi T.n_isinstance (da_cons (de_var 0) (da_cons (de_ty (n := "list") T.n_list (by decide +kernel)) da_nil))) (de_isi T.n_isinstance (da_cons (de_var 1) (da_cons (de_ty (n := "list") T.n_list (by decide +kernel)) da_nil))))))) (dss_one (ds_ret de_bl)) dss_nil) (dss_cons (ds_if (dt_rel c.ne (de_len T.n_len (da_cons (de_var 0) da_nil)) (de_len T.n_len (da_cons (de_var 1) da_nil))) (dss_one (ds_ret de_bl)) dss_nil) (dss_one (ds_ret (de_callB (cr_all c.calm) simAll T.n_all (by decide +kernel) (da_cons (de_lc (own := [("k", 2)]) c (di_range1 T.n_range (da_cons (de_len T.n_len (da_cons (de_var 1) da_nil)) da_nil)) (blkOk_by (N := ["found", "due", "k"]) (sc := defScope s_law_alike) (by decide +kernel)) (dgx_name (i := 2) c.nd (fun _ _ _ _ _ => rfl) (fun _ _ _ _ _ => by first | exact Or.inl rfl | exact Or.inr rfl) (fun _ _ _ _ _ => by first | exact .inl rfl | exact .inr rfl) (by decide)) (fun _ _ _ _ _ => dts_nil) (fun _ _ _ _ _ => (de_call c.blk IH (by omega) T.g_law_alike T.F_law_alike.kp T.b_law_alike (da_cons (de_ix (de_var 0) (de_var 2)) (da_cons (de_ix (de_var 1) (de_var 2)) da_nil))))) da_nil)))))) dss_nil) (dss_cons (ds_if (dt_w (dw_or (dt_rel c.ne (de_isi T.n_isinstance (da_cons (de_var 0) (da_cons (de_ty (n := "bool") T.n_bool (by decide +kernel)) da_nil))) (de_isi T.n_isinstance (da_cons (de_var 1) (da_cons (de_ty (n := "bool") T.n_bool (by decide +kernel)) da_nil)))) (dw_or1 (dt_rel c.ne (de_isi T.n_isinstance (da_cons (de_var 0) (da_cons (de_ty (n := "int") T.n_int (by decide +kernel)) da_nil))) (de_isi T.n_isinstance (da_cons (de_var 1) (da_cons (de_ty (n := "int") T.n_int (by decide +kernel)) da_nil))))))) (dss_one (ds_ret de_bl)) dss_nil) (dss_one (ds_ret (de_and (de_rel c.eq (de_isi T.n_isinstance (da_cons (de_var 0) (da_cons (de_ty (n := "str") T.n_str (by decide +kernel)) da_nil))) (de_isi T.n_isinstance (da_cons (de_var 1) (da_cons (de_ty (n := "str") T.n_str (by decide +kernel)) da_nil)))) (de_one (de_rel c.eq (de_var 0) (de_var 1))))))))) ?_
  rintro x y S Φ Ω ⟨h, hk⟩
  cases y with
  | lst ys =>
    obtain ⟨xs, hx0, h2, h3, h4⟩ := h
    rcases hx0 with rfl | ⟨q, rfl, hq⟩
    · refine ⟨show 2 ≤ sizeLine by decide, ⟨rfl, rfl⟩, ?_⟩
      refine ⟨show 2 ≤ sizeLine by decide, ⟨rfl, rfl⟩, ?_⟩
      refine ⟨rfl, rfl, ?_⟩
      refine brF (by simp [h2]) ?_
      refine ⟨⟨by omega, by omega⟩, ?_⟩
      intro p hp
      refine ⟨fun i acc S' => S' = su S p (.lst acc) ∧ acc = List.replicate i (.bl true), ⟨rfl, rfl⟩, fun i acc S' h => ⟨trivial, by rw [h.1]; exact su_same⟩, ?_, ?_⟩
      · rintro i d _ _ hd ⟨rfl, rfl⟩
        obtain ⟨rfl, hi⟩ := rngD_get hd
        have hi : i < ys.length := by omega
        have hx : xs[i]? = some xs[i] := List.getElem?_eq_getElem (by omega)
        have hy : ys[i]? = some ys[i] := List.getElem?_eq_getElem hi
        refine ⟨by rw [List.length_replicate]; unfold sizeLine; omega, ?_⟩
        refine ⟨ _, atI_at (by omega) (by rw [show (0 + (i : Int)).toNat = i by omega]; exact hx), ?_⟩
        refine ⟨_, atI_at (by omega) (by rw [show (0 + (i : Int)).toNat = i by omega]; exact hy), ?_⟩
        refine ⟨_, _, rfl, Same.mono (fun q zs e => su_other hp e _) _ _ _ (h4 i _ _ hx hy), ?_⟩
        refine ⟨su_same, su_su, ?_⟩
        rw [List.replicate_succ']
      · rintro _ _ ⟨rfl, rfl⟩
        rw [sdel_su hp]
        refine ⟨by simp [isBl], ?_⟩
        have : (List.replicate (rngD 0 ((ys.length : Int)).toNat).length (Dt.bl true)).all tD = true := by simp [tD]
        rw [this]
        exact hk
    · refine ⟨show 2 ≤ sizeLine by decide, ⟨rfl, rfl⟩, ?_⟩
      refine ⟨show 2 ≤ sizeLine by decide, ⟨rfl, rfl⟩, _, hq, ?_⟩
      refine ⟨rfl, _, hq, rfl, ?_⟩
      refine ⟨_, hq, ?_⟩
      refine brF (by simp [h2]) ?_
      refine ⟨⟨by omega, by omega⟩, ?_⟩
      intro p hp
      refine ⟨fun i acc S' => S' = su S p (.lst acc) ∧ acc = List.replicate i (.bl true), ⟨rfl, rfl⟩, fun i acc S' h => ⟨trivial, by rw [h.1]; exact su_same⟩, ?_, ?_⟩
      · rintro i d _ _ hd ⟨rfl, rfl⟩
        obtain ⟨rfl, hi⟩ := rngD_get hd
        have hi : i < ys.length := by omega
        have hx : xs[i]? = some xs[i] := List.getElem?_eq_getElem (by omega)
        have hy : ys[i]? = some ys[i] := List.getElem?_eq_getElem hi
        refine ⟨by rw [List.length_replicate]; unfold sizeLine; omega, ?_⟩
        refine ⟨_, su_other hp hq _, _, atI_at (by omega) (by rw [show (0 + (i : Int)).toNat = i by omega]; exact hx), ?_⟩
        refine ⟨_, atI_at (by omega) (by rw [show (0 + (i : Int)).toNat = i by omega]; exact hy), ?_⟩
        refine ⟨_, _, rfl, Same.mono (fun q zs e => su_other hp e _) _ _ _ (h4 i _ _ hx hy), ?_⟩
        refine ⟨su_same, su_su, ?_⟩
        rw [List.replicate_succ']
      · rintro _ _ ⟨rfl, rfl⟩
        rw [sdel_su hp]
        refine ⟨by simp [isBl], ?_⟩
        have : (List.replicate (rngD 0 ((ys.length : Int)).toNat).length (Dt.bl true)).all tD = true := by simp [tD]
        rw [this]
        exact hk
  | tup ys =>
    obtain ⟨xs, rfl, h2, h3, h4⟩ := h
    refine ⟨show 2 ≤ sizeLine by decide, ⟨rfl, rfl⟩, ?_⟩
    refine ⟨show 2 ≤ sizeLine by decide, ⟨rfl, rfl⟩, ?_⟩
    refine ⟨rfl, rfl, ?_⟩
    refine brF (by simp [h2]) ?_
    refine ⟨⟨by omega, by omega⟩, ?_⟩
    intro p hp
    refine ⟨fun i acc S' => S' = su S p (.lst acc) ∧ acc = List.replicate i (.bl true), ⟨rfl, rfl⟩, fun i acc S' h => ⟨trivial, by rw [h.1]; exact su_same⟩, ?_, ?_⟩
    · rintro i d _ _ hd ⟨rfl, rfl⟩
      obtain ⟨rfl, hi⟩ := rngD_get hd
      have hi : i < ys.length := by omega
      have hx : xs[i]? = some xs[i] := List.getElem?_eq_getElem (by omega)
      have hy : ys[i]? = some ys[i] := List.getElem?_eq_getElem hi
      refine ⟨by rw [List.length_replicate]; unfold sizeLine; omega, ?_⟩
      refine ⟨ _, atI_at (by omega) (by rw [show (0 + (i : Int)).toNat = i by omega]; exact hx), ?_⟩
      refine ⟨_, atI_at (by omega) (by rw [show (0 + (i : Int)).toNat = i by omega]; exact hy), ?_⟩
      refine ⟨_, _, rfl, Same.mono (fun q zs e => su_other hp e _) _ _ _ (h4 i _ _ hx hy), ?_⟩
      refine ⟨su_same, su_su, ?_⟩
      rw [List.replicate_succ']
    · rintro _ _ ⟨rfl, rfl⟩
      rw [sdel_su hp]
      refine ⟨by simp [isBl], ?_⟩
      have : (List.replicate (rngD 0 ((ys.length : Int)).toNat).length (Dt.bl true)).all tD = true := by simp [tD]
      rw [this]
      exact hk
  | non =>
    cases h
    refine ⟨show 2 ≤ sizeLine by decide, ⟨rfl, rfl⟩, ?_⟩
    exact ⟨rfl, rfl, rfl, rfl, rfl, rfl, rfl, rfl, hk⟩
  | bl b =>
    cases h
    refine ⟨show 2 ≤ sizeLine by decide, ⟨rfl, rfl⟩, ?_⟩
    refine ⟨rfl, rfl, rfl, rfl, rfl, rfl, ?_⟩
    show Φ (.bl (false != decide (b = b))) S
    rw [decide_eq_true rfl]
    exact hk
  | int b =>
    cases h
    refine ⟨show 2 ≤ sizeLine by decide, ⟨rfl, rfl⟩, ?_⟩
    refine ⟨rfl, rfl, rfl, rfl, rfl, rfl, ?_⟩
    show Φ (.bl (false != decide (b = b))) S
    rw [decide_eq_true rfl]
    exact hk
  | str b =>
    cases h
    refine ⟨show 2 ≤ sizeLine by decide, ⟨rfl, rfl⟩, ?_⟩
    refine ⟨rfl, rfl, rfl, rfl, rfl, rfl, ?_⟩
    show Φ (.bl (false != decide (b = b))) S
    rw [decide_eq_true rfl]
    exact hk
  | _ => exact h.elim

-- ==FN law_bag

theorem ok_law_bag {P : Program} {w : World} {K : PySem.W.Frag} {mg : Str → Option Value} {base : Heap} {a : Ad} (T : Tx K w mg a) : FnD P w K mg base 1 a.f_law_bag a.d_law_bag ["script"] R_law_bag := by
  refine fnD1 (k := 0) T.F_law_bag sc_law_bag rfl (fun cdv A outer s H E c => (dss_cons (ds_set 1 c.nd de_int) (dss_cons (ds_for c (di_any (de_sl (de_var 0) do_none (do_some de_int))) (dg_name (i := 2) c.nd) (dss_one (ds_set 1 c.nd (de_mod (de_add (de_add (de_mul (de_var 1) de_int) (de_mod (de_var 2) de_int)) de_int) de_int)))) (dss_one (ds_ret (de_lstM (da_cons (de_lc (own := [("cell", 2)]) c (di_any (de_sl (de_var 0) do_none (do_some de_int))) (blkOk_by (N := ["script", "stir", "cell"]) (sc := defScope s_law_bag) (by decide +kernel)) (dgx_name (i := 2) c.nd (fun _ _ _ _ _ => rfl) (fun _ _ _ _ _ => by first | exact Or.inl rfl | exact Or.inr rfl) (fun _ _ _ _ _ => by first | exact .inl rfl | exact .inr rfl) (by decide)) (fun _ _ _ _ _ => dts_nil) (fun _ _ _ _ _ => (de_mod (de_callB call_abs simAbs T.n_abs (by decide +kernel) (da_cons (de_var 2) da_nil)) (de_pow (de_pow de_int de_int) de_int)))) (da_cons de_int (da_cons de_int (da_cons (de_var 1) (da_cons de_int da_nil))))))))))) ?_
  intro x S Φ Ω h
  obtain ⟨ns, rfl, hl, hk⟩ := h
  have hcut : cutL (ns.map Dt.int) none (some 63) = ns.map Dt.int := cut_some (by rw [List.length_map]; omega)
  refine ⟨fun i ρ' S' => ∃ (s : Int) (o : Option Dt), 0 ≤ s ∧ s < 2147483647 ∧ ρ' = [some (.rl (ns.map .int)), some (.int s), o] ∧ S' = S, ?_, fun _ _ _ _ => trivial, ?_, ?_⟩
  · exact ⟨_, none, by decide, by decide, rfl, rfl⟩
  · rintro i d ρ' S' hd ⟨s, o, h1, h2, rfl, rfl⟩
    rw [hcut, List.getElem?_map] at hd
    cases e : ns[i]? with
    | none => rw [e] at hd; cases hd
    | some n =>
      rw [e] at hd; cases hd
      refine ⟨mul_r ⟨by decide, by decide⟩, ?_⟩
      refine ⟨show (0 : Int) < 2147483629 by decide, ?_⟩
      refine ⟨show (0 : Int) < 2147483647 by decide, ?_⟩
      exact ⟨_, _, Int.emod_nonneg _ (by decide), Int.emod_lt_of_pos _ (by decide), rfl, rfl⟩
  · rintro ρ' S' ⟨s, o, h1, h2, rfl, rfl⟩
    intro p hp
    refine ⟨LcI S' p fun i acc => acc.length = i ∧ ∃ cells : List Int, acc = cells.map .int ∧ ∀ x ∈ cells, 0 ≤ x, ⟨rfl, rfl, [], rfl, by simp⟩, fun i acc S2 q => ⟨trivial, by rw [q.1]; exact su_same⟩, ?_, ?_⟩
    · rintro i d acc S2 hd ⟨rfl, rfl, cells, rfl, hc⟩
      rw [hcut, List.getElem?_map] at hd
      cases e : ns[(cells.map Dt.int).length]? with
      | none => rw [e] at hd; cases hd
      | some n =>
        rw [e] at hd; cases hd
        have hlt := (List.getElem?_eq_some_iff.mp e).1
        refine ⟨by unfold sizeLine; omega, ?_⟩
        refine ⟨⟨by decide +kernel, by decide +kernel⟩, ?_⟩
        refine ⟨⟨by decide +kernel, by decide +kernel⟩, ?_⟩
        refine ⟨show (0 : Int) < (10 ^ (60 : Int).toNat) ^ (10 : Int).toNat by decide +kernel, ?_⟩
        refine lc_y ⟨by simp, cells ++ [_], by rw [List.map_append]; rfl, ?_⟩
        intro x hx
        rw [List.mem_append] at hx
        rcases hx with hx | hx
        · exact hc x hx
        · rw [List.mem_singleton] at hx
          subst hx
          exact Int.emod_nonneg _ (by decide +kernel)
    · rintro acc S2 ⟨rfl, _, cells, rfl, hc⟩
      rw [sdel_su hp]
      refine ⟨show 5 ≤ sizeLine by decide, fun b hb => ?_⟩
      exact hk b _ hb ⟨cells, 0, 0, s, 0, rfl, hc, by decide, by decide, h1, h2⟩

-- ==FN law_stirred

theorem ok_law_stirred {P : Program} {w : World} {K : PySem.W.Frag} {mg : Str → Option Value} {base : Heap} {a : Ad} (T : Tx K w mg a) : FnD P w K mg base 1 a.f_law_stirred a.d_law_stirred ["bag", "many"] R_law_stirred := by
  refine fnD2 (k := 0) T.F_law_stirred sc_law_stirred rfl (fun cdv A outer s H E c => (dss_cons (ds_set 2 c.nd de_int) (dss_cons (ds_for c (di_range1 T.n_range (da_cons (de_add de_int (de_fdiv (de_bits (de_var 1)) de_int)) da_nil)) (dg_name (i := 3) c.nd) (dss_cons (ds_setL (de_var 0) de_int (de_add (de_ix (de_var 0) de_int) de_int)) (dss_cons (ds_setL (de_var 0) de_int (de_mod (de_add (de_add (de_add (de_pow (de_ix (de_var 0) de_int) de_int) (de_mul de_int (de_ix (de_var 0) de_int))) (de_mul de_int (de_ix (de_var 0) de_int))) de_int) de_int)) (dss_one (ds_set 2 c.nd (de_add (de_mul (de_var 2) de_int) (de_fdiv (de_ix (de_var 0) de_int) de_int))))))) (dss_one (ds_ret (de_mod (de_var 2) (de_var 1))))))) ?_
  intro x y S Φ Ω h
  obtain ⟨b, m, rfl, rfl, hm, hm2, ⟨xs, hb, hx⟩, hk⟩ := h
  have hbits : (Builtin.Int.intBits m : Int) ≤ 9001 := intBits_le hm hm2
  have hb0 : (0 : Int) ≤ (Builtin.Int.intBits m : Int) := Int.natCast_nonneg _
  refine ⟨⟨by decide, by decide⟩, ?_⟩
  refine ⟨⟨?_, ?_⟩, ?_⟩
  · show -2 ^ 62 ≤ 1 + (Builtin.Int.intBits m : Int) / 27
    omega
  · show 1 + (Builtin.Int.intBits m : Int) / 27 < 2 ^ 62
    omega
  refine ⟨fun i ρ' S' => ∃ (f : Int) (o : Option Dt), ρ' = [some (.ref b), some (.int m), some (.int f), o] ∧ BS S b S', ?_, fun _ _ _ _ => trivial, ?_, ?_⟩
  · exact ⟨0, none, rfl, BS.refl ⟨xs, hb, hx⟩⟩
  · rintro i d ρ' S' hd ⟨f, o, rfl, _, ⟨cells, a1, l1, s1, c1, rfl, hc, h1, h2, h3, h4⟩, rfl⟩
    refine ⟨_, su_same, _, rfl, ?_⟩
    refine ⟨_, 4, su_same, rfl, ?_⟩
    refine ⟨_, su_same, _, rfl, ?_⟩
    refine ⟨⟨by decide, ?_⟩, ?_⟩
    · exact pow3_ok h3 h4
    refine ⟨_, su_same, _, rfl, ?_⟩
    refine ⟨mul_l ⟨by decide, by decide⟩, ?_⟩
    refine ⟨_, su_same, _, rfl, ?_⟩
    refine ⟨mul_l ⟨by decide, by decide⟩, ?_⟩
    refine ⟨show (0 : Int) < 2147483647 by decide, ?_⟩
    refine ⟨_, 3, su_same, rfl, ?_⟩
    refine ⟨mul_r ⟨by decide, by decide⟩, ?_⟩
    refine ⟨_, su_same, _, rfl, ?_⟩
    refine ⟨⟨by decide, by decide⟩, ?_⟩
    refine ⟨_, _, rfl, _, ?_, by rw [su_su, su_su]⟩
    exact ⟨cells, a1, l1, _, c1 + 1, rfl, hc, h1, h2, Int.emod_nonneg _ (by decide), Int.emod_lt_of_pos _ (by decide)⟩
  · rintro ρ' S' ⟨f, o, rfl, hB⟩
    refine ⟨hm, ?_⟩
    exact hk _ _ (Int.emod_nonneg _ (by omega)) (Int.emod_lt_of_pos _ hm) hB

-- ==FN law_draw

theorem ok_law_draw {P : Program} {w : World} {K : PySem.W.Frag} {mg : Str → Option Value} {base : Heap} {a : Ad} (T : Tx K w mg a) : FnD P w K mg base 2 a.f_law_draw a.d_law_draw ["bag", "many"] R_law_draw := by
  refine fnD2 (k := 1) T.F_law_draw sc_law_draw rfl (fun cdv A outer s H E c => (dss_cons (ds_if (dt_w (dw_and (dt_rel c.eq (de_ix (de_var 0) de_int) de_int) (dw_and1 (dt_rel .lt (de_ix (de_var 0) de_int) (de_len T.n_len (da_cons (de_ix (de_var 0) de_int) da_nil)))))) (dss_cons (ds_setL (de_var 0) de_int (de_ix (de_ix (de_var 0) de_int) (de_ix (de_var 0) de_int))) (dss_one (ds_setL (de_var 0) de_int (de_add (de_ix (de_var 0) de_int) de_int)))) (dss_one (ds_if (dt_rel c.eq (de_ix (de_var 0) de_int) de_int) (dss_one (ds_ret (de_call c (ok_law_stirred T) (by decide) T.g_law_stirred T.F_law_stirred.kp T.b_law_stirred (da_cons (de_var 0) (da_cons (de_var 1) da_nil))))) dss_nil))) (dss_cons (ds_set 2 c.nd (de_mod (de_ix (de_var 0) de_int) (de_var 1))) (dss_cons (ds_setL (de_var 0) de_int (de_fdiv (de_ix (de_var 0) de_int) (de_var 1))) (dss_one (ds_ret (de_var 2))))))) ?_
  intro x y S Φ Ω h
  obtain ⟨b, m, rfl, rfl, hm, hm2, ⟨xs, hb, hx⟩, hk⟩ := h
  obtain ⟨cells, a1, l1, s1, c1, rfl, hc, h1, h2, h3, h4⟩ := hx
  have tail : ∀ (l2 a2 : Int) (S2 : Store), 0 ≤ l2 → 0 ≤ a2 → S2 b = some (.lst [.lst (cells.map .int), .int a2, .int l2, .int s1, .int c1]) → (∀ m, su S2 b m = su S b m) →
      xSeq (xAsg (xOp (fI (fun _ j => 0 < j) fun i j => i % j) (xOp fIx (xVar 0) (xC (.int 2))) (xVar 1)) (xgN 2)) (xSeq (xSetL (xVar 0) (xC (.int 2)) (xOp (fI CDivW fun i j => i / j) (xOp fIx (xVar 0) (xC (.int 2))) (xVar 1))) (xRet (xVar 2))) (bodyEnds Φ) (fun c fs _ S => Ω c fs S) [some (.ref b), some (.int m), none] S2 := by
    intro l2 a2 S2 hl ha e0 e1
    refine ⟨_, e0, _, rfl, ?_⟩
    refine ⟨hm, ?_⟩
    refine ⟨_, e0, _, rfl, ?_⟩
    refine ⟨⟨hm, hm2⟩, ?_⟩
    refine ⟨_, 2, e0, rfl, ?_⟩
    exact hk (l2 % m) _ (Int.emod_nonneg _ (by omega)) (Int.emod_lt_of_pos _ hm) ⟨[.lst (cells.map .int), .int a2, .int (l2 / m), .int s1, .int c1], ⟨cells, a2, l2 / m, s1, c1, rfl, hc, ha, Int.ediv_nonneg hl (by omega), h3, h4⟩, e1 _⟩
  refine ⟨_, hb, _, rfl, ?_⟩
  refine br (fun e => ?_) (fun e => ?_)
  · have e : l1 = 0 := eqT e
    subst e
    refine ⟨_, hb, _, rfl, ?_⟩
    refine ⟨_, hb, _, rfl, ?_⟩
    refine br (fun e => ?_) (fun e => ?_)
    · have e : a1 < cells.length := by simpa using e
      refine ⟨_, hb, _, rfl, ?_⟩
      refine ⟨_, hb, _, rfl, ?_⟩
      have e1 : a1.toNat < cells.length := by omega
      refine ⟨.int (cells[a1.toNat]), ?_, ?_⟩
      · exact atI_at h1 (by rw [List.getElem?_map, List.getElem?_eq_getElem e1]; rfl)
      refine ⟨_, 2, hb, rfl, ?_⟩
      refine ⟨_, su_same, _, rfl, ?_⟩
      refine ⟨_, 1, su_same, rfl, ?_⟩
      exact tail _ _ _ (hc _ (List.getElem_mem e1)) (by omega) su_same fun _ => by rw [su_su, su_su]
    · refine ⟨_, hb, _, rfl, ?_⟩
      exact ⟨.ref b, .int m, rfl, b, m, rfl, rfl, hm, hm2, ⟨_, hb, cells, a1, 0, s1, c1, rfl, hc, h1, h2, h3, h4⟩, hk⟩
  · have e : l1 ≠ 0 := eqF e
    refine ⟨_, hb, _, rfl, ?_⟩
    refine brF (by simpa using e) ?_
    exact tail l1 a1 S h2 h1 hb fun _ => rfl

-- ==FN law_name

theorem ok_law_name {P : Program} {w : World} {K : PySem.W.Frag} {mg : Str → Option Value} {base : Heap} {a : Ad} (T : Tx K w mg a) : FnD P w K mg base 3 a.f_law_name a.d_law_name ["bag"] R_law_name := by
  refine fnD1 (k := 2) T.F_law_name sc_law_name rfl (fun cdv A outer s H E c => (dss_cons (ds_set 1 c.nd (de_call c (ok_law_draw T) (by decide) T.g_law_draw T.F_law_draw.kp T.b_law_draw (da_cons (de_var 0) (da_cons de_int da_nil)))) (dss_cons (ds_if (dt_rel c.eq (de_var 1) de_int) (dss_one (ds_ret (de_ix de_str (de_call c (ok_law_draw T) (by decide) T.g_law_draw T.F_law_draw.kp T.b_law_draw (da_cons (de_var 0) (da_cons de_int da_nil)))))) dss_nil) (dss_cons (ds_if (dt_rel c.eq (de_var 1) de_int) (dss_one (ds_ret (de_ix (de_lst (da_cons de_str (da_cons de_str (da_cons de_str (da_cons de_str (da_cons de_str (da_cons de_str (da_cons de_str (da_cons de_str (da_cons de_str da_nil)))))))))) (de_call c (ok_law_draw T) (by decide) T.g_law_draw T.F_law_draw.kp T.b_law_draw (da_cons (de_var 0) (da_cons de_int da_nil)))))) dss_nil) (dss_cons (ds_if (dt_rel c.eq (de_var 1) de_int) (dss_one (ds_ret (de_sl de_str (do_some (de_call c (ok_law_draw T) (by decide) T.g_law_draw T.F_law_draw.kp T.b_law_draw (da_cons (de_var 0) (da_cons de_int da_nil)))) do_none))) dss_nil) (dss_one (ds_ret (de_join de_str (de_lc (own := [("k", 2)]) c (di_range1 T.n_range (da_cons (de_add de_int (de_call c (ok_law_draw T) (by decide) T.g_law_draw T.F_law_draw.kp T.b_law_draw (da_cons (de_var 0) (da_cons de_int da_nil)))) da_nil)) (blkOk_by (N := ["bag", "way", "k"]) (sc := defScope s_law_name) (by decide +kernel)) (dgx_name (i := 2) c.nd (fun _ _ _ _ _ => rfl) (fun _ _ _ _ _ => by first | exact Or.inl rfl | exact Or.inr rfl) (fun _ _ _ _ _ => by first | exact .inl rfl | exact .inr rfl) (by decide)) (fun _ _ _ _ _ => dts_nil) (fun _ _ _ _ _ => (de_ix de_str (de_call c.blk (ok_law_draw T) (by decide) T.g_law_draw T.F_law_draw.kp T.b_law_draw (da_cons (de_var 0) (da_cons de_int da_nil)))))))))))))) ?_
  rintro _ S Φ Ω ⟨b, rfl, hB, hk⟩
  refine ⟨_, _, rfl, b, 4, rfl, rfl, by decide, by decide, hB, fun k S1 k0 k1 t1 => ?_⟩
  refine br (fun e => ?_) (fun e => ?_)
  · refine ⟨_, _, rfl, b, 3, rfl, rfl, by decide, by decide, t1.bag, fun j S2 j0 j1 t2 => ?_⟩
    obtain ⟨c, hc, hm⟩ := atI_ex (xs := cl "abz") j0 (show j < ((cl "abz").length : Int) from j1)
    refine ⟨show (Str.ofString "abz").length ≤ sizeLine by decide, c, hc, ?_⟩
    refine hk _ S2 (t1.trans t2) ⟨_, rfl, Nat.le_refl _, show 1 ≤ 8 by decide, fun x hx => ?_⟩
    have : x = c := by simpa [cl] using hx
    subst this
    exact (show ∀ y ∈ cl "abz", 97 ≤ y ∧ y ≤ 122 by decide) _ hm
  refine br (fun e => ?_) (fun e => ?_)
  · refine ⟨show 9 ≤ sizeLine by decide, ?_⟩
    refine ⟨_, _, rfl, b, 9, rfl, rfl, by decide, by decide, t1.bag, fun j S2 j0 j1 t2 => ?_⟩
    obtain ⟨s, hs, hm⟩ := nine_ex j0 j1
    refine ⟨_, hs, ?_⟩
    exact hk _ S2 (t1.trans t2) ⟨_, rfl, hm⟩
  refine br (fun e => ?_) (fun e => ?_)
  · refine ⟨_, _, rfl, b, 8, rfl, rfl, by decide, by decide, t1.bag, fun j S2 j0 j1 t2 => ?_⟩
    refine ⟨show (Str.ofString "aaaaaaab").length ≤ sizeLine by decide, ?_⟩
    refine hk _ S2 (t1.trans t2) ⟨_, rfl, ?_⟩
    exact tail_ok j0 j1
  · refine ⟨trivial, ?_⟩
    refine ⟨_, _, rfl, b, 8, rfl, rfl, by decide, by decide, t1.bag, fun j S2 j0 j1 t2 => ?_⟩
    have t12 := t1.trans t2
    refine ⟨⟨show -(2 ^ 62) ≤ 1 + j by omega, show 1 + j < 2 ^ 62 by omega⟩, ?_⟩
    intro p hp
    have np : p ≠ b := t2.bag.ne hp
    refine ⟨fun i acc S' => ∃ S3, BS S b S3 ∧ S' = su S3 p (.lst acc) ∧ acc.length = i ∧ ∃ l : List Str, acc = l.map .str ∧ ∀ x ∈ l, ∃ c, cl x = [c] ∧ 97 ≤ c ∧ c ≤ 122, ?_, ?_, ?_, ?_⟩
    · exact ⟨S2, t12, rfl, rfl, [], rfl, by simp⟩
    · rintro i acc S' ⟨S3, _, rfl, _⟩
      exact ⟨trivial, su_same⟩
    · rintro i d acc S' hd ⟨S3, t3, rfl, rfl, l, rfl, hl⟩
      have hi := (rngD_get hd).2
      refine ⟨by unfold sizeLine; rw [List.length_map] at hi ⊢; omega, ?_⟩
      refine ⟨_, _, rfl, b, 26, rfl, rfl, by decide, by decide, t3.bag.su np, fun k S4 k0 k1 t4 => ?_⟩
      obtain ⟨S5, t5, rfl⟩ := t4.unsu np
      obtain ⟨c, hc, hm⟩ := atI_ex (xs := cl "abcdefghijklmnopqrstuvwxyz") k0 (show k < ((cl "abcdefghijklmnopqrstuvwxyz").length : Int) from k1)
      refine ⟨show (Str.ofString "abcdefghijklmnopqrstuvwxyz").length ≤ sizeLine by decide, c, hc, ?_⟩
      refine ⟨su_same, S5, t3.trans t5, su_su, by simp, l ++ [⟨#[c]⟩], by simp, fun x hx => ?_⟩
      rw [List.mem_append, List.mem_singleton] at hx
      rcases hx with hx | rfl
      · exact hl x hx
      · exact ⟨c, rfl, (show ∀ y ∈ cl "abcdefghijklmnopqrstuvwxyz", 97 ≤ y ∧ y ≤ 122 by decide) _ hm⟩
    · rintro acc S' ⟨S3, t3, rfl, hlen, l, rfl, hl⟩
      rw [sdel_su (t3.sane np (t12.none hp))]
      rw [rngD_len, List.length_map] at hlen
      have hfl : (l.map cl).flatten.length = l.length ∧ ∀ c ∈ (l.map cl).flatten, 97 ≤ c ∧ c ≤ 122 := ones_ok hl
      refine ⟨isSt_map l, ?_, ?_⟩
      · rw [sDl_map, ones_len hl, List.length_map]
        show l.length + l.length * 0 ≤ _
        omega
      refine hk _ S3 t3 ⟨_, rfl, ?_⟩
      unfold NameOk
      rw [sD_map, cl_join0 (by decide), hfl.1]
      exact ⟨by omega, by omega, hfl.2⟩

-- ==FN law_leaf

def R_law_leaf : Fsp := R2d fun x y S Φ Ω => ∃ (b : Addr) (ns : List Str), x = .ref b ∧ y = .lst (ns.map .str) ∧ BagAt S b ∧ 0 < ns.length ∧ ns.length ≤ 60 ∧ (∀ n ∈ ns, NameOk n) ∧ ∀ (w : Wd) S', BS S b S' → w.Ok → w.lv = 1 → w.dp = 1 → Φ w.d S'
theorem leaf3 {h n : Str} (hh : h ∈ ["name", "name", "back"].map Str.ofString) (hn : NameOk n) : ∃ w : Wd, w.d = .tup [.str h, .str n] ∧ w.Ok ∧ w.lv = 1 ∧ w.dp = 1 := by
  simp only [List.map_cons, List.map_nil, List.mem_cons, List.not_mem_nil, or_false] at hh
  rcases hh with rfl | rfl | rfl
  · exact ⟨.nm n, rfl, hn, rfl, rfl⟩
  · exact ⟨.nm n, rfl, hn, rfl, rfl⟩
  · exact ⟨.bk n, rfl, hn, rfl, rfl⟩
theorem leaf6 {d : Dt} (hd : d ∈ [Wd.any, .any, .anyback, .empty, .empty, .non].map Wd.d) : ∃ w : Wd, w.d = d ∧ w.Ok ∧ w.lv = 1 ∧ w.dp = 1 := by
  obtain ⟨w, hw, rfl⟩ := List.mem_map.mp hd
  refine ⟨w, rfl, ?_⟩
  simp only [List.mem_cons, List.not_mem_nil, or_false] at hw
  rcases hw with rfl | rfl | rfl | rfl | rfl | rfl <;> exact ⟨trivial, rfl, rfl⟩
theorem ok_law_leaf {P : Program} {w : World} {K : PySem.W.Frag} {mg : Str → Option Value} {base : Heap} {a : Ad} (T : Tx K w mg a) : FnD P w K mg base 3 a.f_law_leaf a.d_law_leaf ["bag", "names"] R_law_leaf := by
  refine fnD2 (k := 2) T.F_law_leaf sc_law_leaf rfl (fun cdv A outer s H E c => (dss_cons (ds_set 2 c.nd (de_call c (ok_law_draw T) (by decide) T.g_law_draw T.F_law_draw.kp T.b_law_draw (da_cons (de_var 0) (da_cons de_int da_nil)))) (dss_cons (ds_if (dt_rel .lt (de_var 2) de_int) (dss_one (ds_ret (de_tup (da_cons (de_ix (de_lst (da_cons de_str (da_cons de_str (da_cons de_str da_nil)))) (de_call c (ok_law_draw T) (by decide) T.g_law_draw T.F_law_draw.kp T.b_law_draw (da_cons (de_var 0) (da_cons de_int da_nil)))) (da_cons (de_ix (de_var 1) (de_call c (ok_law_draw T) (by decide) T.g_law_draw T.F_law_draw.kp T.b_law_draw (da_cons (de_var 0) (da_cons (de_len T.n_len (da_cons (de_var 1) da_nil)) da_nil)))) da_nil))))) dss_nil) (dss_one (ds_ret (de_ix (de_lst (da_cons (de_tup (da_cons de_str da_nil)) (da_cons (de_tup (da_cons de_str da_nil)) (da_cons (de_tup (da_cons de_str da_nil)) (da_cons (de_tup (da_cons de_str da_nil)) (da_cons (de_tup (da_cons de_str da_nil)) (da_cons (de_tup (da_cons de_str da_nil)) da_nil))))))) (de_sub (de_var 2) de_int))))))) ?_
  rintro _ _ S Φ Ω ⟨b, ns, rfl, rfl, hB, h0, h60, hn, hk⟩
  refine ⟨_, _, rfl, b, 16, rfl, rfl, by decide, by decide, hB, fun k S1 k0 k1 t1 => ?_⟩
  refine br (fun e => ?_) (fun e => ?_)
  · refine ⟨show 3 ≤ sizeLine by decide, ?_⟩
    refine ⟨_, _, rfl, b, 3, rfl, rfl, by decide, by decide, t1.bag, fun j S2 j0 j1 t2 => ?_⟩
    obtain ⟨h, h1, h2⟩ := atI_ex (xs := ["name", "name", "back"].map Str.ofString) j0 j1
    refine ⟨.str h, atI_map (f := Dt.str) h1, ?_⟩
    refine ⟨_, _, rfl, b, _, rfl, rfl, ?_, ?_, (t1.trans t2).bag, fun i S3 i0 i1 t3 => ?_⟩
    · rw [List.length_map]; omega
    · rw [List.length_map]; exact Nat.lt_trans (log2_lt (k := 7) (by decide) (by omega)) (by decide)
    rw [List.length_map] at i1
    obtain ⟨n, n1, n2⟩ := atI_ex i0 i1
    refine ⟨.str n, atI_map n1, ?_⟩
    refine ⟨show 2 ≤ sizeLine by decide, ?_⟩
    obtain ⟨w, e1, e2, e3, e4⟩ := leaf3 h2 (hn n n2)
    have z := hk w S3 ((t1.trans t2).trans t3) e2 e3 e4
    rw [e1] at z
    exact z
  · have e : 10 ≤ k := by simpa using e
    refine ⟨show 1 ≤ sizeLine by decide, ?_⟩
    refine ⟨show 1 ≤ sizeLine by decide, ?_⟩
    refine ⟨show 1 ≤ sizeLine by decide, ?_⟩
    refine ⟨show 1 ≤ sizeLine by decide, ?_⟩
    refine ⟨show 1 ≤ sizeLine by decide, ?_⟩
    refine ⟨show 1 ≤ sizeLine by decide, ?_⟩
    refine ⟨show 6 ≤ sizeLine by decide, ?_⟩
    obtain ⟨d, d1, d2⟩ := atI_ex (xs := [Wd.any, .any, .anyback, .empty, .empty, .non].map Wd.d) (i := k - 10) (by omega) (show k - 10 < 6 by omega)
    refine ⟨d, d1, ?_⟩
    obtain ⟨w, rfl, e2, e3, e4⟩ := leaf6 d2
    exact hk w S1 t1 e2 e3 e4

-- ==FN law_word

def R_law_word : Fsp := fun ds S Φ Ω => ∃ (b : Addr) (ns : List Str) (many deep : Int), ds = [.ref b, .lst (ns.map .str), .int many, .int deep] ∧ BagAt S b ∧ 0 < ns.length ∧ ns.length ≤ 60 ∧ (∀ n ∈ ns, NameOk n) ∧ 1 ≤ many ∧ many ≤ 60 ∧ 7 ≤ deep ∧ deep ≤ 100 ∧ ∀ (w : Wd) S', BX S b S' → w.Ok → w.lv ≤ many → w.dp ≤ deep → Φ w.d S'
theorem law_word_len : ∀ ds S Φ Ω, R_law_word ds S Φ Ω → ds.length = 4 := fun ds S Φ Ω ⟨b, ns, many, deep, e, _⟩ => by rw [e]; rfl
def pe1 (q : Wd × Int) : Dt := .tup [q.1.d, .int q.2]
def slv (l : List (Wd × Int)) : Nat := (l.map fun q => q.1.lv).sum
def QOk (D : Int) (q : Wd × Int) : Prop := q.1.Ok ∧ (q.1.dp : Int) ≤ q.2 ∧ q.2 ≤ D
theorem slv_nil : slv [] = 0 := rfl
theorem slv_cons {q : Wd × Int} {l : List (Wd × Int)} : slv (q :: l) = q.1.lv + slv l := by unfold slv; rw [List.map_cons, List.sum_cons]
theorem slv_app {l m : List (Wd × Int)} : slv (l ++ m) = slv l + slv m := by unfold slv; rw [List.map_append, List.sum_append]
theorem slv_split (l : List (Wd × Int)) (i : Nat) : slv (l.take i) + slv (l.drop i) = slv l := by rw [← slv_app, List.take_append_drop]
theorem slv_set {l : List (Wd × Int)} {j : Nat} {q r : Wd × Int} (hj : l[j]? = some q) (hv : r.1.lv = q.1.lv) : slv (l.set j r) = slv l := by
  unfold slv
  congr 1
  apply List.ext_getElem?
  intro k
  rw [List.getElem?_map, List.getElem?_map]
  by_cases e : j = k
  · subst e
    have hl := (List.getElem?_eq_some_iff.mp hj).1
    rw [List.getElem?_set_self hl, hj]
    simp [hv]
  · rw [List.getElem?_set_ne e]
theorem slv_cut {l : List (Wd × Int)} {i : Nat} {q q2 r : Wd × Int} (h1 : l[i]? = some q) (h2 : l[i + 1]? = some q2) (hv : r.1.lv = q.1.lv + q2.1.lv) : slv (l.take i ++ [r] ++ l.drop (i + 2)) = slv l := by
  have hl := (List.getElem?_eq_some_iff.mp h2)
  have hl1 := (List.getElem?_eq_some_iff.mp h1)
  obtain ⟨a1, b1⟩ := hl
  obtain ⟨a2, b2⟩ := hl1
  rw [show i + 2 = i + 1 + 1 from rfl, ← slv_split l i, slv_app, slv_app, slv_cons, slv_nil, List.drop_eq_getElem_cons a2, slv_cons, List.drop_eq_getElem_cons a1, slv_cons, b1, b2, hv]
  omega
theorem mem_set_or {α : Type} {l : List α} {j : Nat} {r x : α} (h : x ∈ l.set j r) : x ∈ l ∨ x = r := List.mem_or_eq_of_mem_set h
theorem un_word {k : Int} {x : Wd} (h0 : 0 ≤ k) (h3 : k < 3) : ∃ (h : Str) (w : Wd), atI ([Dt.str "again", Dt.str "more", Dt.str "maybe"]) k = some (.str h) ∧ w.d = .tup [.str h, x.d] ∧ (x.Ok → w.Ok) ∧ w.lv = x.lv ∧ w.dp = 1 + x.dp := by
  have : k = 0 ∨ k = 1 ∨ k = 2 := by omega
  rcases this with rfl | rfl | rfl
  · exact ⟨"again", .again x, rfl, rfl, id, rfl, rfl⟩
  · exact ⟨"more", .more x, rfl, rfl, id, rfl, rfl⟩
  · exact ⟨"maybe", .maybe x, rfl, rfl, id, rfl, rfl⟩
theorem bi_word {k : Int} {x y : Wd} (h0 : 0 ≤ k) (h3 : k < 3) : ∃ (h : Str) (w : Wd), atI ([Dt.str "then", Dt.str "then", Dt.str "or"]) k = some (.str h) ∧ w.d = .tup [.str h, x.d, y.d] ∧ (x.Ok → y.Ok → w.Ok) ∧ w.lv = x.lv + y.lv ∧ w.dp = 1 + max x.dp y.dp := by
  have : k = 0 ∨ k = 1 ∨ k = 2 := by omega
  rcases this with rfl | rfl | rfl
  · exact ⟨"then", .thn x y, rfl, rfl, And.intro, rfl, rfl⟩
  · exact ⟨"then", .thn x y, rfl, rfl, And.intro, rfl, rfl⟩
  · exact ⟨"or", .orr x y, rfl, rfl, And.intro, rfl, rfl⟩
theorem bi_word2 {k : Int} {x y : Wd} (h0 : 0 ≤ k) (h3 : k < 2) : ∃ (h : Str) (w : Wd), atI ([Dt.str "then", Dt.str "or"]) k = some (.str h) ∧ w.d = .tup [.str h, x.d, y.d] ∧ (x.Ok → y.Ok → w.Ok) ∧ w.lv = x.lv + y.lv ∧ w.dp = 1 + max x.dp y.dp := by
  have : k = 0 ∨ k = 1 := by omega
  rcases this with rfl | rfl
  · exact ⟨"then", .thn x y, rfl, rfl, And.intro, rfl, rfl⟩
  · exact ⟨"or", .orr x y, rfl, rfl, And.intro, rfl, rfl⟩
theorem rg2 {n : Int} (h0 : 1 ≤ n) (h : n < 2 ^ 40) : RgC 0 n 2 ((n + 1) / 2).toNat := by
  have e : Builtin.Range.rangeSize 0 n 2 = (n + 1) / 2 := by
    unfold Builtin.Range.rangeSize
    rw [if_pos (by decide), if_pos (by omega)]; omega
  refine ⟨by decide, by decide, ?_, by rw [e]; omega⟩
  unfold Builtin.Range.small
  rw [e]
  simp only [Builtin.Range.rangeFitsLong, Bool.and_eq_true, Bool.or_eq_true, decide_eq_true_eq, beq_iff_eq, show (2 : Int) > 0 by decide, if_true]
  omega
theorem rngC_get {lo c : Int} {n i : Nat} {d : Dt} (h : (rngC lo c n)[i]? = some d) : d = .int (lo + i * c) ∧ i < n := by
  unfold rngC at h
  rw [List.getElem?_map] at h
  cases e : (List.range n)[i]? with
  | none => rw [e] at h; cases h
  | some j =>
    rw [e] at h
    obtain ⟨hl, e⟩ := List.getElem?_eq_some_iff.mp e
    rw [List.length_range] at hl
    rw [List.getElem_range] at e
    subst e
    exact ⟨(Option.some.inj h).symm, hl⟩
theorem rngC_len {lo c : Int} {n : Nat} : (rngC lo c n).length = n := by unfold rngC; rw [List.length_map, List.length_range]
theorem mx {i j : Int} : (if j > i then j else i) = max i j := by
  split <;> omega
theorem pw_half (r len : Nat) (h : len ≤ 2 ^ (6 - r)) (h1 : 1 < len) : r < 6 ∧ len / 2 + len % 2 ≤ 2 ^ (6 - (r + 1)) := by
  have hr : r < 6 := by
    rcases Nat.lt_or_ge r 6 with h2 | h2
    · exact h2
    · rw [Nat.sub_eq_zero_of_le h2] at h; omega
  refine ⟨hr, ?_⟩
  have e : 6 - r = (6 - (r + 1)) + 1 := by omega
  rw [e, Nat.pow_succ] at h
  omega
theorem bag_not {l : List (Wd × Int)} : ¬ BagOk (l.map pe1) := by
  rintro ⟨cells, a, l', s, c, e, _⟩
  cases l with
  | nil => cases e
  | cons q r => cases e
theorem ok_law_word {P : Program} {w : World} {K : PySem.W.Frag} {mg : Str → Option Value} {base : Heap} {a : Ad} (T : Tx K w mg a) : FnD P w K mg base 4 a.f_law_word a.d_law_word ["bag", "names", "many", "deep"] R_law_word := by
  refine fnD (k := 3) T.F_law_word sc_law_word law_word_len (fun cdv A outer s H E c => (dss_cons (ds_setLcM (i := 4) (own := [("k", 5)]) c (sw_true rfl rfl rfl (by decide +kernel)) (di_range1 T.n_range (da_cons (de_var 2) da_nil)) (blkOk_by (N := ["bag", "names", "many", "deep", "parts", "k", "at", "way", "word", "low", "both", "closer", "head"]) (sc := defScope s_law_word) (by decide +kernel)) (dgx_name (i := 5) c.nd (fun _ _ _ _ _ => rfl) (fun _ _ _ _ _ => by first | exact Or.inl rfl | exact Or.inr rfl) (fun _ _ _ _ _ => by first | exact .inl rfl | exact .inr rfl) (by decide)) (fun _ _ _ _ _ => dts_nil) (fun _ _ _ _ _ => (de_tup (da_cons (de_call c.blk (ok_law_leaf T) (by decide) T.g_law_leaf T.F_law_leaf.kp T.b_law_leaf (da_cons (de_var 0) (da_cons (de_var 1) da_nil))) (da_cons de_int da_nil))))) (dss_cons (ds_for c (di_range1 T.n_range (da_cons (de_call c (ok_law_draw T) (by decide) T.g_law_draw T.F_law_draw.kp T.b_law_draw (da_cons (de_var 0) (da_cons (de_add (de_mul de_int (de_var 2)) de_int) da_nil))) da_nil)) (dg_name (i := 5) c.nd) (dss_cons (ds_set 6 c.nd (de_call c (ok_law_draw T) (by decide) T.g_law_draw T.F_law_draw.kp T.b_law_draw (da_cons (de_var 0) (da_cons (de_len T.n_len (da_cons (de_var 4) da_nil)) da_nil)))) (dss_cons (ds_set 7 c.nd (de_call c (ok_law_draw T) (by decide) T.g_law_draw T.F_law_draw.kp T.b_law_draw (da_cons (de_var 0) (da_cons de_int da_nil)))) (dss_cons (ds_asg (de_ix (de_var 4) (de_var 6)) (dg_tup (n := 2) c.calm (dgs_cons (dg_name (i := 8) c.nd) (dgs_cons (dg_name (i := 9) c.nd) dgs_nil)))) (dss_one (ds_if (dt_w (dw_and (dt_rel .lt (de_var 7) de_int) (dw_and1 (dt_rel .lt (de_var 9) (de_sub (de_var 3) de_int))))) (dss_one (ds_setL (de_var 4) (de_var 6) (de_tup (da_cons (de_tup (da_cons (de_ix (de_lst (da_cons de_str (da_cons de_str (da_cons de_str da_nil)))) (de_var 7)) (da_cons (de_var 8) da_nil))) (da_cons (de_add (de_var 9) de_int) da_nil))))) (dss_one (ds_if (dt_w (dw_and (dt_rel .gt (de_var 7) de_int) (dw_and (dt_rel .lt (de_add (de_var 6) de_int) (de_len T.n_len (da_cons (de_var 4) da_nil))) (dw_and1 (dt_rel .lt (de_callB (call_max2 c.calm) simMax2 T.n_max (by decide +kernel) (da_cons (de_var 9) (da_cons (de_ix (de_ix (de_var 4) (de_add (de_var 6) de_int)) de_int) da_nil))) (de_sub (de_var 3) de_int)))))) (dss_cons (ds_set 10 c.nd (de_tup (da_cons (de_ix (de_lst (da_cons de_str (da_cons de_str (da_cons de_str da_nil)))) (de_sub (de_var 7) de_int)) (da_cons (de_var 8) (da_cons (de_ix (de_ix (de_var 4) (de_add (de_var 6) de_int)) de_int) da_nil))))) (dss_one (ds_setSl (de_var 4) (de_var 6) (de_add (de_var 6) de_int) (de_lst (da_cons (de_tup (da_cons (de_var 10) (da_cons (de_add de_int (de_callB (call_max2 c.calm) simMax2 T.n_max (by decide +kernel) (da_cons (de_var 9) (da_cons (de_ix (de_ix (de_var 4) (de_add (de_var 6) de_int)) de_int) da_nil)))) da_nil))) da_nil))))) dss_nil)))))))) (dss_cons (ds_while c (dt_rel .gt (de_len T.n_len (da_cons (de_var 4) da_nil)) de_int) (dss_cons (ds_set 11 c.nd (de_lstM da_nil)) (dss_cons (ds_for c (di_range3 T.n_range (da_cons de_int (da_cons (de_sub (de_len T.n_len (da_cons (de_var 4) da_nil)) de_int) (da_cons de_int da_nil)))) (dg_name (i := 5) c.nd) (dss_cons (ds_set 12 c.nd (de_ix (de_lst (da_cons de_str (da_cons de_str da_nil))) (de_call c (ok_law_draw T) (by decide) T.g_law_draw T.F_law_draw.kp T.b_law_draw (da_cons (de_var 0) (da_cons de_int da_nil))))) (dss_one (ds_expr (de_append (de_var 11) (da_cons (de_tup (da_cons (de_tup (da_cons (de_var 12) (da_cons (de_ix (de_ix (de_var 4) (de_var 5)) de_int) (da_cons (de_ix (de_ix (de_var 4) (de_add (de_var 5) de_int)) de_int) da_nil)))) (da_cons (de_add de_int (de_callB (call_max2 c.calm) simMax2 T.n_max (by decide +kernel) (da_cons (de_ix (de_ix (de_var 4) (de_var 5)) de_int) (da_cons (de_ix (de_ix (de_var 4) (de_add (de_var 5) de_int)) de_int) da_nil)))) da_nil))) da_nil)))))) (dss_one (ds_set 4 c.nd (de_addM (de_var 11) (de_sl (de_var 4) (do_some (de_sub (de_len T.n_len (da_cons (de_var 4) da_nil)) (de_mod (de_len T.n_len (da_cons (de_var 4) da_nil)) de_int))) do_none))))))) (dss_one (ds_ret (de_ix (de_ix (de_var 4) de_int) de_int))))))) ?_
  rintro _ S Φ Ω ⟨b, ns, many, deep, rfl, hB, h0, h60, hn, m1, m60, d7, d100, hk⟩
  refine ⟨⟨by omega, by omega⟩, ?_⟩
  intro p hp
  have np : p ≠ b := hB.ne hp
  refine ⟨fun i acc S' => BX S b S' ∧ S' p = some (.lst acc) ∧ ∃ l : List (Wd × Int), acc = l.map pe1 ∧ l.length = i ∧ slv l = i ∧ ∀ q ∈ l, QOk (deep - 6) q, ?_, ?_, ?_, ?_⟩
  · exact ⟨(BX.refl hB).su np hp, su_same, [], rfl, rfl, rfl, by simp⟩
  · rintro i acc S' ⟨_, h, _⟩
    exact ⟨trivial, h⟩
  · rintro i d acc S' hd ⟨hX, hP, l, rfl, rfl, hs, hq⟩
    have hi := (rngD_get hd).2
    refine ⟨by rw [List.length_map]; unfold sizeLine; omega, ?_⟩
    refine ⟨_, _, rfl, b, ns, rfl, rfl, hX.bag, h0, h60, hn, fun w S2 t2 w1 w2 w3 => ?_⟩
    refine ⟨show 2 ≤ sizeLine by decide, ?_⟩
    refine ⟨(t2.ne np).trans hP, (hX.trans t2.bx).su np hp, su_same, l ++ [(w, 1)], by rw [List.map_append]; rfl, by simp, ?_, fun q h => ?_⟩
    · rw [slv_app, hs, slv_cons, slv_nil, w2]
    · rw [List.mem_append, List.mem_singleton] at h
      rcases h with h | rfl
      · exact hq q h
      · exact ⟨w1, by show (w.dp : Int) ≤ 1; omega, by show (1 : Int) ≤ deep - 6; omega⟩
  rintro _ S1 ⟨hX, hP, l, rfl, hl, hs, hq⟩
  rw [rngD_len] at hl hs
  refine ⟨mul_l ⟨by decide, by decide⟩, ?_⟩
  refine ⟨_, _, rfl, b, 3 * many + 2, rfl, rfl, by omega, ?_, hX.bag, fun j S2 j0 j1 t2 => ?_⟩
  · exact Nat.lt_trans (log2_lt (k := 8) (by decide) (by omega)) (by decide)
  refine ⟨⟨by omega, by omega⟩, ?_⟩
  refine ⟨fun i ρ' S' => ∃ (l : List (Wd × Int)) (o5 o6 o7 o8 o9 o10 : Option Dt), BX S b S' ∧ S' p = some (.lst (l.map pe1)) ∧ 0 < l.length ∧ l.length ≤ 60 ∧ slv l ≤ many.toNat ∧ (∀ q ∈ l, QOk (deep - 6) q) ∧ ρ' = [some (.ref b), some (.lst (ns.map .str)), some (.int many), some (.int deep), some (.ref p), o5, o6, o7, o8, o9, o10, none, none], ?_, fun _ _ _ _ => trivial, ?_, ?_⟩
  · exact ⟨l, none, none, none, none, none, none, hX.trans t2.bx, (t2.ne np).trans hP, by omega, by omega, by omega, hq, rfl⟩
  · rintro i d _ S3 hd ⟨l, o5, o6, o7, o8, o9, o10, hX, hP, l0, l60, hs, hq, rfl⟩
    refine ⟨_, hP, ?_⟩
    refine ⟨_, _, rfl, b, _, rfl, rfl, ?_, ?_, hX.bag, fun i1 S4 i10 i11 t4 => ?_⟩
    · rw [List.length_map]; omega
    · rw [List.length_map]; exact Nat.lt_trans (log2_lt (k := 8) (by decide) (by omega)) (by decide)
    rw [List.length_map] at i11
    refine ⟨_, _, rfl, b, 6, rfl, rfl, by decide, by decide, t4.bag, fun wy S5 w0 w6 t5 => ?_⟩
    have t45 := t4.trans t5
    have hP5 : S5 p = some (.lst (l.map pe1)) := (t45.ne np).trans hP
    have hX5 := hX.trans t45.bx
    have il : i1.toNat < l.length := by omega
    have hat : l[i1.toNat]? = some l[i1.toNat] := List.getElem?_eq_getElem il
    refine ⟨_, hP5, _, atI_map (atI_at i10 hat), ?_⟩
    have hqq := hq _ (List.getElem_mem il)
    generalize l[i1.toNat] = q at hat hqq ⊢
    obtain ⟨x, lo⟩ := q
    obtain ⟨q1, q2, q3⟩ := hqq
    refine ⟨rfl, ?_⟩
    have hj : ixN (l.map pe1).length i1 = some i1.toNat := by
      unfold ixN
      rw [List.length_map, if_pos i10, if_pos i11]
    have hnone : ∃ (l' : List (Wd × Int)) (o5 o6 o7 o8 o9 o10 : Option Dt), BX S b S5 ∧ S5 p = some (.lst (l'.map pe1)) ∧ 0 < l'.length ∧ l'.length ≤ 60 ∧ slv l' ≤ many.toNat ∧ (∀ q ∈ l', QOk (deep - 6) q) ∧ ([some (.ref b), some (.lst (ns.map .str)), some (.int many), some (.int deep), some (.ref p), some d, some (.int i1), some (.int wy), some x.d, some (.int lo), o10, none, none] : Ro) = [some (.ref b), some (.lst (ns.map .str)), some (.int many), some (.int deep), some (.ref p), o5, o6, o7, o8, o9, o10, none, none] :=
      ⟨l, _, _, _, _, _, o10, hX5, hP5, l0, l60, hs, hq, rfl⟩
    have hun : ∀ (r : Wd × Int), QOk (deep - 6) r → r.1.lv = x.lv → ∃ (l' : List (Wd × Int)) (o5 o6 o7 o8 o9 o10' : Option Dt), BX S b (su S5 p (.lst ((l.map pe1).set i1.toNat (pe1 r)))) ∧ su S5 p (.lst ((l.map pe1).set i1.toNat (pe1 r))) p = some (.lst (l'.map pe1)) ∧ 0 < l'.length ∧ l'.length ≤ 60 ∧ slv l' ≤ many.toNat ∧ (∀ q ∈ l', QOk (deep - 6) q) ∧ ([some (.ref b), some (.lst (ns.map .str)), some (.int many), some (.int deep), some (.ref p), some d, some (.int i1), some (.int wy), some x.d, some (.int lo), o10, none, none] : Ro) = [some (.ref b), some (.lst (ns.map .str)), some (.int many), some (.int deep), some (.ref p), o5, o6, o7, o8, o9, o10', none, none] := by
      intro r hr hv
      refine ⟨l.set i1.toNat r, _, _, _, _, _, o10, hX5.su np hp, by rw [su_same, List.map_set], by rw [List.length_set]; exact l0, by rw [List.length_set]; exact l60, by rw [slv_set hat hv]; exact hs, fun q h => ?_, rfl⟩
      rcases mem_set_or h with h | rfl
      · exact hq q h
      · exact hr
    refine br (fun e => ?_) (fun e => ?_)
    · have e : wy < 3 := by simpa using e
      refine br (fun e2 => ?_) (fun e2 => ?_)
      · have e2 : lo < deep - 6 := by simpa using e2
        refine ⟨show 3 ≤ sizeLine by decide, ?_⟩
        obtain ⟨h, w, g1, g2, g3, g4, g5⟩ := un_word (x := x) w0 e
        refine ⟨_, g1, ?_⟩
        refine ⟨show 2 ≤ sizeLine by decide, ?_⟩
        refine ⟨show 2 ≤ sizeLine by decide, ?_⟩
        refine ⟨_, _, hP5, hj, ?_⟩
        have z := hun (w, lo + 1) ⟨g3 q1, by have := g5; show (w.dp : Int) ≤ lo + 1; simp only at q2; omega, by show lo + 1 ≤ deep - 6; omega⟩ g4
        unfold pe1 at z
        simp only [g2] at z
        exact z
      · refine brF (by simp; omega) ?_
        refine brF (b := false) rfl ?_
        exact ⟨l, _, _, _, _, _, _, hX5, hP5, l0, l60, hs, hq, rfl⟩
    · have e : 3 ≤ wy := by simpa using e
      refine brF (b := false) rfl ?_
      refine br (fun e2 => ?_) (fun e2 => ?_)
      · refine ⟨_, hP5, ?_⟩
        refine br (fun e3 => ?_) (fun e3 => ?_)
        · have e3 : i1 + 1 < l.length := by simpa using e3
          have il2 : i1.toNat + 1 < l.length := by omega
          have hat2 : l[i1.toNat + 1]? = some l[i1.toNat + 1] := List.getElem?_eq_getElem il2
          have hqq2 := hq _ (List.getElem_mem il2)
          generalize l[i1.toNat + 1] = q2' at hat2 hqq2
          obtain ⟨y, hi⟩ := q2'
          obtain ⟨y1, y2, y3⟩ := hqq2
          have hat2' : atI (l.map pe1) (i1 + 1) = some (.tup [y.d, .int hi]) := atI_map (f := pe1) (d := (y, hi)) (atI_at (by omega) (by rw [show (i1 + 1).toNat = i1.toNat + 1 by omega]; exact hat2))
          refine ⟨_, hP5, _, hat2', ?_⟩
          refine ⟨_, rfl, ?_⟩
          refine br (fun e4 => ?_) (fun e4 => ?_)
          · have e4 : max lo hi < deep - 6 := by
              have := of_decide_eq_true e4
              rw [mx] at this; exact this
            refine ⟨show 3 ≤ sizeLine by decide, ?_⟩
            obtain ⟨h, w, g1, g2, g3, g4, g5⟩ := bi_word (k := wy - 3) (x := x) (y := y) (by omega) (by omega)
            refine ⟨_, g1, ?_⟩
            refine ⟨_, hP5, _, hat2', ?_⟩
            refine ⟨_, rfl, ?_⟩
            refine ⟨show 3 ≤ sizeLine by decide, ?_⟩
            refine ⟨_, hP5, _, hat2', ?_⟩
            refine ⟨_, rfl, ?_⟩
            refine ⟨show 2 ≤ sizeLine by decide, ?_⟩
            refine ⟨show 1 ≤ sizeLine by decide, ?_⟩
            refine ⟨_, hP5, i10, by omega, ?_, ?_, ?_⟩
            · rw [List.length_map]; omega
            · rw [List.length_map]; show l.length + 1 ≤ sizeLine; unfold sizeLine; omega
            refine ⟨l.take i1.toNat ++ [(w, 1 + max lo hi)] ++ l.drop (i1.toNat + 2), _, _, _, _, _, _, hX5.su np hp, ?_, by simp only [List.length_append, List.length_cons, List.length_nil]; omega, ?_, by rw [slv_cut hat hat2 g4]; exact hs, fun q h => ?_, rfl⟩
            · rw [su_same]
              unfold cutSet
              rw [List.map_append, List.map_append, List.map_take, List.map_drop, show (i1 + 2).toNat = i1.toNat + 2 by omega, mx]
              unfold pe1
              simp only [g2, List.map_cons, List.map_nil]
            · simp only [List.length_append, List.length_take, List.length_drop, List.length_cons, List.length_nil]; omega
            · rw [List.mem_append, List.mem_append, List.mem_singleton] at h
              rcases h with (h | rfl) | h
              · exact hq q (List.mem_of_mem_take h)
              · exact ⟨g3 q1 y1, by show (w.dp : Int) ≤ 1 + max lo hi; simp only at q2 y2; omega, by show 1 + max lo hi ≤ deep - 6; omega⟩
              · exact hq q (List.mem_of_mem_drop h)
          · exact ⟨l, _, _, _, _, _, _, hX5, hP5, l0, l60, hs, hq, rfl⟩
        · exact ⟨l, _, _, _, _, _, _, hX5, hP5, l0, l60, hs, hq, rfl⟩
      · exact ⟨l, _, _, _, _, _, _, hX5, hP5, l0, l60, hs, hq, rfl⟩
  · rintro _ S3 ⟨l, o5, o6, o7, o8, o9, o10, hX, hP, l0, l60, hs, hq, rfl⟩
    refine ⟨fun m ρ' S' => ∃ (pp : Addr) (l : List (Wd × Int)) (r : Nat) (o5 o6 o7 o8 o9 o10 o11 o12 : Option Dt), m = l.length ∧ BX S b S' ∧ S' pp = some (.lst (l.map pe1)) ∧ 0 < l.length ∧ r ≤ 6 ∧ l.length ≤ 2 ^ (6 - r) ∧ slv l ≤ many.toNat ∧ (∀ q ∈ l, QOk (deep - 6 + r) q) ∧ ρ' = [some (.ref b), some (.lst (ns.map .str)), some (.int many), some (.int deep), some (.ref pp), o5, o6, o7, o8, o9, o10, o11, o12], ?_, ?_⟩
    · exact ⟨_, p, l, 0, _, _, _, _, _, _, _, _, rfl, hX, hP, l0, by decide, by simp; omega, hs, fun q h => by have := hq q h; simpa using this, rfl⟩
    · rintro m _ S4 ⟨pp, l, r, o5, o6, o7, o8, o9, o10, o11, o12, rfl, hX, hP, l0, hr6, hlen, hs, hq, rfl⟩
      refine ⟨_, hP, ?_⟩
      refine br (fun e => ?_) (fun e => ?_)
      · have e : (1 : Int) < l.length := by simpa using e
        have e : 1 < l.length := by omega
        obtain ⟨r6, hhalf⟩ := pw_half r l.length hlen e
        have hl64 : l.length ≤ 64 := Nat.le_trans hlen (Nat.pow_le_pow_right (by decide) (by omega) : 2 ^ (6 - r) ≤ 2 ^ 6)
        refine ⟨show 0 ≤ sizeLine by decide, fun c hc => ?_⟩
        have hc0 : S c = none := hX.none (hX.ne hc) hc
        have ncb : c ≠ b := hX.ne hc
        refine ⟨_, su_other hc hP _, ?_⟩
        refine ⟨_, rg2 (by rw [List.length_map]; omega) (by rw [List.length_map]; omega), ?_⟩
        have hn2 : (((l.map pe1).length : Int) - 1 + 1) / 2 = ((l.length / 2 : Nat) : Int) := by rw [List.length_map]; omega
        rw [show (((l.map pe1).length : Int) - 1 + 1) / 2 = ((l.length / 2 : Nat) : Int) from hn2, Int.toNat_natCast]
        refine ⟨fun i ρ' S' => ∃ (l2 : List (Wd × Int)) (o5 o12 : Option Dt), BX S b S' ∧ S' pp = some (.lst (l.map pe1)) ∧ S' c = some (.lst (l2.map pe1)) ∧ l2.length = i ∧ slv l2 = slv (l.take (2 * i)) ∧ (∀ q ∈ l2, QOk (deep - 6 + (r + 1 : Nat)) q) ∧ ρ' = [some (.ref b), some (.lst (ns.map .str)), some (.int many), some (.int deep), some (.ref pp), o5, o6, o7, o8, o9, o10, some (.ref c), o12], ?_, fun _ _ _ _ => trivial, ?_, ?_⟩
        · exact ⟨[], _, _, hX.su ncb hc0, su_other hc hP _, su_same, rfl, rfl, by simp, rfl⟩
        · rintro i d _ S5 hd ⟨l2, o5, o12, hX, hP, hC, rfl, hs2, hq2, rfl⟩
          obtain ⟨rfl, hi⟩ := rngC_get hd
          refine ⟨show 2 ≤ sizeLine by decide, ?_⟩
          refine ⟨_, _, rfl, b, 2, rfl, rfl, by decide, by decide, hX.bag, fun k S6 k0 k1 t6 => ?_⟩
          have a1 : 2 * l2.length < l.length := by omega
          have a2 : 2 * l2.length + 1 < l.length := by omega
          have b1 : l[2 * l2.length]? = some l[2 * l2.length] := List.getElem?_eq_getElem a1
          have b2 : l[2 * l2.length + 1]? = some l[2 * l2.length + 1] := List.getElem?_eq_getElem a2
          have c1 := hq _ (List.getElem_mem a1)
          have c2 := hq _ (List.getElem_mem a2)
          generalize l[2 * l2.length] = q1 at b1 c1
          generalize l[2 * l2.length + 1] = q2 at b2 c2
          obtain ⟨x, lo⟩ := q1
          obtain ⟨y, hi'⟩ := q2
          obtain ⟨x1, x2, x3⟩ := c1
          obtain ⟨y1, y2, y3⟩ := c2
          simp only at x1 x2 x3 y1 y2 y3
          have hP6 : S6 pp = some (.lst (l.map pe1)) := by
            by_cases e : pp = b
            · subst e; obtain ⟨xs, hx, hbx⟩ := hX.bag; rw [hP] at hx; cases hx; exact absurd hbx bag_not
            · exact (t6.ne e).trans hP
          have hC6 : S6 c = some (.lst (l2.map pe1)) := (t6.ne ncb).trans hC
          have d1 : atI (l.map pe1) (0 + (l2.length : Int) * 2) = some (.tup [x.d, .int lo]) := atI_map (f := pe1) (d := (x, lo)) (atI_at (by omega) (by rw [show (0 + (l2.length : Int) * 2).toNat = 2 * l2.length by omega]; exact b1))
          have d2 : atI (l.map pe1) (0 + (l2.length : Int) * 2 + 1) = some (.tup [y.d, .int hi']) := atI_map (f := pe1) (d := (y, hi')) (atI_at (by omega) (by rw [show (0 + (l2.length : Int) * 2 + 1).toNat = 2 * l2.length + 1 by omega]; exact b2))
          obtain ⟨h, w, g1, g2, g3, g4, g5⟩ := bi_word2 (x := x) (y := y) k0 k1
          refine ⟨_, g1, ?_⟩
          refine ⟨⟨_, hC6⟩, ?_⟩
          refine ⟨_, hP6, _, d1, ?_⟩
          refine ⟨_, rfl, ?_⟩
          refine ⟨_, hP6, _, d2, ?_⟩
          refine ⟨_, rfl, ?_⟩
          refine ⟨show 3 ≤ sizeLine by decide, ?_⟩
          refine ⟨_, hP6, _, d1, ?_⟩
          refine ⟨_, rfl, ?_⟩
          refine ⟨_, hP6, _, d2, ?_⟩
          refine ⟨_, rfl, ?_⟩
          refine ⟨show 2 ≤ sizeLine by decide, ?_⟩
          refine ⟨_, hC6, by rw [List.length_map]; unfold sizeLine; omega, ?_⟩
          refine ⟨l2 ++ [(w, 1 + max lo hi')], _, _, (hX.trans t6.bx).su ncb hc0, ?_, ?_, by simp, ?_, fun q h => ?_, rfl⟩
          · rw [su_ne (fun e => by subst e; rw [hC6] at hP6; exact absurd hP6 (by
              intro z
              have z := congrArg (fun o => match o with | some (MO.lst xs) => xs.length | _ => 0) z
              simp only [List.length_map] at z
              omega))]
            exact hP6
          · rw [su_same, List.map_append, mx]
            unfold pe1
            simp only [g2, List.map_cons, List.map_nil]
          · rw [slv_app, hs2, slv_cons, slv_nil, show 2 * (l2.length + 1) = 2 * l2.length + 1 + 1 by omega, take_succ_get b2, take_succ_get b1, slv_app, slv_app, slv_cons, slv_cons, slv_nil, g4]
            simp only; omega
          · rw [List.mem_append, List.mem_singleton] at h
            rcases h with h | rfl
            · exact hq2 q h
            · exact ⟨g3 x1 y1, by show (w.dp : Int) ≤ 1 + max lo hi'; omega, by show 1 + max lo hi' ≤ deep - 6 + (r + 1 : Nat); omega⟩
        · rintro _ S5 ⟨l2, o5, o12, hX, hP, hC, hl2, hs2, hq2, rfl⟩
          rw [rngC_len] at hl2 hs2
          refine ⟨_, hP, ?_⟩
          refine ⟨_, hP, ?_⟩
          refine ⟨show (0 : Int) < 2 by decide, ?_⟩
          refine ⟨_, hP, ?_⟩
          refine ⟨_, hC, ?_⟩
          have hcut : cutL (l.map pe1) (some (((l.map pe1).length : Int) - ((l.map pe1).length : Int) % 2)) none = (l.drop (2 * (l.length / 2))).map pe1 := by
            rw [cut_from (by rw [List.length_map]; omega), ← List.map_drop, List.length_map]
            congr 2
            omega
          refine ⟨?_, fun p2 hp2 => ?_⟩
          · rw [hcut, List.length_map, List.length_map, List.length_drop]; unfold sizeLine; omega
          refine ⟨_, ?_, p2, l2 ++ l.drop (2 * (l.length / 2)), r + 1, _, _, _, _, _, _, _, _, rfl, hX.su (hX.ne hp2) (hX.none (hX.ne hp2) hp2), ?_, ?_, by omega, ?_, ?_, fun q h => ?_, rfl⟩
          · rw [List.length_append, List.length_drop]; omega
          · rw [su_same, hcut, List.map_append]
          · rw [List.length_append]; omega
          · rw [List.length_append, List.length_drop]; omega
          · rw [slv_app, hs2, slv_split]; exact hs
          · rw [List.mem_append] at h
            rcases h with h | h
            · exact hq2 q h
            · obtain ⟨u1, u2, u3⟩ := hq q (List.mem_of_mem_drop h)
              exact ⟨u1, u2, by omega⟩
      · have e : (l.length : Int) ≤ 1 := by simpa using e
        have e : l.length ≤ 1 := by omega
        match l, l0, e, hP, hs, hq with
        | [q], _, _, hP, hs, hq =>
          obtain ⟨q1, q2, q3⟩ := hq q (by simp)
          refine ⟨_, hP, _, rfl, ?_⟩
          refine ⟨_, rfl, ?_⟩
          refine hk q.1 S4 hX q1 ?_ ?_
          · rw [slv_cons, slv_nil] at hs; omega
          · omega

-- ==FN law_written

def R_law_written (n : Nat) : Fsp := R1 fun x S Φ Ω => ∃ w : Wd, x = w.d ∧ w.dp ≤ n ∧ w.Ok ∧ w.sz ≤ 1000000 ∧ ∀ t S', Ext S S' → cl t = w.txt → Φ (.str t) S'
theorem no_law_written : ∀ ds S Φ Ω, ¬ R_law_written 0 ds S Φ Ω := fun ds S Φ Ω ⟨x, _, w, _, h, _⟩ => by have := w.dp_pos; omega
def stl : List (Key × Dt) := [(.inr "any", .str "."), (.inr "anyback", .str "^."), (.inr "empty", .str "()"), (.inr "none", .str "!")]
def bar : List (Key × Dt) := [(.inr "then", .lst [.lst [.str "then", .str "or"], .lst [.str "or"]]), (.inr "or", .lst [.lst [.str "or"], .lst []])]
def mks : List (Key × Dt) := [(.inr "again", .str "*"), (.inr "more", .str "+"), (.inr "maybe", .str "?")]
theorem ok_law_written {P : Program} {w : World} {K : PySem.W.Frag} {mg : Str → Option Value} {base : Heap} {a : Ad} (T : Tx K w mg a) (n : Nat) : FnD P w K mg base (1 + n) a.f_law_written a.d_law_written ["word"] (R_law_written n) := by
  induction n with
  | zero => exact fn_never (k := 0) T.F_law_written sc_law_written no_law_written
  | succ n IH =>
  refine fnD1 (k := 1 + n) T.F_law_written sc_law_written rfl (fun cdv A outer s H E c => (dss_cons (ds_if (dt_rel .isin (de_ix (de_var 0) de_int) (de_lst (da_cons de_str (da_cons de_str da_nil)))) (dss_one (ds_ret (de_add (de_if (dt_rel c.eq (de_ix (de_var 0) de_int) de_str) de_str de_str) (de_ix (de_var 0) de_int)))) dss_nil) (dss_cons (ds_set 1 c.nd (de_disp (dp_cons de_str de_str (dp_cons de_str de_str (dp_cons de_str de_str (dp_cons de_str de_str dp_nil)))))) (dss_cons (ds_if (dt_din c.hu1 (de_ix (de_var 0) de_int) (de_var 1)) (dss_one (ds_ret (de_dget c.hu1 (de_var 1) (de_ix (de_var 0) de_int)))) dss_nil) (dss_cons (ds_set 2 c.nd (de_lstM da_nil)) (dss_cons (ds_for c (di_range2 T.n_range (da_cons de_int (da_cons (de_len T.n_len (da_cons (de_var 0) da_nil)) da_nil))) (dg_name (i := 3) c.nd) (dss_cons (ds_set 4 c.nd (de_ix (de_dget2 c.hu1 (de_disp (dp_cons de_str (de_lst (da_cons (de_lst (da_cons de_str (da_cons de_str da_nil))) (da_cons (de_lst (da_cons de_str da_nil)) da_nil))) (dp_cons de_str (de_lst (da_cons (de_lst (da_cons de_str da_nil)) (da_cons (de_lst da_nil) da_nil))) dp_nil))) (de_ix (de_var 0) de_int) (de_lst (da_cons (de_lst (da_cons de_str (da_cons de_str da_nil))) da_nil))) (de_sub (de_var 3) de_int))) (dss_one (ds_expr (de_append (de_var 2) (da_cons (de_if (dt_rel .isin (de_ix (de_ix (de_var 0) (de_var 3)) de_int) (de_var 4)) (de_add (de_add de_str (de_call c IH (by omega) T.g_law_written T.F_law_written.kp T.b_law_written (da_cons (de_ix (de_var 0) (de_var 3)) da_nil))) de_str) (de_call c IH (by omega) T.g_law_written T.F_law_written.kp T.b_law_written (da_cons (de_ix (de_var 0) (de_var 3)) da_nil))) da_nil)))))) (dss_cons (ds_if (dt_rel .isin (de_ix (de_var 0) de_int) (de_lst (da_cons de_str (da_cons de_str da_nil)))) (dss_one (ds_ret (de_add (de_add (de_ix (de_var 2) de_int) (de_if (dt_rel c.eq (de_ix (de_var 0) de_int) de_str) de_str de_str)) (de_ix (de_var 2) de_int)))) dss_nil) (dss_one (ds_ret (de_add (de_ix (de_var 2) de_int) (de_dget c.hu1 (de_disp (dp_cons de_str de_str (dp_cons de_str de_str (dp_cons de_str de_str dp_nil)))) (de_ix (de_var 0) de_int)))))))))))) ?_
  rintro _ S Φ Ω ⟨w, rfl, h1, h2, h3, hk⟩
  cases w with
  | any =>
    refine ⟨_, rfl, show 2 ≤ sizeLine by decide, ⟨rfl, rfl⟩, ?_⟩
    intro p hp
    refine ⟨su_same, stl, rfl, by decide, ?_⟩
    refine ⟨_, rfl, _, _, su_same, rfl, ?_⟩
    refine ⟨_, rfl, _, _, _, su_same, rfl, rfl, ?_⟩
    exact hk _ _ ((Ext.refl.su hp).su hp) (by decide)
  | anyback =>
    refine ⟨_, rfl, show 2 ≤ sizeLine by decide, ⟨rfl, rfl⟩, ?_⟩
    intro p hp
    refine ⟨su_same, stl, rfl, by decide, ?_⟩
    refine ⟨_, rfl, _, _, su_same, rfl, ?_⟩
    refine ⟨_, rfl, _, _, _, su_same, rfl, rfl, ?_⟩
    exact hk _ _ ((Ext.refl.su hp).su hp) (by decide)
  | empty =>
    refine ⟨_, rfl, show 2 ≤ sizeLine by decide, ⟨rfl, rfl⟩, ?_⟩
    intro p hp
    refine ⟨su_same, stl, rfl, by decide, ?_⟩
    refine ⟨_, rfl, _, _, su_same, rfl, ?_⟩
    refine ⟨_, rfl, _, _, _, su_same, rfl, rfl, ?_⟩
    exact hk _ _ ((Ext.refl.su hp).su hp) (by decide)
  | non =>
    refine ⟨_, rfl, show 2 ≤ sizeLine by decide, ⟨rfl, rfl⟩, ?_⟩
    intro p hp
    refine ⟨su_same, stl, rfl, by decide, ?_⟩
    refine ⟨_, rfl, _, _, su_same, rfl, ?_⟩
    refine ⟨_, rfl, _, _, _, su_same, rfl, rfl, ?_⟩
    exact hk _ _ ((Ext.refl.su hp).su hp) (by decide)
  | nm s =>
    have hs : s.length ≤ 8 := NameOk.len h2
    refine ⟨_, rfl, show 2 ≤ sizeLine by decide, ⟨rfl, rfl⟩, ?_⟩
    refine ⟨_, rfl, ?_⟩
    refine ⟨_, rfl, ?_⟩
    refine ⟨by rw [show ("" : Str).length = 0 by decide]; unfold sizeLine; omega, ?_⟩
    exact hk _ S Ext.refl (by rw [cl_app, show cl "" = [] by decide]; rfl)
  | bk s =>
    have hs : s.length ≤ 8 := NameOk.len h2
    refine ⟨_, rfl, show 2 ≤ sizeLine by decide, ⟨rfl, rfl⟩, ?_⟩
    refine ⟨_, rfl, ?_⟩
    refine ⟨_, rfl, ?_⟩
    refine ⟨by rw [show ("^" : Str).length = 1 by decide]; unfold sizeLine; omega, ?_⟩
    exact hk _ S Ext.refl (by rw [cl_app, show cl "^" = [94] by decide]; rfl)
  | thn x y =>
    have hy1 := x.txt_len h2.1
    have hy2 := y.txt_len h2.2
    simp [Wd.sz] at h3
    refine ⟨_, rfl, show 2 ≤ sizeLine by decide, ⟨rfl, rfl⟩, ?_⟩
    intro p hp
    refine ⟨su_same, stl, rfl, by decide, ?_⟩
    refine ⟨_, rfl, _, _, su_same, rfl, ?_⟩
    refine ⟨show 0 ≤ sizeLine by decide, fun q hq => ?_⟩
    have hpq : q ≠ p := fun e => by subst e; rw [su_same] at hq; cases hq
    have X0 : Ext S (su (su S p (.dK [])) p (.dK (mergeD [] stl))) := (Ext.refl.su hp).su hp
    have hq0 : S q = none := X0.none hq
    refine ⟨⟨by show -(2 ^ 62) ≤ (1 : Int); decide, by show (1 : Int) < 2 ^ 62; decide, by show -(2 ^ 62) ≤ (3 : Int); decide, by show (3 : Int) < 2 ^ 62; decide⟩, ?_⟩
    refine ⟨fun i ρ' S' => ∃ (ts : List Str) (o3 o4 : Option Dt), Ext S S' ∧ S' q = some (.lst (ts.map .str)) ∧ ts.map cl = [brk (hsel ["then", "or"] x.head) x.txt, brk (hsel ["or"] y.head) y.txt].take i ∧ ρ' = [some (Wd.d (.thn x y)), some (.ref p), some (.ref q), o3, o4], ?_, fun _ _ _ _ => trivial, ?_, ?_⟩
    · exact ⟨[], _, _, X0.su hq0, su_same, rfl, rfl⟩
    · rintro i d _ S1 hd ⟨ts, o3, o4, hX, hQ, hts, rfl⟩
      obtain ⟨rfl, hi⟩ := rngD_get hd
      have hi : i < 2 := hi
      have hi : i = 0 ∨ i = 1 := by omega
      rcases hi with rfl | rfl
      · intro p2 hp2
        refine ⟨show 2 ≤ sizeLine by decide, show 1 ≤ sizeLine by decide, show 2 ≤ sizeLine by decide, show 1 ≤ sizeLine by decide, show 0 ≤ sizeLine by decide, show 2 ≤ sizeLine by decide, su_same, bar, rfl, by decide, ?_⟩
        refine ⟨⟨_, su_same⟩, ?_⟩
        refine ⟨_, rfl, ?_⟩
        refine ⟨show 2 ≤ sizeLine by decide, show 1 ≤ sizeLine by decide, ?_⟩
        refine ⟨_, _, su_same, rfl, ?_⟩
        refine ⟨_, rfl, ?_⟩
        have hp20 : S p2 = none := hX.none hp2
        have n2 : q ≠ p2 := fun e => by subst e; rw [hQ] at hp2; cases hp2
        have hQ2 : su (su S1 p2 (.dK [])) p2 (.dK (mergeD [] bar)) q = some (.lst (ts.map .str)) := by rw [su_su, su_ne n2]; exact hQ
        have hX2 : Ext S (su (su S1 p2 (.dK [])) p2 (.dK (mergeD [] bar))) := (hX.su hp20).su hp20
        refine ⟨⟨_, hQ2⟩, ?_⟩
        refine ⟨_, rfl, ?_⟩
        refine fIx0_wd ?_
        refine ⟨⟨rfl, rfl⟩, ?_⟩
        have a1 := (x).txt_len (h2.1)
        have a2 := brk_len (hsel ["then", "or"] (x).head) (x).txt
        refine br (fun e => ?_) (fun e => ?_)
        · have e : hsel ["then", "or"] (x).head = true := by rw [Bool.false_bne] at e; exact e
          refine ⟨_, rfl, _, rfl, x, rfl, by simp [Wd.dp] at h1; omega, h2.1, by omega, fun t S2 X2 ht => ?_⟩
          have a3 : t.length ≤ (x).txt.length := by rw [cl_len, ht]; omega
          refine ⟨?_, ?_⟩
          · rw [cl_len (x := "("), show cl "(" = [40] by decide]; simp only [List.length_singleton]; unfold sizeLine; omega
          refine ⟨?_, ?_⟩
          · rw [len_app, cl_len (x := "("), show cl "(" = [40] by decide, cl_len (x := ")"), show cl ")" = [41] by decide]; simp only [List.length_singleton]; unfold sizeLine; omega
          refine ⟨_, X2 _ _ hQ2, by rw [List.length_map, ← List.length_map (f := cl), hts]; unfold sizeLine; simp, ?_⟩
          refine ⟨ts ++ [("(" : Str) ++ t ++ ")"], _, _, (hX2.trans X2).su hq0, by rw [su_same, List.map_append]; rfl, ?_, rfl⟩
          rw [List.map_append, hts, List.map_cons, List.map_nil, cl_app, cl_app, ht, show cl "(" = [40] by decide, show cl ")" = [41] by decide, e]
          rfl
        · have e : hsel ["then", "or"] (x).head = false := by rw [Bool.false_bne] at e; exact e
          refine ⟨_, rfl, _, rfl, x, rfl, by simp [Wd.dp] at h1; omega, h2.1, by omega, fun t S2 X2 ht => ?_⟩
          refine ⟨_, X2 _ _ hQ2, by rw [List.length_map, ← List.length_map (f := cl), hts]; unfold sizeLine; simp, ?_⟩
          refine ⟨ts ++ [t], _, _, (hX2.trans X2).su hq0, by rw [su_same, List.map_append]; rfl, ?_, rfl⟩
          rw [List.map_append, hts, List.map_cons, List.map_nil, ht, e]
          rfl
      · intro p2 hp2
        refine ⟨show 2 ≤ sizeLine by decide, show 1 ≤ sizeLine by decide, show 2 ≤ sizeLine by decide, show 1 ≤ sizeLine by decide, show 0 ≤ sizeLine by decide, show 2 ≤ sizeLine by decide, su_same, bar, rfl, by decide, ?_⟩
        refine ⟨⟨_, su_same⟩, ?_⟩
        refine ⟨_, rfl, ?_⟩
        refine ⟨show 2 ≤ sizeLine by decide, show 1 ≤ sizeLine by decide, ?_⟩
        refine ⟨_, _, su_same, rfl, ?_⟩
        refine ⟨_, rfl, ?_⟩
        have hp20 : S p2 = none := hX.none hp2
        have n2 : q ≠ p2 := fun e => by subst e; rw [hQ] at hp2; cases hp2
        have hQ2 : su (su S1 p2 (.dK [])) p2 (.dK (mergeD [] bar)) q = some (.lst (ts.map .str)) := by rw [su_su, su_ne n2]; exact hQ
        have hX2 : Ext S (su (su S1 p2 (.dK [])) p2 (.dK (mergeD [] bar))) := (hX.su hp20).su hp20
        refine ⟨⟨_, hQ2⟩, ?_⟩
        refine ⟨_, rfl, ?_⟩
        refine fIx0_wd ?_
        refine ⟨⟨rfl, rfl⟩, ?_⟩
        have a1 := (y).txt_len (h2.2)
        have a2 := brk_len (hsel ["or"] (y).head) (y).txt
        refine br (fun e => ?_) (fun e => ?_)
        · have e : hsel ["or"] (y).head = true := by rw [Bool.false_bne] at e; exact e
          refine ⟨_, rfl, _, rfl, y, rfl, by simp [Wd.dp] at h1; omega, h2.2, by omega, fun t S2 X2 ht => ?_⟩
          have a3 : t.length ≤ (y).txt.length := by rw [cl_len, ht]; omega
          refine ⟨?_, ?_⟩
          · rw [cl_len (x := "("), show cl "(" = [40] by decide]; simp only [List.length_singleton]; unfold sizeLine; omega
          refine ⟨?_, ?_⟩
          · rw [len_app, cl_len (x := "("), show cl "(" = [40] by decide, cl_len (x := ")"), show cl ")" = [41] by decide]; simp only [List.length_singleton]; unfold sizeLine; omega
          refine ⟨_, X2 _ _ hQ2, by rw [List.length_map, ← List.length_map (f := cl), hts]; unfold sizeLine; simp, ?_⟩
          refine ⟨ts ++ [("(" : Str) ++ t ++ ")"], _, _, (hX2.trans X2).su hq0, by rw [su_same, List.map_append]; rfl, ?_, rfl⟩
          rw [List.map_append, hts, List.map_cons, List.map_nil, cl_app, cl_app, ht, show cl "(" = [40] by decide, show cl ")" = [41] by decide, e]
          rfl
        · have e : hsel ["or"] (y).head = false := by rw [Bool.false_bne] at e; exact e
          refine ⟨_, rfl, _, rfl, y, rfl, by simp [Wd.dp] at h1; omega, h2.2, by omega, fun t S2 X2 ht => ?_⟩
          refine ⟨_, X2 _ _ hQ2, by rw [List.length_map, ← List.length_map (f := cl), hts]; unfold sizeLine; simp, ?_⟩
          refine ⟨ts ++ [t], _, _, (hX2.trans X2).su hq0, by rw [su_same, List.map_append]; rfl, ?_, rfl⟩
          rw [List.map_append, hts, List.map_cons, List.map_nil, ht, e]
          rfl
    · rintro _ S1 ⟨ts, o3, o4, hX, hQ, hts, rfl⟩
      have hts : ts.map cl = [brk (hsel ["then", "or"] x.head) x.txt, brk (hsel ["or"] y.head) y.txt] := hts
      have hl2 : ts.length = 2 := by have := congrArg List.length hts; simpa using this
      match ts, hl2, hts, hQ with
      | [t1, t2], _, hts, hQ =>
        rw [List.map_cons, List.map_cons, List.map_nil] at hts
        injection hts with e1 e2
        injection e2 with e2 _
        have a2 := brk_len (hsel ["then", "or"] x.head) x.txt
        have b2 := brk_len (hsel ["or"] y.head) y.txt
        have l1 : t1.length ≤ x.txt.length + 2 := by rw [cl_len, e1]; exact a2
        have l2 : t2.length ≤ y.txt.length + 2 := by rw [cl_len, e2]; exact b2
        refine ⟨_, rfl, show 2 ≤ sizeLine by decide, ⟨rfl, rfl⟩, ?_⟩
        refine ⟨_, hQ, _, rfl, ?_⟩
        refine ⟨_, rfl, ?_⟩
        have hm : (" " : Str).length = 1 := by decide
        refine ⟨by rw [hm]; unfold sizeLine; omega, ?_⟩
        refine ⟨_, hQ, _, rfl, ?_⟩
        refine ⟨by rw [len_app, hm]; unfold sizeLine; omega, ?_⟩
        exact hk _ _ hX (by rw [cl_app, cl_app, e1, e2, show cl " " = [32] by decide, List.append_assoc]; rfl)
  | orr x y =>
    have hy1 := x.txt_len h2.1
    have hy2 := y.txt_len h2.2
    simp [Wd.sz] at h3
    refine ⟨_, rfl, show 2 ≤ sizeLine by decide, ⟨rfl, rfl⟩, ?_⟩
    intro p hp
    refine ⟨su_same, stl, rfl, by decide, ?_⟩
    refine ⟨_, rfl, _, _, su_same, rfl, ?_⟩
    refine ⟨show 0 ≤ sizeLine by decide, fun q hq => ?_⟩
    have hpq : q ≠ p := fun e => by subst e; rw [su_same] at hq; cases hq
    have X0 : Ext S (su (su S p (.dK [])) p (.dK (mergeD [] stl))) := (Ext.refl.su hp).su hp
    have hq0 : S q = none := X0.none hq
    refine ⟨⟨by show -(2 ^ 62) ≤ (1 : Int); decide, by show (1 : Int) < 2 ^ 62; decide, by show -(2 ^ 62) ≤ (3 : Int); decide, by show (3 : Int) < 2 ^ 62; decide⟩, ?_⟩
    refine ⟨fun i ρ' S' => ∃ (ts : List Str) (o3 o4 : Option Dt), Ext S S' ∧ S' q = some (.lst (ts.map .str)) ∧ ts.map cl = [brk (hsel ["or"] x.head) x.txt, brk (hsel [] y.head) y.txt].take i ∧ ρ' = [some (Wd.d (.orr x y)), some (.ref p), some (.ref q), o3, o4], ?_, fun _ _ _ _ => trivial, ?_, ?_⟩
    · exact ⟨[], _, _, X0.su hq0, su_same, rfl, rfl⟩
    · rintro i d _ S1 hd ⟨ts, o3, o4, hX, hQ, hts, rfl⟩
      obtain ⟨rfl, hi⟩ := rngD_get hd
      have hi : i < 2 := hi
      have hi : i = 0 ∨ i = 1 := by omega
      rcases hi with rfl | rfl
      · intro p2 hp2
        refine ⟨show 2 ≤ sizeLine by decide, show 1 ≤ sizeLine by decide, show 2 ≤ sizeLine by decide, show 1 ≤ sizeLine by decide, show 0 ≤ sizeLine by decide, show 2 ≤ sizeLine by decide, su_same, bar, rfl, by decide, ?_⟩
        refine ⟨⟨_, su_same⟩, ?_⟩
        refine ⟨_, rfl, ?_⟩
        refine ⟨show 2 ≤ sizeLine by decide, show 1 ≤ sizeLine by decide, ?_⟩
        refine ⟨_, _, su_same, rfl, ?_⟩
        refine ⟨_, rfl, ?_⟩
        have hp20 : S p2 = none := hX.none hp2
        have n2 : q ≠ p2 := fun e => by subst e; rw [hQ] at hp2; cases hp2
        have hQ2 : su (su S1 p2 (.dK [])) p2 (.dK (mergeD [] bar)) q = some (.lst (ts.map .str)) := by rw [su_su, su_ne n2]; exact hQ
        have hX2 : Ext S (su (su S1 p2 (.dK [])) p2 (.dK (mergeD [] bar))) := (hX.su hp20).su hp20
        refine ⟨⟨_, hQ2⟩, ?_⟩
        refine ⟨_, rfl, ?_⟩
        refine fIx0_wd ?_
        refine ⟨⟨rfl, rfl⟩, ?_⟩
        have a1 := (x).txt_len (h2.1)
        have a2 := brk_len (hsel ["or"] (x).head) (x).txt
        refine br (fun e => ?_) (fun e => ?_)
        · have e : hsel ["or"] (x).head = true := by rw [Bool.false_bne] at e; exact e
          refine ⟨_, rfl, _, rfl, x, rfl, by simp [Wd.dp] at h1; omega, h2.1, by omega, fun t S2 X2 ht => ?_⟩
          have a3 : t.length ≤ (x).txt.length := by rw [cl_len, ht]; omega
          refine ⟨?_, ?_⟩
          · rw [cl_len (x := "("), show cl "(" = [40] by decide]; simp only [List.length_singleton]; unfold sizeLine; omega
          refine ⟨?_, ?_⟩
          · rw [len_app, cl_len (x := "("), show cl "(" = [40] by decide, cl_len (x := ")"), show cl ")" = [41] by decide]; simp only [List.length_singleton]; unfold sizeLine; omega
          refine ⟨_, X2 _ _ hQ2, by rw [List.length_map, ← List.length_map (f := cl), hts]; unfold sizeLine; simp, ?_⟩
          refine ⟨ts ++ [("(" : Str) ++ t ++ ")"], _, _, (hX2.trans X2).su hq0, by rw [su_same, List.map_append]; rfl, ?_, rfl⟩
          rw [List.map_append, hts, List.map_cons, List.map_nil, cl_app, cl_app, ht, show cl "(" = [40] by decide, show cl ")" = [41] by decide, e]
          rfl
        · have e : hsel ["or"] (x).head = false := by rw [Bool.false_bne] at e; exact e
          refine ⟨_, rfl, _, rfl, x, rfl, by simp [Wd.dp] at h1; omega, h2.1, by omega, fun t S2 X2 ht => ?_⟩
          refine ⟨_, X2 _ _ hQ2, by rw [List.length_map, ← List.length_map (f := cl), hts]; unfold sizeLine; simp, ?_⟩
          refine ⟨ts ++ [t], _, _, (hX2.trans X2).su hq0, by rw [su_same, List.map_append]; rfl, ?_, rfl⟩
          rw [List.map_append, hts, List.map_cons, List.map_nil, ht, e]
          rfl
      · intro p2 hp2
        refine ⟨show 2 ≤ sizeLine by decide, show 1 ≤ sizeLine by decide, show 2 ≤ sizeLine by decide, show 1 ≤ sizeLine by decide, show 0 ≤ sizeLine by decide, show 2 ≤ sizeLine by decide, su_same, bar, rfl, by decide, ?_⟩
        refine ⟨⟨_, su_same⟩, ?_⟩
        refine ⟨_, rfl, ?_⟩
        refine ⟨show 2 ≤ sizeLine by decide, show 1 ≤ sizeLine by decide, ?_⟩
        refine ⟨_, _, su_same, rfl, ?_⟩
        refine ⟨_, rfl, ?_⟩
        have hp20 : S p2 = none := hX.none hp2
        have n2 : q ≠ p2 := fun e => by subst e; rw [hQ] at hp2; cases hp2
        have hQ2 : su (su S1 p2 (.dK [])) p2 (.dK (mergeD [] bar)) q = some (.lst (ts.map .str)) := by rw [su_su, su_ne n2]; exact hQ
        have hX2 : Ext S (su (su S1 p2 (.dK [])) p2 (.dK (mergeD [] bar))) := (hX.su hp20).su hp20
        refine ⟨⟨_, hQ2⟩, ?_⟩
        refine ⟨_, rfl, ?_⟩
        refine fIx0_wd ?_
        refine ⟨⟨rfl, rfl⟩, ?_⟩
        have a1 := (y).txt_len (h2.2)
        have a2 := brk_len (hsel [] (y).head) (y).txt
        refine br (fun e => ?_) (fun e => ?_)
        · have e : hsel [] (y).head = true := by rw [Bool.false_bne] at e; exact e
          refine ⟨_, rfl, _, rfl, y, rfl, by simp [Wd.dp] at h1; omega, h2.2, by omega, fun t S2 X2 ht => ?_⟩
          have a3 : t.length ≤ (y).txt.length := by rw [cl_len, ht]; omega
          refine ⟨?_, ?_⟩
          · rw [cl_len (x := "("), show cl "(" = [40] by decide]; simp only [List.length_singleton]; unfold sizeLine; omega
          refine ⟨?_, ?_⟩
          · rw [len_app, cl_len (x := "("), show cl "(" = [40] by decide, cl_len (x := ")"), show cl ")" = [41] by decide]; simp only [List.length_singleton]; unfold sizeLine; omega
          refine ⟨_, X2 _ _ hQ2, by rw [List.length_map, ← List.length_map (f := cl), hts]; unfold sizeLine; simp, ?_⟩
          refine ⟨ts ++ [("(" : Str) ++ t ++ ")"], _, _, (hX2.trans X2).su hq0, by rw [su_same, List.map_append]; rfl, ?_, rfl⟩
          rw [List.map_append, hts, List.map_cons, List.map_nil, cl_app, cl_app, ht, show cl "(" = [40] by decide, show cl ")" = [41] by decide, e]
          rfl
        · have e : hsel [] (y).head = false := by rw [Bool.false_bne] at e; exact e
          refine ⟨_, rfl, _, rfl, y, rfl, by simp [Wd.dp] at h1; omega, h2.2, by omega, fun t S2 X2 ht => ?_⟩
          refine ⟨_, X2 _ _ hQ2, by rw [List.length_map, ← List.length_map (f := cl), hts]; unfold sizeLine; simp, ?_⟩
          refine ⟨ts ++ [t], _, _, (hX2.trans X2).su hq0, by rw [su_same, List.map_append]; rfl, ?_, rfl⟩
          rw [List.map_append, hts, List.map_cons, List.map_nil, ht, e]
          rfl
    · rintro _ S1 ⟨ts, o3, o4, hX, hQ, hts, rfl⟩
      have hts : ts.map cl = [brk (hsel ["or"] x.head) x.txt, brk (hsel [] y.head) y.txt] := hts
      have hl2 : ts.length = 2 := by have := congrArg List.length hts; simpa using this
      match ts, hl2, hts, hQ with
      | [t1, t2], _, hts, hQ =>
        rw [List.map_cons, List.map_cons, List.map_nil] at hts
        injection hts with e1 e2
        injection e2 with e2 _
        have a2 := brk_len (hsel ["or"] x.head) x.txt
        have b2 := brk_len (hsel [] y.head) y.txt
        have l1 : t1.length ≤ x.txt.length + 2 := by rw [cl_len, e1]; exact a2
        have l2 : t2.length ≤ y.txt.length + 2 := by rw [cl_len, e2]; exact b2
        refine ⟨_, rfl, show 2 ≤ sizeLine by decide, ⟨rfl, rfl⟩, ?_⟩
        refine ⟨_, hQ, _, rfl, ?_⟩
        refine ⟨_, rfl, ?_⟩
        have hm : ("|" : Str).length = 1 := by decide
        refine ⟨by rw [hm]; unfold sizeLine; omega, ?_⟩
        refine ⟨_, hQ, _, rfl, ?_⟩
        refine ⟨by rw [len_app, hm]; unfold sizeLine; omega, ?_⟩
        exact hk _ _ hX (by rw [cl_app, cl_app, e1, e2, show cl "|" = [124] by decide, List.append_assoc]; rfl)
  | again x =>
    have hy1 := x.txt_len h2
    simp [Wd.sz] at h3
    refine ⟨_, rfl, show 2 ≤ sizeLine by decide, ⟨rfl, rfl⟩, ?_⟩
    intro p hp
    refine ⟨su_same, stl, rfl, by decide, ?_⟩
    refine ⟨_, rfl, _, _, su_same, rfl, ?_⟩
    refine ⟨show 0 ≤ sizeLine by decide, fun q hq => ?_⟩
    have hpq : q ≠ p := fun e => by subst e; rw [su_same] at hq; cases hq
    have X0 : Ext S (su (su S p (.dK [])) p (.dK (mergeD [] stl))) := (Ext.refl.su hp).su hp
    have hq0 : S q = none := X0.none hq
    refine ⟨⟨by show -(2 ^ 62) ≤ (1 : Int); decide, by show (1 : Int) < 2 ^ 62; decide, by show -(2 ^ 62) ≤ (2 : Int); decide, by show (2 : Int) < 2 ^ 62; decide⟩, ?_⟩
    refine ⟨fun i ρ' S' => ∃ (ts : List Str) (o3 o4 : Option Dt), Ext S S' ∧ S' q = some (.lst (ts.map .str)) ∧ ts.map cl = [brk (hsel ["then", "or"] x.head) x.txt].take i ∧ ρ' = [some (Wd.d (.again x)), some (.ref p), some (.ref q), o3, o4], ?_, fun _ _ _ _ => trivial, ?_, ?_⟩
    · exact ⟨[], _, _, X0.su hq0, su_same, rfl, rfl⟩
    · rintro i d _ S1 hd ⟨ts, o3, o4, hX, hQ, hts, rfl⟩
      obtain ⟨rfl, hi⟩ := rngD_get hd
      have hi : i < 1 := hi
      have hi : i = 0 := by omega
      subst hi
      intro p2 hp2
      refine ⟨show 2 ≤ sizeLine by decide, show 1 ≤ sizeLine by decide, show 2 ≤ sizeLine by decide, show 1 ≤ sizeLine by decide, show 0 ≤ sizeLine by decide, show 2 ≤ sizeLine by decide, su_same, bar, rfl, by decide, ?_⟩
      refine ⟨⟨_, su_same⟩, ?_⟩
      refine ⟨_, rfl, ?_⟩
      refine ⟨show 2 ≤ sizeLine by decide, show 1 ≤ sizeLine by decide, ?_⟩
      refine ⟨_, _, su_same, rfl, ?_⟩
      refine ⟨_, rfl, ?_⟩
      have hp20 : S p2 = none := hX.none hp2
      have n2 : q ≠ p2 := fun e => by subst e; rw [hQ] at hp2; cases hp2
      have hQ2 : su (su S1 p2 (.dK [])) p2 (.dK (mergeD [] bar)) q = some (.lst (ts.map .str)) := by rw [su_su, su_ne n2]; exact hQ
      have hX2 : Ext S (su (su S1 p2 (.dK [])) p2 (.dK (mergeD [] bar))) := (hX.su hp20).su hp20
      refine ⟨⟨_, hQ2⟩, ?_⟩
      refine ⟨_, rfl, ?_⟩
      refine fIx0_wd ?_
      refine ⟨⟨rfl, rfl⟩, ?_⟩
      have a1 := (x).txt_len (h2)
      have a2 := brk_len (hsel ["then", "or"] (x).head) (x).txt
      refine br (fun e => ?_) (fun e => ?_)
      · have e : hsel ["then", "or"] (x).head = true := by rw [Bool.false_bne] at e; exact e
        refine ⟨_, rfl, _, rfl, x, rfl, by simp [Wd.dp] at h1; omega, h2, by omega, fun t S2 X2 ht => ?_⟩
        have a3 : t.length ≤ (x).txt.length := by rw [cl_len, ht]; omega
        refine ⟨?_, ?_⟩
        · rw [cl_len (x := "("), show cl "(" = [40] by decide]; simp only [List.length_singleton]; unfold sizeLine; omega
        refine ⟨?_, ?_⟩
        · rw [len_app, cl_len (x := "("), show cl "(" = [40] by decide, cl_len (x := ")"), show cl ")" = [41] by decide]; simp only [List.length_singleton]; unfold sizeLine; omega
        refine ⟨_, X2 _ _ hQ2, by rw [List.length_map, ← List.length_map (f := cl), hts]; unfold sizeLine; simp, ?_⟩
        refine ⟨ts ++ [("(" : Str) ++ t ++ ")"], _, _, (hX2.trans X2).su hq0, by rw [su_same, List.map_append]; rfl, ?_, rfl⟩
        rw [List.map_append, hts, List.map_cons, List.map_nil, cl_app, cl_app, ht, show cl "(" = [40] by decide, show cl ")" = [41] by decide, e]
        rfl
      · have e : hsel ["then", "or"] (x).head = false := by rw [Bool.false_bne] at e; exact e
        refine ⟨_, rfl, _, rfl, x, rfl, by simp [Wd.dp] at h1; omega, h2, by omega, fun t S2 X2 ht => ?_⟩
        refine ⟨_, X2 _ _ hQ2, by rw [List.length_map, ← List.length_map (f := cl), hts]; unfold sizeLine; simp, ?_⟩
        refine ⟨ts ++ [t], _, _, (hX2.trans X2).su hq0, by rw [su_same, List.map_append]; rfl, ?_, rfl⟩
        rw [List.map_append, hts, List.map_cons, List.map_nil, ht, e]
        rfl
    · rintro _ S1 ⟨ts, o3, o4, hX, hQ, hts, rfl⟩
      have hts : ts.map cl = [brk (hsel ["then", "or"] x.head) x.txt] := hts
      have hl2 : ts.length = 1 := by have := congrArg List.length hts; simpa using this
      match ts, hl2, hts, hQ with
      | [t1], _, hts, hQ =>
        rw [List.map_cons, List.map_nil] at hts
        injection hts with e1 _
        have a2 := brk_len (hsel ["then", "or"] x.head) x.txt
        have l1 : t1.length ≤ x.txt.length + 2 := by rw [cl_len, e1]; exact a2
        refine ⟨_, rfl, show 2 ≤ sizeLine by decide, ⟨rfl, rfl⟩, ?_⟩
        refine ⟨_, hQ, _, rfl, ?_⟩
        intro p3 hp3
        refine ⟨su_same, mks, rfl, by decide, ?_⟩
        refine ⟨_, rfl, ?_⟩
        refine ⟨_, _, _, su_same, rfl, rfl, ?_⟩
        have hm : ("*" : Str).length = 1 := by decide
        refine ⟨by rw [hm]; unfold sizeLine; omega, ?_⟩
        have hp30 : S p3 = none := hX.none hp3
        exact hk _ _ ((hX.su hp30).su hp30) (by rw [cl_app, e1, show cl "*" = [42] by decide]; rfl)
  | more x =>
    have hy1 := x.txt_len h2
    simp [Wd.sz] at h3
    refine ⟨_, rfl, show 2 ≤ sizeLine by decide, ⟨rfl, rfl⟩, ?_⟩
    intro p hp
    refine ⟨su_same, stl, rfl, by decide, ?_⟩
    refine ⟨_, rfl, _, _, su_same, rfl, ?_⟩
    refine ⟨show 0 ≤ sizeLine by decide, fun q hq => ?_⟩
    have hpq : q ≠ p := fun e => by subst e; rw [su_same] at hq; cases hq
    have X0 : Ext S (su (su S p (.dK [])) p (.dK (mergeD [] stl))) := (Ext.refl.su hp).su hp
    have hq0 : S q = none := X0.none hq
    refine ⟨⟨by show -(2 ^ 62) ≤ (1 : Int); decide, by show (1 : Int) < 2 ^ 62; decide, by show -(2 ^ 62) ≤ (2 : Int); decide, by show (2 : Int) < 2 ^ 62; decide⟩, ?_⟩
    refine ⟨fun i ρ' S' => ∃ (ts : List Str) (o3 o4 : Option Dt), Ext S S' ∧ S' q = some (.lst (ts.map .str)) ∧ ts.map cl = [brk (hsel ["then", "or"] x.head) x.txt].take i ∧ ρ' = [some (Wd.d (.more x)), some (.ref p), some (.ref q), o3, o4], ?_, fun _ _ _ _ => trivial, ?_, ?_⟩
    · exact ⟨[], _, _, X0.su hq0, su_same, rfl, rfl⟩
    · rintro i d _ S1 hd ⟨ts, o3, o4, hX, hQ, hts, rfl⟩
      obtain ⟨rfl, hi⟩ := rngD_get hd
      have hi : i < 1 := hi
      have hi : i = 0 := by omega
      subst hi
      intro p2 hp2
      refine ⟨show 2 ≤ sizeLine by decide, show 1 ≤ sizeLine by decide, show 2 ≤ sizeLine by decide, show 1 ≤ sizeLine by decide, show 0 ≤ sizeLine by decide, show 2 ≤ sizeLine by decide, su_same, bar, rfl, by decide, ?_⟩
      refine ⟨⟨_, su_same⟩, ?_⟩
      refine ⟨_, rfl, ?_⟩
      refine ⟨show 2 ≤ sizeLine by decide, show 1 ≤ sizeLine by decide, ?_⟩
      refine ⟨_, _, su_same, rfl, ?_⟩
      refine ⟨_, rfl, ?_⟩
      have hp20 : S p2 = none := hX.none hp2
      have n2 : q ≠ p2 := fun e => by subst e; rw [hQ] at hp2; cases hp2
      have hQ2 : su (su S1 p2 (.dK [])) p2 (.dK (mergeD [] bar)) q = some (.lst (ts.map .str)) := by rw [su_su, su_ne n2]; exact hQ
      have hX2 : Ext S (su (su S1 p2 (.dK [])) p2 (.dK (mergeD [] bar))) := (hX.su hp20).su hp20
      refine ⟨⟨_, hQ2⟩, ?_⟩
      refine ⟨_, rfl, ?_⟩
      refine fIx0_wd ?_
      refine ⟨⟨rfl, rfl⟩, ?_⟩
      have a1 := (x).txt_len (h2)
      have a2 := brk_len (hsel ["then", "or"] (x).head) (x).txt
      refine br (fun e => ?_) (fun e => ?_)
      · have e : hsel ["then", "or"] (x).head = true := by rw [Bool.false_bne] at e; exact e
        refine ⟨_, rfl, _, rfl, x, rfl, by simp [Wd.dp] at h1; omega, h2, by omega, fun t S2 X2 ht => ?_⟩
        have a3 : t.length ≤ (x).txt.length := by rw [cl_len, ht]; omega
        refine ⟨?_, ?_⟩
        · rw [cl_len (x := "("), show cl "(" = [40] by decide]; simp only [List.length_singleton]; unfold sizeLine; omega
        refine ⟨?_, ?_⟩
        · rw [len_app, cl_len (x := "("), show cl "(" = [40] by decide, cl_len (x := ")"), show cl ")" = [41] by decide]; simp only [List.length_singleton]; unfold sizeLine; omega
        refine ⟨_, X2 _ _ hQ2, by rw [List.length_map, ← List.length_map (f := cl), hts]; unfold sizeLine; simp, ?_⟩
        refine ⟨ts ++ [("(" : Str) ++ t ++ ")"], _, _, (hX2.trans X2).su hq0, by rw [su_same, List.map_append]; rfl, ?_, rfl⟩
        rw [List.map_append, hts, List.map_cons, List.map_nil, cl_app, cl_app, ht, show cl "(" = [40] by decide, show cl ")" = [41] by decide, e]
        rfl
      · have e : hsel ["then", "or"] (x).head = false := by rw [Bool.false_bne] at e; exact e
        refine ⟨_, rfl, _, rfl, x, rfl, by simp [Wd.dp] at h1; omega, h2, by omega, fun t S2 X2 ht => ?_⟩
        refine ⟨_, X2 _ _ hQ2, by rw [List.length_map, ← List.length_map (f := cl), hts]; unfold sizeLine; simp, ?_⟩
        refine ⟨ts ++ [t], _, _, (hX2.trans X2).su hq0, by rw [su_same, List.map_append]; rfl, ?_, rfl⟩
        rw [List.map_append, hts, List.map_cons, List.map_nil, ht, e]
        rfl
    · rintro _ S1 ⟨ts, o3, o4, hX, hQ, hts, rfl⟩
      have hts : ts.map cl = [brk (hsel ["then", "or"] x.head) x.txt] := hts
      have hl2 : ts.length = 1 := by have := congrArg List.length hts; simpa using this
      match ts, hl2, hts, hQ with
      | [t1], _, hts, hQ =>
        rw [List.map_cons, List.map_nil] at hts
        injection hts with e1 _
        have a2 := brk_len (hsel ["then", "or"] x.head) x.txt
        have l1 : t1.length ≤ x.txt.length + 2 := by rw [cl_len, e1]; exact a2
        refine ⟨_, rfl, show 2 ≤ sizeLine by decide, ⟨rfl, rfl⟩, ?_⟩
        refine ⟨_, hQ, _, rfl, ?_⟩
        intro p3 hp3
        refine ⟨su_same, mks, rfl, by decide, ?_⟩
        refine ⟨_, rfl, ?_⟩
        refine ⟨_, _, _, su_same, rfl, rfl, ?_⟩
        have hm : ("+" : Str).length = 1 := by decide
        refine ⟨by rw [hm]; unfold sizeLine; omega, ?_⟩
        have hp30 : S p3 = none := hX.none hp3
        exact hk _ _ ((hX.su hp30).su hp30) (by rw [cl_app, e1, show cl "+" = [43] by decide]; rfl)
  | maybe x =>
    have hy1 := x.txt_len h2
    simp [Wd.sz] at h3
    refine ⟨_, rfl, show 2 ≤ sizeLine by decide, ⟨rfl, rfl⟩, ?_⟩
    intro p hp
    refine ⟨su_same, stl, rfl, by decide, ?_⟩
    refine ⟨_, rfl, _, _, su_same, rfl, ?_⟩
    refine ⟨show 0 ≤ sizeLine by decide, fun q hq => ?_⟩
    have hpq : q ≠ p := fun e => by subst e; rw [su_same] at hq; cases hq
    have X0 : Ext S (su (su S p (.dK [])) p (.dK (mergeD [] stl))) := (Ext.refl.su hp).su hp
    have hq0 : S q = none := X0.none hq
    refine ⟨⟨by show -(2 ^ 62) ≤ (1 : Int); decide, by show (1 : Int) < 2 ^ 62; decide, by show -(2 ^ 62) ≤ (2 : Int); decide, by show (2 : Int) < 2 ^ 62; decide⟩, ?_⟩
    refine ⟨fun i ρ' S' => ∃ (ts : List Str) (o3 o4 : Option Dt), Ext S S' ∧ S' q = some (.lst (ts.map .str)) ∧ ts.map cl = [brk (hsel ["then", "or"] x.head) x.txt].take i ∧ ρ' = [some (Wd.d (.maybe x)), some (.ref p), some (.ref q), o3, o4], ?_, fun _ _ _ _ => trivial, ?_, ?_⟩
    · exact ⟨[], _, _, X0.su hq0, su_same, rfl, rfl⟩
    · rintro i d _ S1 hd ⟨ts, o3, o4, hX, hQ, hts, rfl⟩
      obtain ⟨rfl, hi⟩ := rngD_get hd
      have hi : i < 1 := hi
      have hi : i = 0 := by omega
      subst hi
      intro p2 hp2
      refine ⟨show 2 ≤ sizeLine by decide, show 1 ≤ sizeLine by decide, show 2 ≤ sizeLine by decide, show 1 ≤ sizeLine by decide, show 0 ≤ sizeLine by decide, show 2 ≤ sizeLine by decide, su_same, bar, rfl, by decide, ?_⟩
      refine ⟨⟨_, su_same⟩, ?_⟩
      refine ⟨_, rfl, ?_⟩
      refine ⟨show 2 ≤ sizeLine by decide, show 1 ≤ sizeLine by decide, ?_⟩
      refine ⟨_, _, su_same, rfl, ?_⟩
      refine ⟨_, rfl, ?_⟩
      have hp20 : S p2 = none := hX.none hp2
      have n2 : q ≠ p2 := fun e => by subst e; rw [hQ] at hp2; cases hp2
      have hQ2 : su (su S1 p2 (.dK [])) p2 (.dK (mergeD [] bar)) q = some (.lst (ts.map .str)) := by rw [su_su, su_ne n2]; exact hQ
      have hX2 : Ext S (su (su S1 p2 (.dK [])) p2 (.dK (mergeD [] bar))) := (hX.su hp20).su hp20
      refine ⟨⟨_, hQ2⟩, ?_⟩
      refine ⟨_, rfl, ?_⟩
      refine fIx0_wd ?_
      refine ⟨⟨rfl, rfl⟩, ?_⟩
      have a1 := (x).txt_len (h2)
      have a2 := brk_len (hsel ["then", "or"] (x).head) (x).txt
      refine br (fun e => ?_) (fun e => ?_)
      · have e : hsel ["then", "or"] (x).head = true := by rw [Bool.false_bne] at e; exact e
        refine ⟨_, rfl, _, rfl, x, rfl, by simp [Wd.dp] at h1; omega, h2, by omega, fun t S2 X2 ht => ?_⟩
        have a3 : t.length ≤ (x).txt.length := by rw [cl_len, ht]; omega
        refine ⟨?_, ?_⟩
        · rw [cl_len (x := "("), show cl "(" = [40] by decide]; simp only [List.length_singleton]; unfold sizeLine; omega
        refine ⟨?_, ?_⟩
        · rw [len_app, cl_len (x := "("), show cl "(" = [40] by decide, cl_len (x := ")"), show cl ")" = [41] by decide]; simp only [List.length_singleton]; unfold sizeLine; omega
        refine ⟨_, X2 _ _ hQ2, by rw [List.length_map, ← List.length_map (f := cl), hts]; unfold sizeLine; simp, ?_⟩
        refine ⟨ts ++ [("(" : Str) ++ t ++ ")"], _, _, (hX2.trans X2).su hq0, by rw [su_same, List.map_append]; rfl, ?_, rfl⟩
        rw [List.map_append, hts, List.map_cons, List.map_nil, cl_app, cl_app, ht, show cl "(" = [40] by decide, show cl ")" = [41] by decide, e]
        rfl
      · have e : hsel ["then", "or"] (x).head = false := by rw [Bool.false_bne] at e; exact e
        refine ⟨_, rfl, _, rfl, x, rfl, by simp [Wd.dp] at h1; omega, h2, by omega, fun t S2 X2 ht => ?_⟩
        refine ⟨_, X2 _ _ hQ2, by rw [List.length_map, ← List.length_map (f := cl), hts]; unfold sizeLine; simp, ?_⟩
        refine ⟨ts ++ [t], _, _, (hX2.trans X2).su hq0, by rw [su_same, List.map_append]; rfl, ?_, rfl⟩
        rw [List.map_append, hts, List.map_cons, List.map_nil, ht, e]
        rfl
    · rintro _ S1 ⟨ts, o3, o4, hX, hQ, hts, rfl⟩
      have hts : ts.map cl = [brk (hsel ["then", "or"] x.head) x.txt] := hts
      have hl2 : ts.length = 1 := by have := congrArg List.length hts; simpa using this
      match ts, hl2, hts, hQ with
      | [t1], _, hts, hQ =>
        rw [List.map_cons, List.map_nil] at hts
        injection hts with e1 _
        have a2 := brk_len (hsel ["then", "or"] x.head) x.txt
        have l1 : t1.length ≤ x.txt.length + 2 := by rw [cl_len, e1]; exact a2
        refine ⟨_, rfl, show 2 ≤ sizeLine by decide, ⟨rfl, rfl⟩, ?_⟩
        refine ⟨_, hQ, _, rfl, ?_⟩
        intro p3 hp3
        refine ⟨su_same, mks, rfl, by decide, ?_⟩
        refine ⟨_, rfl, ?_⟩
        refine ⟨_, _, _, su_same, rfl, rfl, ?_⟩
        have hm : ("?" : Str).length = 1 := by decide
        refine ⟨by rw [hm]; unfold sizeLine; omega, ?_⟩
        have hp30 : S p3 = none := hX.none hp3
        exact hk _ _ ((hX.su hp30).su hp30) (by rw [cl_app, e1, show cl "?" = [63] by decide]; rfl)

-- ==FN Reader___init

def R_Reader___init (C : Addr) : Fsp := R1 fun y S Φ Ω => ∃ S0 x dx, y = .ref x ∧ S x = some (.ins C dx []) ∧ Ext S0 S ∧ S0 x = none ∧ ∀ S', RdA C S0 S' x [[[]]] true → Φ .non S'
theorem ok_Reader___init {P : Program} {w : World} {K : PySem.W.Frag} {mg : Str → Option Value} {base : Heap} {a : Ad} (T : Tx K w mg a) : FnD P w K mg base 1 a.f_Reader___init a.d_Reader___init ["self"] (R_Reader___init a.C_Reader) := by
  refine fnD1 (k := 0) T.F_Reader___init sc_Reader___init rfl (fun cdv A outer s H E c => (dss_cons (ds_fld T.cl_Reader T.na_Reader_rows (de_var 0) (de_lstM (da_cons (de_lstM (da_cons (de_lstM da_nil) da_nil)) da_nil))) (dss_one (ds_fld T.cl_Reader T.na_Reader_wanted (de_var 0) de_bl)))) ?_
  rintro _ S Φ Ω ⟨S0, x, dx, rfl, hx, he, h0, hk⟩
  refine ⟨show 0 ≤ sizeLine by decide, fun q hq => ?_⟩
  refine ⟨show 1 ≤ sizeLine by decide, fun f hf => ?_⟩
  refine ⟨show 1 ≤ sizeLine by decide, fun r hr => ?_⟩
  have nqx : q ≠ x := fun e => by rw [e, hx] at hq; cases hq
  have nfq : f ≠ q := fun e => by rw [e, su_same] at hf; cases hf
  have hf1 : S f = none := by rwa [su_ne nfq] at hf
  have nfx : f ≠ x := fun e => by rw [e, hx] at hf1; cases hf1
  have nrf : r ≠ f := fun e => by rw [e, su_same] at hr; cases hr
  have nrq : r ≠ q := fun e => by rw [e, su_ne nfq.symm, su_same] at hr; cases hr
  have hr1 : S r = none := by rwa [su_ne nrf, su_ne nrq] at hr
  have nrx : r ≠ x := fun e => by rw [e, hx] at hr1; cases hr1
  refine ⟨dx, [], by rw [su_ne nrx.symm, su_ne nfx.symm, su_ne nqx.symm]; exact hx, by decide, ?_⟩
  refine ⟨dx, _, su_same, by exact (show 1 < 1000 by decide), ?_⟩
  rw [su_su]
  refine hk _ ⟨dx, r, [(f, [(q, [])])], ⟨su_same, ?_, ?_, ?_, ?_, ?_, ?_⟩, rfl⟩
  · rw [su_ne nrx, su_same]; rfl
  · intro g hg
    rw [List.mem_singleton.mp hg, su_ne nfx, su_ne nrf.symm, su_same]; rfl
  · intro g hg a ha
    rw [List.mem_singleton.mp hg] at ha
    rw [List.mem_singleton.mp ha, su_ne nqx, su_ne nrq.symm, su_ne nfq.symm, su_same]; rfl
  · simp [adrs, nrx.symm, nfx.symm, nqx.symm, nrf, nrq, nfq]
  · intro p hp
    simp [adrs] at hp
    rcases hp with rfl | rfl | rfl | rfl
    · exact h0
    · exact he.none hr1
    · exact he.none hf1
    · exact he.none hq
  · exact ((((he.su (he.none hq)).su (he.none hf1)).su (he.none hr1)).su h0)

-- ==FN Reader_need

def R_Reader_need : Fsp := R2d fun y z S Φ Ω => z = .bl true ∧ Φ .non S
theorem ok_Reader_need {P : Program} {w : World} {K : PySem.W.Frag} {mg : Str → Option Value} {base : Heap} {a : Ad} (T : Tx K w mg a) : FnD P w K mg base 1 a.f_Reader_need a.d_Reader_need ["self", "truth"] R_Reader_need := by
  refine fnD2 (k := 0) T.F_Reader_need sc_Reader_need rfl (fun cdv A outer s H E c => (dss_one (ds_if (dt_not (dt_val (de_var 1))) (dss_one ds_never) dss_nil))) ?_
  rintro y _ S Φ Ω ⟨rfl, hk⟩
  exact hk

-- ==FN sized

def R_sized : Fsp := R3 fun x y z S Φ Ω => ∃ dp lv : Int, y = .int dp ∧ z = .int lv ∧ dp ≤ 20 ∧ lv ≤ 40 ∧ Φ (.tup [x, .int dp, .int lv]) S
theorem ok_sized {P : Program} {w : World} {K : PySem.W.Frag} {mg : Str → Option Value} {base : Heap} {a : Ad} (T : Tx K w mg a) : FnD P w K mg base 1 a.f_sized a.d_sized ["word", "deep", "leaves"] R_sized := by
  refine fnD3 (k := 0) T.F_sized sc_sized rfl (fun cdv A outer s H E c => (dss_cons (ds_if (dt_w (dw_or (dt_rel .gt (de_var 1) (de_gc T.c_MOST_DEEP)) (dw_or1 (dt_rel .gt (de_var 2) (de_gc T.c_MOST_LEAVES))))) (dss_one ds_never) dss_nil) (dss_one (ds_ret (de_tup (da_cons (de_var 0) (da_cons (de_var 1) (da_cons (de_var 2) da_nil)))))))) ?_
  rintro x _ _ S Φ Ω ⟨dp, lv, rfl, rfl, h1, h2, hk⟩
  refine brF (by simp; omega) ?_
  refine brF (by simp; omega) ?_
  exact ⟨show 3 ≤ sizeLine by decide, hk⟩

-- ==FN joined

def R_joined : Fsp := R2d fun y z S Φ Ω => ∃ (hd : Str) (mk : Wd → Wd → Wd) (ws : List Wd) (r : Wd), y = .str hd ∧ (z = .lst (ws.map itD) ∨ ∃ p, z = .ref p ∧ S p = some (.lst (ws.map itD))) ∧ Mk2 hd mk ∧ joinW mk ws = some r ∧ ws.length ≤ 100000 ∧ Φ (itD r) S
theorem star_last {t : XTGs} {xs a : List Dt} {d : Dt} {ρ : Ro} {S : Store} {Φ : Ro → Store → Prop} (e : xs = a ++ [d]) (h : t [.lst a, d] ρ S Φ) : t (xs.take 0 ++ [.lst ((xs.drop 0).take (xs.length + 1 - 2))] ++ (xs.drop 0).drop (xs.length + 1 - 2)) ρ S Φ := by
  subst e
  rw [show (a ++ [d]).take 0 ++ [Dt.lst (((a ++ [d]).drop 0).take ((a ++ [d]).length + 1 - 2))] ++ ((a ++ [d]).drop 0).drop ((a ++ [d]).length + 1 - 2) = [.lst a, d] by simp]
  exact h
theorem ok_joined {P : Program} {w : World} {K : PySem.W.Frag} {mg : Str → Option Value} {base : Heap} {a : Ad} (T : Tx K w mg a) : FnD P w K mg base 2 a.f_joined a.d_joined ["head", "items"] R_joined := by
  refine fnD2 (k := 1) T.F_joined sc_joined rfl (fun cdv A outer s H E c => (dss_cons (ds_asg (de_var 1) (dg_star (n := 2) (i := 0) c.calm (dgs_star (dg_name (i := 2) c.nd) (dgs_cons (dg_name (i := 3) c.nd) dgs_nil)))) (dss_cons (ds_for c (di_any (de_rev (de_var 2))) (dg_tup (n := 3) c.calm (dgs_cons (dg_name (i := 4) c.nd) (dgs_cons (dg_name (i := 5) c.nd) (dgs_cons (dg_name (i := 6) c.nd) dgs_nil)))) (dss_cons (ds_asg (de_var 3) (dg_tup (n := 3) c.calm (dgs_cons (dg_name (i := 7) c.nd) (dgs_cons (dg_name (i := 8) c.nd) (dgs_cons (dg_name (i := 9) c.nd) dgs_nil))))) (dss_one (ds_set 3 c.nd (de_callK1 c (ok_sized T) (by decide) T.g_sized T.F_sized.kp T.kb_sized_1 (da_cons (de_tup (da_cons (de_var 0) (da_cons (de_var 4) (da_cons (de_var 7) da_nil)))) da_nil) (dk_cons (de_add de_int (de_callB (call_max2 c.calm) simMax2 T.n_max (by decide +kernel) (da_cons (de_var 5) (da_cons (de_var 8) da_nil)))) (dk_cons (de_add (de_var 6) (de_var 9)) dk_nil))))))) (dss_one (ds_ret (de_var 3)))))) ?_
  rintro _ z S Φ Ω ⟨hd, mk, ws, r, rfl, hz, hm, hj, hl, hk⟩
  obtain ⟨init, l, rfl⟩ : ∃ init l, ws = init ++ [l] := by
    rcases List.eq_nil_or_concat ws with rfl | ⟨p, q, rfl⟩
    · cases hj
    · exact ⟨p, q, by rw [List.concat_eq_append]⟩
  have hsv : ∀ k : List Dt → Prop, k ((init ++ [l]).map itD) → Sv S z k := by
    intro k h
    rcases hz with rfl | ⟨p, rfl, hp⟩
    · exact h
    · exact ⟨_, hp, h⟩
  apply hsv
  refine ⟨by simp, ?_⟩
  refine star_last (xs := (init ++ [l]).map itD) (a := init.map itD) (d := itD l) (by rw [List.map_append]; rfl) ?_
  have hrev : ∀ k, init ++ [l] = (init.reverse.drop k).reverse ++ ((init.reverse.take k).reverse ++ [l]) := fun k => by
    rw [← List.append_assoc, ← List.reverse_append, List.take_append_drop, List.reverse_reverse]
  refine ⟨fun i ρ' S' => S = S' ∧ ∃ m o2 o4 o5 o6 o7 o8 o9, joinW mk ((init.reverse.take i).reverse ++ [l]) = some m ∧ ρ' = [some (.str hd), some z, o2, some (itD m), o4, o5, o6, o7, o8, o9], ?_, fun _ _ _ _ => trivial, ?_, ?_⟩
  · exact ⟨rfl, l, _, _, _, _, _, _, _, rfl, rfl⟩
  · rintro i d _ _ hd' ⟨rfl, m, o2, o4, o5, o6, o7, o8, o9, hjm, rfl⟩
    rw [← List.map_reverse, List.getElem?_map] at hd'
    cases e : init.reverse[i]? with
    | none => rw [e] at hd'; cases hd'
    | some w =>
      rw [e] at hd'
      obtain rfl : itD w = d := Option.some.inj hd'
      have et : (init.reverse.take (i + 1)).reverse = w :: (init.reverse.take i).reverse := by
        rw [List.take_add_one, e]; simp
      obtain ⟨m', hm'⟩ := joinW_suf (mk := mk) (init.reverse.drop (i + 1)).reverse (ws := (init.reverse.take (i + 1)).reverse ++ [l]) (by simp) (by rw [← hrev]; exact hj)
      have hm2 := hm'
      rw [et, List.cons_append] at hm2
      obtain ⟨m2, e2, rfl, b1, b2⟩ := joinW_cons (by simp) hm2
      obtain rfl : m = m2 := Option.some.inj (hjm.symm.trans e2)
      refine ⟨rfl, rfl, ?_⟩
      refine ⟨show 3 ≤ sizeLine by decide, ?_⟩
      refine ⟨rfl, rfl, _, _, _, rfl, (1 : Int) + max (w.dp : Int) (m.dp : Int), (w.lv : Int) + m.lv, ?_, rfl, ?_, ?_, ?_⟩
      · show Dt.int (1 + _) = _
        congr 2
        split <;> omega
      · have := hm.dp w m; omega
      · have := hm.lv w m; omega
      have e3 : itD (mk w m) = .tup [.tup [.str hd, w.d, m.d], .int ((1 : Int) + max (w.dp : Int) (m.dp : Int)), .int ((w.lv : Int) + m.lv)] := by
        unfold itD
        rw [hm.d, hm.lv, hm.dp]
        congr 4
        omega
      exact ⟨rfl, _, _, _, _, _, _, _, _, hm', by rw [e3]; rfl⟩
  · rintro _ _ ⟨rfl, m, o2, o4, o5, o6, o7, o8, o9, hjm, rfl⟩
    rw [List.length_reverse, List.length_map, List.take_of_length_le (by simp), List.reverse_reverse, hj] at hjm
    obtain rfl := Option.some.inj hjm
    exact hk

-- ==FN Reader_closed

def R_Reader_closed (C : Addr) : Fsp := R1 fun y S Φ Ω => ∃ S0 x st as w, y = .ref x ∧ RdA C S0 S x (st ++ [as]) false ∧ joinAll as w ∧ as.length ≤ 100000 ∧ (∀ ws ∈ as, ws.length ≤ 100000) ∧ ∀ S', RdA C S0 S' x st false → Φ (itD w) S'
theorem ok_Reader_closed {P : Program} {w : World} {K : PySem.W.Frag} {mg : Str → Option Value} {base : Heap} {a : Ad} (T : Tx K w mg a) : FnD P w K mg base 3 a.f_Reader_closed a.d_Reader_closed ["self"] (R_Reader_closed a.C_Reader) := by
  refine fnD1 (k := 2) T.F_Reader_closed sc_Reader_closed rfl (fun cdv A outer s H E c => (dss_cons (ds_expr (de_meth c T.cl_Reader T.me_Reader_need (ok_Reader_need T) (by decide) T.b_Reader_need (de_var 0) (da_cons (de_not (de_fld T.cl_Reader T.na_Reader_wanted (de_var 0))) da_nil))) (dss_one (ds_ret (de_call c (ok_joined T) (by decide) T.g_joined T.F_joined.kp T.b_joined (da_cons de_str (da_cons (de_lc (own := [("items", 1)]) c (di_any (de_pop (de_fld T.cl_Reader T.na_Reader_rows (de_var 0)))) (blkOk_by (N := ["self", "items"]) (sc := defScope s_Reader_closed) (by decide +kernel)) (dgx_name (i := 1) c.nd (fun _ _ _ _ _ => rfl) (fun _ _ _ _ _ => by first | exact Or.inl rfl | exact Or.inr rfl) (fun _ _ _ _ _ => by first | exact .inl rfl | exact .inr rfl) (by decide)) (fun _ _ _ _ _ => dts_nil) (fun _ _ _ _ _ => (de_call c.blk (ok_joined T) (by decide) T.g_joined T.F_joined.kp T.b_joined (da_cons de_str (da_cons (de_var 1) da_nil))))) da_nil))))))) ?_
  rintro _ S Φ Ω ⟨S0, x, st, as, w, rfl, ⟨dx, r, frs, R, hst⟩, ⟨ms, hms, hj⟩, hl1, hl2, hk⟩
  obtain ⟨pre, f, al, rfl, hpre, hal⟩ := stOf_snoc hst
  refine ⟨dx, _, R.obj, rfl, ?_⟩
  refine ⟨dx, _, _, R.obj, rfl, ?_⟩
  refine ⟨_, _, rfl, rfl, ?_⟩
  refine ⟨dx, _, _, R.obj, rfl, ?_⟩
  have R2 := R.popF
  have hrs : S r = some (.lst (pre.map (fun f => .ref f.1) ++ [.ref f])) := by rw [R.rows, List.map_append]; rfl
  have hr : r ∉ adrs (pre ++ [(f, al)]) := (List.nodup_cons.mp (List.nodup_cons.mp R.nd).2).1
  have hf : S f = some (.lst (al.map fun q => .ref q.1)) := R.frm (f, al) (by simp)
  refine ⟨⟨_, R.rows⟩, ?_⟩
  refine ⟨_, _, hrs, ?_⟩
  have hf1 : su S r (.lst (pre.map (fun f => .ref f.1))) f = some (.lst (al.map fun q => .ref q.1)) := by
    rw [su_ne (fun e => hr (by rw [← e]; exact mem_adrs (f := (f, al)) (by simp)))]; exact hf
  have ha1 : ∀ q ∈ al, su S r (.lst (pre.map (fun f => .ref f.1))) q.1 = some (.lst (q.2.map itD)) := fun q hq => by
    rw [su_ne (fun e => hr (by rw [← e]; exact mem_alts (f := (f, al)) (by simp) hq))]; exact R.alt (f, al) (by simp) q hq
  refine ⟨_, hf1, ?_⟩
  intro p hp
  have npf : p ≠ f := fun e => by rw [e, hf1] at hp; cases hp
  have hml : ms.length = al.length := by
    have := congrArg List.length hms
    rw [List.length_map, List.length_map, ← hal, List.length_map] at this
    exact this.symm
  refine ⟨fun i acc S' => acc = (ms.take i).map itD ∧ S' = su (su S r (.lst (pre.map (fun f => .ref f.1)))) p (.lst acc), ?_, ?_, ?_, ?_⟩
  · exact ⟨rfl, rfl⟩
  · rintro i acc _ ⟨_, rfl⟩
    exact ⟨by show su _ _ _ f = _; rw [su_ne npf.symm]; exact hf1, su_same⟩
  · rintro i d _ _ hd ⟨rfl, rfl⟩
    rw [List.getElem?_map] at hd
    cases e : al[i]? with
    | none => rw [e] at hd; cases hd
    | some q =>
      rw [e] at hd
      obtain rfl : Dt.ref q.1 = d := Option.some.inj hd
      obtain ⟨hi, he⟩ := List.getElem?_eq_some_iff.mp e
      have hqm : q ∈ al := by rw [← he]; exact List.getElem_mem hi
      have hi2 : i < ms.length := by rw [hml]; exact hi
      have hjo : joinW .thn q.2 = some ms[i] := by
        have := congrArg (fun l => l[i]?) hms
        simp only [← hal, List.getElem?_map, e] at this
        rw [List.getElem?_eq_getElem hi2] at this
        exact Option.some.inj this
      refine ⟨?_, ?_⟩
      · rw [List.length_map, List.length_take]; unfold sizeLine
        have : al.length = as.length := by rw [← hal, List.length_map]
        omega
      refine ⟨_, _, rfl, "then", .thn, q.2, ms[i], rfl, .inr ⟨_, rfl, ?_⟩, mk_thn, hjo, hl2 _ (by rw [← hal]; exact List.mem_map_of_mem hqm), ?_⟩
      · rw [su_ne (fun e => by rw [← e, ha1 q hqm] at hp; cases hp)]; exact ha1 q hqm
      · refine ⟨su_same, ?_, su_su⟩
        rw [List.take_add_one, List.getElem?_eq_getElem hi2]
        simp only [Option.toList, List.map_append, List.map_cons, List.map_nil]
  · rintro _ _ ⟨rfl, rfl⟩
    rw [List.length_map, List.take_of_length_le (by omega), sdel_su hp]
    refine ⟨_, _, rfl, "or", .orr, ms, w, rfl, .inl rfl, mk_orr, hj, ?_, ?_⟩
    · rw [hml]
      have : al.length = as.length := by rw [← hal, List.length_map]
      omega
    · exact hk _ ⟨dx, r, pre, R2, hpre⟩

-- ==FN Reader_item

def R_Reader_item (C : Addr) : Fsp := R2d fun y z S Φ Ω => ∃ S0 x st al ws w, y = .ref x ∧ z = itD w ∧ RdA C S0 S x (st ++ [al ++ [ws]]) true ∧ ws.length ≤ 100000 ∧ ∀ S', RdA C S0 S' x (st ++ [al ++ [ws ++ [w]]]) false → Φ .non S'
theorem ok_Reader_item {P : Program} {w : World} {K : PySem.W.Frag} {mg : Str → Option Value} {base : Heap} {a : Ad} (T : Tx K w mg a) : FnD P w K mg base 2 a.f_Reader_item a.d_Reader_item ["self", "one"] (R_Reader_item a.C_Reader) := by
  refine fnD2 (k := 1) T.F_Reader_item sc_Reader_item rfl (fun cdv A outer s H E c => (dss_cons (ds_expr (de_meth c T.cl_Reader T.me_Reader_need (ok_Reader_need T) (by decide) T.b_Reader_need (de_var 0) (da_cons (de_fld T.cl_Reader T.na_Reader_wanted (de_var 0)) da_nil))) (dss_cons (ds_expr (de_append (de_ix (de_ix (de_fld T.cl_Reader T.na_Reader_rows (de_var 0)) (de_neg de_int)) (de_neg de_int)) (da_cons (de_var 1) da_nil))) (dss_one (ds_fld T.cl_Reader T.na_Reader_wanted (de_var 0) de_bl))))) ?_
  rintro _ _ S Φ Ω ⟨S0, x, st, al, ws, w, rfl, rfl, ⟨dx, r, frs, R, hst⟩, hl, hk⟩
  obtain ⟨pre, f, al1, rfl, hpre, hal⟩ := stOf_snoc hst
  obtain ⟨al2, q, rfl, hal2⟩ := al_snoc hal
  refine ⟨dx, _, R.obj, rfl, ?_⟩
  refine ⟨dx, _, _, R.obj, rfl, ?_⟩
  refine ⟨_, _, rfl, rfl, ?_⟩
  refine ⟨dx, _, _, R.obj, rfl, ?_⟩
  have ha := R.alt (f, al2 ++ [(q, ws)]) (by simp) (q, ws) (by simp)
  refine ⟨_, R.rows, _, atI_lastm, _, R.frm (f, al2 ++ [(q, ws)]) (by simp), _, atI_lastm, ?_⟩
  refine ⟨⟨_, ha⟩, _, ha, by simp only [List.length_map]; unfold sizeLine; omega, ?_⟩
  have R2 := R.last (ws ++ [w])
  rw [List.map_append, List.map_singleton] at R2
  refine ⟨dx, _, R2.obj, by exact (show 2 < 1000 by decide), ?_⟩
  exact hk _ ⟨dx, r, _, R2.want false, by rw [stOf_app, hpre, List.map_append, hal2]; rfl⟩

-- ==FN Reader_mark

def R_Reader_mark (C : Addr) : Fsp := R2d fun y z S Φ Ω => ∃ S0 x st al ws w hd mk, y = .ref x ∧ z = .str hd ∧ Mk1 hd mk ∧ RdA C S0 S x (st ++ [al ++ [ws ++ [w]]]) false ∧ (mk w).dp ≤ 20 ∧ (mk w).lv ≤ 40 ∧ ws.length ≤ 100000 ∧ ∀ S', RdA C S0 S' x (st ++ [al ++ [ws ++ [mk w]]]) false → Φ .non S'
theorem ok_Reader_mark {P : Program} {w : World} {K : PySem.W.Frag} {mg : Str → Option Value} {base : Heap} {a : Ad} (T : Tx K w mg a) : FnD P w K mg base 2 a.f_Reader_mark a.d_Reader_mark ["self", "head"] (R_Reader_mark a.C_Reader) := by
  refine fnD2 (k := 1) T.F_Reader_mark sc_Reader_mark rfl (fun cdv A outer s H E c => (dss_cons (ds_expr (de_meth c T.cl_Reader T.me_Reader_need (ok_Reader_need T) (by decide) T.b_Reader_need (de_var 0) (da_cons (de_not (de_fld T.cl_Reader T.na_Reader_wanted (de_var 0))) da_nil))) (dss_cons (ds_asg (de_pop (de_ix (de_ix (de_fld T.cl_Reader T.na_Reader_rows (de_var 0)) (de_neg de_int)) (de_neg de_int))) (dg_tup (n := 3) c.calm (dgs_cons (dg_name (i := 2) c.nd) (dgs_cons (dg_name (i := 3) c.nd) (dgs_cons (dg_name (i := 4) c.nd) dgs_nil))))) (dss_one (ds_expr (de_append (de_ix (de_ix (de_fld T.cl_Reader T.na_Reader_rows (de_var 0)) (de_neg de_int)) (de_neg de_int)) (da_cons (de_callK1 c (ok_sized T) (by decide) T.g_sized T.F_sized.kp T.kb_sized_1 (da_cons (de_tup (da_cons (de_var 1) (da_cons (de_var 2) da_nil))) da_nil) (dk_cons (de_add (de_var 3) de_int) (dk_cons (de_var 4) dk_nil))) da_nil))))))) ?_
  rintro _ _ S Φ Ω ⟨S0, x, st, al, ws, w, hd, mk, rfl, rfl, hm, ⟨dx, r, frs, R, hst⟩, h1, h2, hl, hk⟩
  obtain ⟨pre, f, al1, rfl, hpre, hal⟩ := stOf_snoc hst
  obtain ⟨al2, q, rfl, hal2⟩ := al_snoc hal
  refine ⟨dx, _, R.obj, rfl, ?_⟩
  refine ⟨dx, _, _, R.obj, rfl, ?_⟩
  refine ⟨_, _, rfl, rfl, ?_⟩
  refine ⟨dx, _, _, R.obj, rfl, ?_⟩
  have ha := R.alt (f, al2 ++ [(q, ws ++ [w])]) (by simp) (q, ws ++ [w]) (by simp)
  have ha' : S q = some (.lst (ws.map itD ++ [itD w])) := by rw [ha, List.map_append]; rfl
  refine ⟨_, R.rows, _, atI_lastm, _, R.frm (f, al2 ++ [(q, ws ++ [w])]) (by simp), _, atI_lastm, ?_⟩
  refine ⟨⟨_, ha⟩, _, _, ha', ?_⟩
  have R2 := R.last ws
  have ha2 := R2.alt (f, al2 ++ [(q, ws)]) (by simp) (q, ws) (by simp)
  refine ⟨rfl, ?_⟩
  refine ⟨dx, _, _, R2.obj, rfl, ?_⟩
  refine ⟨_, R2.rows, _, atI_lastm, _, R2.frm (f, al2 ++ [(q, ws)]) (by simp), _, atI_lastm, ?_⟩
  refine ⟨⟨_, ha2⟩, ?_⟩
  refine ⟨show 2 ≤ sizeLine by decide, ?_⟩
  refine ⟨rfl, rfl, _, _, _, rfl, (w.dp : Int) + 1, w.lv, rfl, rfl, ?_, ?_, ?_⟩
  · have := hm.dp w; omega
  · have := hm.lv w; omega
  refine ⟨_, ha2, by simp only [List.length_map]; unfold sizeLine; omega, ?_⟩
  have R3 := R2.last (ws ++ [mk w])
  have e : itD (mk w) = .tup [.tup [.str hd, w.d], .int ((w.dp : Int) + 1), .int w.lv] := by
    unfold itD
    rw [hm.d, hm.lv, show (((mk w).dp : Nat) : Int) = (w.dp : Int) + 1 by have := hm.dp w; omega]
  rw [List.map_append, List.map_singleton, e] at R3
  exact hk _ ⟨dx, r, _, R3, by rw [stOf_app, hpre, List.map_append, hal2]; rfl⟩

-- ==FN is_name

def R_is_name : Fsp := R1 fun x S Φ Ω => ∃ t, x = .str t ∧ t.length ≤ 100000 ∧ Φ (.bl (nameL (cl t))) S
theorem let_in {c : Nat} : decide (c ∈ cl "abcdefghijklmnopqrstuvwxyz") = lettr c := by
  rw [show cl "abcdefghijklmnopqrstuvwxyz" = (List.range 26).map (· + 97) by decide]
  unfold lettr
  rw [← Bool.decide_and]
  apply decide_eq_decide.mpr
  simp only [List.mem_map, List.mem_range]
  constructor
  · rintro ⟨k, h, rfl⟩; omega
  · intro h; exact ⟨c - 97, by omega, by omega⟩
theorem ok_is_name {P : Program} {w : World} {K : PySem.W.Frag} {mg : Str → Option Value} {base : Heap} {a : Ad} (T : Tx K w mg a) : FnD P w K mg base 1 a.f_is_name a.d_is_name ["text"] R_is_name := by
  refine fnD1 (k := 0) T.F_is_name sc_is_name rfl (fun cdv A outer s H E c => (dss_one (ds_ret (de_and (de_isi T.n_isinstance (da_cons (de_var 0) (da_cons (de_ty (n := "str") T.n_str (by decide +kernel)) da_nil))) (de_and (de_chain .le .le de_int (de_len T.n_len (da_cons (de_var 0) da_nil)) (de_gc T.c_MOST_SIGNS)) (de_one (de_callB (cr_all c.calm) simAll T.n_all (by decide +kernel) (da_cons (de_lc (own := [("sign", 1)]) c (di_any (de_var 0)) (blkOk_by (N := ["text", "sign"]) (sc := defScope s_is_name) (by decide +kernel)) (dgx_name (i := 1) c.nd (fun _ _ _ _ _ => rfl) (fun _ _ _ _ _ => by first | exact Or.inl rfl | exact Or.inr rfl) (fun _ _ _ _ _ => by first | exact .inl rfl | exact .inr rfl) (by decide)) (fun _ _ _ _ _ => dts_nil) (fun _ _ _ _ _ => (de_rel .isin (de_var 1) (de_gc T.c_LETTERS)))) da_nil)))))))) ?_
  rintro _ S Φ Ω ⟨t, rfl, ht, hk⟩
  have hl := cl_len (x := t)
  have hsz : t.length ≤ sizeLine := by unfold sizeLine; omega
  refine ⟨rfl, ?_⟩
  unfold tyN
  dsimp only
  unfold fTru
  dsimp only
  refine brT (by rfl) ?_
  refine ⟨hsz, ?_⟩
  refine br (fun e1 => ?_) (fun e1 => ?_)
  · have e1 : 1 ≤ (cl t).length := by have := of_decide_eq_true e1; omega
    refine br (fun e2 => ?_) (fun e2 => ?_)
    · have e2 : (cl t).length ≤ 8 := by have := of_decide_eq_true e2; omega
      intro p hp
      refine ⟨LcA S p (cl t) fun c => some (.bl (lettr c)), lca0, fun i acc S' h => ?_, fun i d acc S' hd h => ?_, fun acc S' h => ?_⟩
      · rw [h.1]; exact ⟨trivial, su_same⟩
      · obtain ⟨rfl, hI⟩ := h
        obtain ⟨c, hc, rfl⟩ := get_map (l := cl t) hd
        refine ⟨lca_lt hc hI (by unfold sizeLine; omega), ?_⟩
        refine ⟨c, rfl, ?_⟩
        exact lca_y hc hI (by rw [Bool.false_bne, ← let_in])
      obtain ⟨rfl, rfl⟩ := lca_end (by unfold DL.signs; rw [List.length_map]) h
      rw [sdel_su hp, fm_map]
      refine ⟨by rw [List.all_map]; exact List.all_eq_true.mpr fun _ _ => rfl, ?_⟩
      have e3 : ((cl t).map fun c => Dt.bl (lettr c)).all tD = (cl t).all lettr := by rw [List.all_map]; rfl
      rw [e3]
      unfold nameL at hk
      rw [decide_eq_true e1, decide_eq_true e2, Bool.true_and, Bool.true_and] at hk
      exact hk
    · have e3 : ¬ (cl t).length ≤ 8 := by have := of_decide_eq_false e2; omega
      unfold nameL at hk
      rw [decide_eq_false e3] at hk
      rw [e2]
      simpa using hk
  · have e3 : ¬ 1 ≤ (cl t).length := by have := of_decide_eq_false e1; omega
    unfold nameL at hk
    rw [decide_eq_false e3] at hk
    show Φ (.bl false) S
    simpa using hk

-- ==FN leaf_of

def lfD (o : Option Wd) : Dt := match o with | some w => w.d | none => .non
def R_leaf_of : Fsp := R1 fun x S Φ Ω => ∃ t, x = .str t ∧ t.length ≤ 100000 ∧ Φ (lfD (leafN (cl t))) S
theorem ok_leaf_of {P : Program} {w : World} {K : PySem.W.Frag} {mg : Str → Option Value} {base : Heap} {a : Ad} (T : Tx K w mg a) : FnD P w K mg base 2 a.f_leaf_of a.d_leaf_of ["token"] R_leaf_of := by
  refine fnD1 (k := 1) T.F_leaf_of sc_leaf_of rfl (fun cdv A outer s H E c => (dss_cons (ds_if (dt_inKd T.kd_BARE (de_var 0)) (dss_one (ds_ret (de_ixKd T.kd_BARE (de_var 0)))) dss_nil) (dss_cons (ds_if (dt_w (dw_and (dt_rel c.eq (de_sl (de_var 0) do_none (do_some de_int)) de_str) (dw_and1 (dt_val (de_call c (ok_is_name T) (by decide) T.g_is_name T.F_is_name.kp T.b_is_name (da_cons (de_sl (de_var 0) (do_some de_int) do_none) da_nil)))))) (dss_one (ds_ret (de_tup (da_cons de_str (da_cons (de_sl (de_var 0) (do_some de_int) do_none) da_nil))))) dss_nil) (dss_one (ds_ret (de_if (dt_val (de_call c (ok_is_name T) (by decide) T.g_is_name T.F_is_name.kp T.b_is_name (da_cons (de_var 0) da_nil))) (de_tup (da_cons de_str (da_cons (de_var 0) da_nil))) de_non)))))) ?_
  rintro _ S Φ Ω ⟨t, rfl, ht, hk⟩
  have hl := cl_len (x := t)
  have hsz : t.length ≤ sizeLine := by unfold sizeLine; omega
  refine br (fun e => ?_) (fun e => ?_)
  · rw [Bool.false_bne] at e
    have e := of_decide_eq_true e
    simp only [List.map_cons, List.map_nil, List.mem_cons, List.not_mem_nil, or_false] at e
    rcases e with rfl | rfl | rfl | rfl
    · exact ⟨_, rfl, hk⟩
    · exact ⟨_, rfl, hk⟩
    · exact ⟨_, rfl, hk⟩
    · exact ⟨_, rfl, hk⟩
  · rw [Bool.false_bne] at e
    have e := of_decide_eq_false e
    simp only [List.map_cons, List.map_nil, List.mem_cons, List.not_mem_nil, or_false, not_or] at e
    obtain ⟨n1, n2, n3, n4⟩ := e
    have hb : bareL.lookup (cl t) = none := by
      have q : ∀ (s : Str) (m : List Nat), cl s = m → t ≠ s → (cl t == m) = false := fun s m h z => by
        rw [beq_eq_false_iff_ne]
        exact fun w => z (cl_ext (w.trans h.symm))
      unfold bareL
      simp only [List.lookup_cons, q "." [46] (by decide) n1, q "^." [94, 46] (by decide) n2, q "()" [40, 41] (by decide) n3, q "!" [33] (by decide) n4, List.lookup_nil]
    have hlf : leafN (cl t) = if (cl t).take 1 = [94] ∧ nameL ((cl t).drop 1) = true then some (.bk ⟨((cl t).drop 1).toArray⟩) else if nameL (cl t) = true then some (.nm ⟨(cl t).toArray⟩) else none := by
      unfold leafN
      rw [hb]
    have h1 : cl (cutS t none (some 1)) = (cl t).take 1 := cl_cut_to (by decide)
    have h2 : cl (cutS t (some 1) none) = (cl t).drop 1 := cl_cut_from (by decide)
    have hl2 : (cutS t (some 1) none).length ≤ 100000 := by
      have := congrArg List.length h2
      rw [List.length_drop] at this
      have := cl_len (x := cutS t (some 1) none)
      omega
    unfold xNext
    dsimp only
    refine if_cut (decide ((cl t).take 1 = [94] ∧ nameL ((cl t).drop 1) = true)) ?_ ?_ ?_
    · intro Φ1 hΦ
      refine ⟨hsz, ?_⟩
      refine br (fun e1 => ?_) (fun e1 => ?_)
      · have e1 := (tx_eq h1 (show cl "^" = [94] by decide)).mp (eqT e1)
        refine ⟨hsz, _, rfl, _, rfl, hl2, ?_⟩
        have : decide ((cl t).take 1 = [94] ∧ nameL ((cl t).drop 1) = true) = nameL ((cl t).drop 1) := by simp [e1]
        rw [this] at hΦ
        rw [h2]
        exact hΦ
      · have e1 := mt (tx_eq h1 (show cl "^" = [94] by decide)).mpr (eqF e1)
        rw [decide_eq_false (fun z => e1 z.1)] at hΦ
        exact hΦ
    · intro e1
      rw [if_pos (of_decide_eq_true e1)] at hlf
      rw [hlf] at hk
      refine ⟨hsz, show 2 ≤ sizeLine by decide, ?_⟩
      rw [show cutS t (some 1) none = ⟨((cl t).drop 1).toArray⟩ from cl_ext h2]
      exact hk
    · intro e1
      rw [if_neg (of_decide_eq_false e1)] at hlf
      refine ⟨_, rfl, _, rfl, ht, ?_⟩
      refine br (fun e2 => ?_) (fun e2 => ?_)
      · rw [if_pos e2] at hlf
        rw [hlf] at hk
        exact ⟨show 2 ≤ sizeLine by decide, hk⟩
      · rw [if_neg (by rw [e2]; decide)] at hlf
        rw [hlf] at hk
        exact hk

-- ==FN Reader_part

def R_Reader_part (C : Addr) : Fsp := R2d fun y z S Φ Ω => ∃ S0 x p q t, y = .ref x ∧ z = .str t ∧ t.length ≤ 100000 ∧ RdA C S0 S x p.st p.wt ∧ p.bd 90000 ∧ stp (cl t) p = some q ∧ ∀ S', RdA C S0 S' x q.st q.wt → Φ .non S'
theorem ok_Reader_part {P : Program} {w : World} {K : PySem.W.Frag} {mg : Str → Option Value} {base : Heap} {a : Ad} (T : Tx K w mg a) : FnD P w K mg base 4 a.f_Reader_part a.d_Reader_part ["self", "token"] (R_Reader_part a.C_Reader) := by
  refine fnD2 (k := 3) T.F_Reader_part sc_Reader_part rfl (fun cdv A outer s H E c => (dss_cons (ds_set 2 c.nd (de_call c (ok_leaf_of T) (by decide) T.g_leaf_of T.F_leaf_of.kp T.b_leaf_of (da_cons (de_var 1) da_nil))) (dss_one (ds_if (dt_rel .isnt (de_var 2) de_non) (dss_one (ds_expr (de_meth c T.cl_Reader T.me_Reader_item (ok_Reader_item T) (by decide) T.b_Reader_item (de_var 0) (da_cons (de_tup (da_cons (de_var 2) (da_cons de_int (da_cons de_int da_nil)))) da_nil)))) (dss_one (ds_if (dt_rel c.eq (de_var 1) de_str) (dss_cons (ds_expr (de_meth c T.cl_Reader T.me_Reader_need (ok_Reader_need T) (by decide) T.b_Reader_need (de_var 0) (da_cons (de_fld T.cl_Reader T.na_Reader_wanted (de_var 0)) da_nil))) (dss_one (ds_expr (de_append (de_fld T.cl_Reader T.na_Reader_rows (de_var 0)) (da_cons (de_lstM (da_cons (de_lstM da_nil) da_nil)) da_nil))))) (dss_one (ds_if (dt_rel c.eq (de_var 1) de_str) (dss_cons (ds_expr (de_meth c T.cl_Reader T.me_Reader_need (ok_Reader_need T) (by decide) T.b_Reader_need (de_var 0) (da_cons (de_rel .gt (de_len T.n_len (da_cons (de_fld T.cl_Reader T.na_Reader_rows (de_var 0)) da_nil)) de_int) da_nil))) (dss_cons (ds_set 3 c.nd (de_meth0 c T.cl_Reader T.me_Reader_closed (ok_Reader_closed T) (by decide) T.b_Reader_closed (de_var 0))) (dss_cons (ds_fld T.cl_Reader T.na_Reader_wanted (de_var 0) de_bl) (dss_one (ds_expr (de_meth c T.cl_Reader T.me_Reader_item (ok_Reader_item T) (by decide) T.b_Reader_item (de_var 0) (da_cons (de_var 3) da_nil))))))) (dss_one (ds_if (dt_inKd T.kd_HEADS (de_var 1)) (dss_one (ds_expr (de_meth c T.cl_Reader T.me_Reader_mark (ok_Reader_mark T) (by decide) T.b_Reader_mark (de_var 0) (da_cons (de_ixKd T.kd_HEADS (de_var 1)) da_nil)))) (dss_cons (ds_expr (de_meth c T.cl_Reader T.me_Reader_need (ok_Reader_need T) (by decide) T.b_Reader_need (de_var 0) (da_cons (de_and (de_rel .isin (de_var 1) (de_tup (da_cons de_str (da_cons de_str da_nil)))) (de_one (de_not (de_fld T.cl_Reader T.na_Reader_wanted (de_var 0))))) da_nil))) (dss_cons (ds_if (dt_rel c.eq (de_var 1) de_str) (dss_one (ds_expr (de_append (de_ix (de_fld T.cl_Reader T.na_Reader_rows (de_var 0)) (de_neg de_int)) (da_cons (de_lstM da_nil) da_nil)))) dss_nil) (dss_one (ds_fld T.cl_Reader T.na_Reader_wanted (de_var 0) de_bl)))))))))))))) ?_
  rintro _ _ S Φ Ω ⟨S0, x, p, q, t, rfl, rfl, ht, hR, hb, hs, hk⟩
  obtain ⟨out, al, ws, wt⟩ := p
  have hd : ∀ (s : Str) (m : List Nat), cl s = m → (t = s ↔ cl t = m) := fun s m h => tx_eq rfl h
  obtain ⟨dx, r0, frs, R, hst⟩ := hR
  have hbf : al.length ≤ 90000 ∧ ws.length ≤ 90000 ∧ ∀ v ∈ al, v.length ≤ 90000 := hb.2 _ (List.mem_cons_self ..)
  refine ⟨_, rfl, t, rfl, ht, ?_⟩
  cases hlf : leafN (cl t) with
  | some w =>
    unfold stp at hs
    rw [hlf] at hs
    cases wt with
    | false => cases hs
    | true =>
      cases hs
      obtain ⟨w1, w2⟩ := leafN_one hlf
      refine brT (by cases w <;> rfl) ?_
      refine ⟨dx, _, R.obj, rfl, ?_⟩
      refine ⟨show 3 ≤ sizeLine by decide, ?_⟩
      refine ⟨_, _, rfl, S0, x, Ps.pre ⟨out, al, ws, true⟩, al, ws, w, rfl, ?_, ⟨dx, r0, frs, R, hst⟩, by have := hbf.2.1; omega, fun S' h => hk S' h⟩
      show Dt.tup [w.d, .int 1, .int 1] = itD w
      unfold itD
      rw [w1, w2]; rfl
  | none =>
    unfold stp at hs
    rw [hlf] at hs
    dsimp only at hs
    refine br (fun e1 => ?_) (fun e1 => ?_)
    · have e1 := (hd "(" [40] (by decide)).mp (eqT e1)
      rw [if_pos e1] at hs
      cases wt with
      | false => cases hs
      | true =>
        cases hs
        refine ⟨dx, _, R.obj, rfl, ?_⟩
        refine ⟨dx, _, _, R.obj, rfl, ?_⟩
        refine ⟨_, _, rfl, rfl, ?_⟩
        refine ⟨dx, _, _, R.obj, rfl, ?_⟩
        refine ⟨⟨_, R.rows⟩, ?_⟩
        refine ⟨show 0 ≤ sizeLine by decide, fun a1 ha1 => ?_⟩
        refine ⟨show 1 ≤ sizeLine by decide, fun f hf => ?_⟩
        have hfa : f ≠ a1 := fun e => by rw [e, su_same] at hf; cases hf
        have hf0 : S f = none := by rwa [su_ne hfa] at hf
        have R2 := (R.beside (m := .lst []) ha1).beside (m := .lst [.ref a1]) hf
        have hfl : frs.length ≤ 90001 := by
          rw [← stOf_len, hst]
          show (Ps.pre ⟨out, al, ws, true⟩ ++ [_]).length ≤ _
          rw [List.length_append, Ps.pre_len]
          have := hb.1
          simp only [List.length_singleton]
          exact Nat.succ_le_succ this
        refine ⟨_, R2.rows, by rw [List.length_map]; unfold sizeLine; omega, ?_⟩
        refine hk _ ⟨dx, r0, _, R.pushF ha1 hf0 hfa, ?_⟩
        rw [stOf_app, hst]
        simp [Ps.st]
    · have e1 := mt (hd "(" [40] (by decide)).mpr (eqF e1)
      rw [if_neg e1] at hs
      refine br (fun e2 => ?_) (fun e2 => ?_)
      · have e2 := (hd ")" [41] (by decide)).mp (eqT e2)
        rw [if_pos e2] at hs
        cases out with
        | nil => cases hs
        | cons g rest =>
          cases wt with
          | true => cases hs
          | false =>
            have hs : (match closeW (al ++ [ws]) with | some w => some (Ps.mk rest g.1 (g.2 ++ [w]) false) | none => none) = some q := hs
            cases hc : closeW (al ++ [ws]) with
            | none => rw [hc] at hs; cases hs
            | some w =>
              rw [hc] at hs
              cases hs
              have hbg := hb.2 g (by simp)
              have hfl : 1 < frs.length := by
                rw [← stOf_len, hst]
                show 1 < (Ps.pre ⟨g :: rest, al, ws, false⟩ ++ [_]).length
                rw [List.length_append, Ps.pre_len]
                simp
              refine ⟨dx, _, R.obj, rfl, ?_⟩
              refine ⟨dx, _, _, R.obj, rfl, ?_⟩
              refine ⟨_, R.rows, ?_⟩
              refine ⟨_, _, rfl, by rw [List.length_map]; exact congrArg Dt.bl (decide_eq_true (by omega)), ?_⟩
              refine ⟨dx, _, R.obj, rfl, ?_⟩
              refine ⟨_, rfl, S0, x, Ps.pre ⟨g :: rest, al, ws, false⟩, al ++ [ws], w, rfl, ⟨dx, r0, frs, R, hst⟩, closeW_joinAll hc, by rw [List.length_append, List.length_singleton]; have := hbf.1; omega, ?_, ?_⟩
              · intro v hv
                rcases List.mem_append.mp hv with hv | hv
                · have := hbf.2.2 v hv; omega
                · rw [List.mem_singleton.mp hv]; have := hbf.2.1; omega
              · rintro S' ⟨dx2, r2, frs2, R2, hst2⟩
                have R3 := R2.want true
                refine ⟨dx2, _, R2.obj, by exact (show 2 < 1000 by decide), ?_⟩
                refine ⟨dx2, _, R3.obj, rfl, ?_⟩
                refine ⟨_, _, rfl, S0, x, Ps.pre ⟨rest, [], [], true⟩, g.1, g.2, w, rfl, rfl, ⟨dx2, r2, frs2, R3, ?_⟩, by have := hbg.2.1; omega, fun S' h => hk S' h⟩
                rw [hst2]
                simp [Ps.pre]
      · have e2 := mt (hd ")" [41] (by decide)).mpr (eqF e2)
        rw [if_neg e2] at hs
        refine br (fun e3 => ?_) (fun e3 => ?_)
        · rw [Bool.false_bne] at e3
          have e3 := of_decide_eq_true e3
          simp only [List.map_cons, List.map_nil, List.mem_cons, List.not_mem_nil, or_false] at e3
          rcases e3 with rfl | rfl | rfl
          · cases wt with
            | true => cases hs
            | false =>
              have hs : (match ws.reverse with | [] => none | w :: r => if szOk (Wd.again w) then some (Ps.mk out al (r.reverse ++ [Wd.again w]) false) else none) = some q := hs
              split at hs
              · cases hs
              rename_i w r er
              split at hs
              · rename_i hz
                cases hs
                have hz : (Wd.again w).dp ≤ 20 ∧ (Wd.again w).lv ≤ 40 := by unfold szOk at hz; simpa using hz
                have ew : ws = r.reverse ++ [w] := by
                  have := congrArg List.reverse er
                  rw [List.reverse_reverse, List.reverse_cons] at this
                  exact this
                subst ew
                refine ⟨dx, _, R.obj, rfl, ?_⟩
                refine ⟨_, rfl, ?_⟩
                refine ⟨_, _, rfl, S0, x, Ps.pre ⟨out, al, r.reverse ++ [w], false⟩, al, r.reverse, w, "again", Wd.again, rfl, rfl, ⟨fun _ => rfl, fun _ => rfl, fun _ => rfl⟩, ⟨dx, r0, frs, R, hst⟩, hz.1, hz.2, ?_, fun S' h => hk S' h⟩
                have := hbf.2.1
                rw [List.length_append] at this
                omega
              · cases hs
          · cases wt with
            | true => cases hs
            | false =>
              have hs : (match ws.reverse with | [] => none | w :: r => if szOk (Wd.more w) then some (Ps.mk out al (r.reverse ++ [Wd.more w]) false) else none) = some q := hs
              split at hs
              · cases hs
              rename_i w r er
              split at hs
              · rename_i hz
                cases hs
                have hz : (Wd.more w).dp ≤ 20 ∧ (Wd.more w).lv ≤ 40 := by unfold szOk at hz; simpa using hz
                have ew : ws = r.reverse ++ [w] := by
                  have := congrArg List.reverse er
                  rw [List.reverse_reverse, List.reverse_cons] at this
                  exact this
                subst ew
                refine ⟨dx, _, R.obj, rfl, ?_⟩
                refine ⟨_, rfl, ?_⟩
                refine ⟨_, _, rfl, S0, x, Ps.pre ⟨out, al, r.reverse ++ [w], false⟩, al, r.reverse, w, "more", Wd.more, rfl, rfl, ⟨fun _ => rfl, fun _ => rfl, fun _ => rfl⟩, ⟨dx, r0, frs, R, hst⟩, hz.1, hz.2, ?_, fun S' h => hk S' h⟩
                have := hbf.2.1
                rw [List.length_append] at this
                omega
              · cases hs
          · cases wt with
            | true => cases hs
            | false =>
              have hs : (match ws.reverse with | [] => none | w :: r => if szOk (Wd.maybe w) then some (Ps.mk out al (r.reverse ++ [Wd.maybe w]) false) else none) = some q := hs
              split at hs
              · cases hs
              rename_i w r er
              split at hs
              · rename_i hz
                cases hs
                have hz : (Wd.maybe w).dp ≤ 20 ∧ (Wd.maybe w).lv ≤ 40 := by unfold szOk at hz; simpa using hz
                have ew : ws = r.reverse ++ [w] := by
                  have := congrArg List.reverse er
                  rw [List.reverse_reverse, List.reverse_cons] at this
                  exact this
                subst ew
                refine ⟨dx, _, R.obj, rfl, ?_⟩
                refine ⟨_, rfl, ?_⟩
                refine ⟨_, _, rfl, S0, x, Ps.pre ⟨out, al, r.reverse ++ [w], false⟩, al, r.reverse, w, "maybe", Wd.maybe, rfl, rfl, ⟨fun _ => rfl, fun _ => rfl, fun _ => rfl⟩, ⟨dx, r0, frs, R, hst⟩, hz.1, hz.2, ?_, fun S' h => hk S' h⟩
                have := hbf.2.1
                rw [List.length_append] at this
                omega
              · cases hs
        · rw [Bool.false_bne] at e3
          have e3 := of_decide_eq_false e3
          simp only [List.map_cons, List.map_nil, List.mem_cons, List.not_mem_nil, or_false, not_or] at e3
          have hm : markN (cl t) = none := by
            unfold markN
            rw [if_neg (mt (hd "*" [42] (by decide)).mpr e3.1), if_neg (mt (hd "+" [43] (by decide)).mpr e3.2.1), if_neg (mt (hd "?" [63] (by decide)).mpr e3.2.2)]
          rw [hm] at hs
          cases wt with
          | true => cases hs
          | false =>
            have hs : (if cl t = [32] then some (Ps.mk out al ws true) else if cl t = [124] then some (Ps.mk out (al ++ [ws]) [] true) else none) = some q := hs
            split at hs
            · rename_i e4
              obtain rfl := (hd " " [32] (by decide)).mpr e4
              cases hs
              refine ⟨dx, _, R.obj, rfl, ?_⟩
              refine ⟨show 2 ≤ sizeLine by decide, ⟨rfl, rfl⟩, ?_⟩
              unfold fTru
              dsimp only
              refine brT (by decide) ?_
              refine ⟨dx, _, _, R.obj, rfl, ?_⟩
              refine ⟨_, _, rfl, rfl, ?_⟩
              dsimp only
              refine if_cut false (fun Φ1 h => h) (fun z => by cases z) fun _ => ?_
              refine ⟨dx, _, R.obj, by exact (show 2 < 1000 by decide), ?_⟩
              exact hk _ ⟨dx, r0, frs, R.want true, hst⟩
            · split at hs
              · rename_i e5
                obtain rfl := (hd "|" [124] (by decide)).mpr e5
                cases hs
                refine ⟨dx, _, R.obj, rfl, ?_⟩
                refine ⟨show 2 ≤ sizeLine by decide, ⟨rfl, rfl⟩, ?_⟩
                unfold fTru
                dsimp only
                refine brT (by decide) ?_
                refine ⟨dx, _, _, R.obj, rfl, ?_⟩
                refine ⟨_, _, rfl, rfl, ?_⟩
                dsimp only
                refine if_cut true (fun Φ1 h => h) (fun _ => ?_) (fun z => by cases z)
                obtain ⟨pre, f, al1, rfl, hpre, hal⟩ := stOf_snoc (st := Ps.pre ⟨out, al, ws, false⟩) hst
                refine ⟨dx, _, _, R.obj, rfl, ?_⟩
                refine ⟨_, R.rows, _, atI_lastm, ?_⟩
                have hfm := R.frm (f, al1) (by simp)
                refine ⟨⟨_, hfm⟩, ?_⟩
                refine ⟨show 0 ≤ sizeLine by decide, fun a1 ha1 => ?_⟩
                have hl1 : al1.length ≤ 90001 := by
                  have hal' : al1.map (·.2) = al ++ [ws] := hal
                  have := congrArg List.length hal'
                  rw [List.length_map, List.length_append, List.length_singleton] at this
                  have := hbf.1
                  omega
                refine ⟨_, (R.beside (m := .lst []) ha1).frm (f, al1) (by simp), by simp only [List.length_map]; unfold sizeLine; omega, ?_⟩
                have R2 := R.pushA ha1
                refine ⟨dx, _, R2.obj, by exact (show 2 < 1000 by decide), ?_⟩
                refine hk _ ⟨dx, r0, _, R2.want true, ?_⟩
                rw [stOf_app, hpre, List.map_append, hal]; rfl
              · cases hs

-- ==FN shown

def R_shown (n : Nat) : Fsp := R1 fun x S Φ Ω => ∃ w : Wd, x = w.d ∧ w.dp ≤ n ∧ w.Ok ∧ w.sz ≤ 1000000 ∧ ∀ t, cl t = w.txt → Φ (.str t) S
def R_bracketed (n : Nat) : Fsp := R2d fun x y S Φ Ω => ∃ (w : Wd) (hs : List Str), x = w.d ∧ y = .tup (hs.map .str) ∧ w.dp ≤ n ∧ w.Ok ∧ w.sz ≤ 1000000 ∧ ∀ t, cl t = brk (hsel hs w.head) w.txt → Φ (.str t) S
theorem no_shown : ∀ ds S Φ Ω, ¬ R_shown 0 ds S Φ Ω := fun ds S Φ Ω ⟨x, _, w, _, h, _⟩ => by have := w.dp_pos; omega
theorem no_bracketed : ∀ ds S Φ Ω, ¬ R_bracketed 0 ds S Φ Ω := fun ds S Φ Ω ⟨x, _, _, w, _, _, _, h, _⟩ => by have := w.dp_pos; omega
theorem len_one (x : Str) (n : Nat) (h : (cl x).length = n) : x.length = n := by rw [cl_len]; exact h
theorem rec_shown {P : Program} {w : World} {K : PySem.W.Frag} {mg : Str → Option Value} {base : Heap} {a : Ad} (T : Tx K w mg a) (n : Nat) : FnD P w K mg base (1 + 2 * n) a.f_shown a.d_shown ["word"] (R_shown n) ∧ FnD P w K mg base (1 + 2 * n + 1) a.f_bracketed a.d_bracketed ["word", "heads"] (R_bracketed n) := by
  induction n with
  | zero => exact ⟨fn_never T.F_shown sc_shown no_shown, fn_never T.F_bracketed sc_bracketed no_bracketed⟩
  | succ n IH =>
  obtain ⟨I1, I2⟩ := IH
  have h1 : FnD P w K mg base (1 + 2 * (n + 1)) a.f_shown a.d_shown ["word"] (R_shown (n + 1)) := by
    refine fnD1 (k := 1 + 2 * n + 1) T.F_shown sc_shown rfl (fun cdv A outer s H E c => (dss_cons (ds_asg (de_var 0) (dg_star (n := 2) (i := 1) c.calm (dgs_cons (dg_name (i := 1) c.nd) (dgs_star (dg_name (i := 2) c.nd) dgs_nil)))) (dss_cons (ds_if (dt_inKd T.kd_STILLS (de_var 1)) (dss_one (ds_ret (de_ixKd T.kd_STILLS (de_var 1)))) dss_nil) (dss_cons (ds_if (dt_rel .isin (de_var 1) (de_tup (da_cons de_str (da_cons de_str da_nil)))) (dss_one (ds_ret (de_add (de_if (dt_rel c.eq (de_var 1) de_str) de_str de_str) (de_ix (de_var 2) de_int)))) dss_nil) (dss_cons (ds_if (dt_rel c.eq (de_var 1) de_str) (dss_one (ds_ret (de_add (de_add (de_call c I2 (by omega) T.g_bracketed T.F_bracketed.kp T.b_bracketed (da_cons (de_ix (de_var 2) de_int) (da_cons (de_tup (da_cons de_str (da_cons de_str da_nil))) da_nil))) de_str) (de_call c I2 (by omega) T.g_bracketed T.F_bracketed.kp T.b_bracketed (da_cons (de_ix (de_var 2) de_int) (da_cons (de_tup (da_cons de_str da_nil)) da_nil)))))) dss_nil) (dss_cons (ds_if (dt_rel c.eq (de_var 1) de_str) (dss_one (ds_ret (de_add (de_add (de_call c I2 (by omega) T.g_bracketed T.F_bracketed.kp T.b_bracketed (da_cons (de_ix (de_var 2) de_int) (da_cons (de_tup (da_cons de_str da_nil)) da_nil))) de_str) (de_call c I1 (by omega) T.g_shown T.F_shown.kp T.b_shown (da_cons (de_ix (de_var 2) de_int) da_nil))))) dss_nil) (dss_one (ds_ret (de_add (de_call c I2 (by omega) T.g_bracketed T.F_bracketed.kp T.b_bracketed (da_cons (de_ix (de_var 2) de_int) (da_cons (de_tup (da_cons de_str (da_cons de_str da_nil))) da_nil))) (de_ixKd T.kd_MARKS (de_var 1))))))))))) ?_
    rintro _ S Φ Ω ⟨w, rfl, h1, h2, h3, hk⟩
    cases w with
    | any => exact ⟨show 2 ≤ 2 by decide, _, rfl, hk _ (by decide)⟩
    | anyback => exact ⟨show 2 ≤ 2 by decide, _, rfl, hk _ (by decide)⟩
    | empty => exact ⟨show 2 ≤ 2 by decide, _, rfl, hk _ (by decide)⟩
    | non => exact ⟨show 2 ≤ 2 by decide, _, rfl, hk _ (by decide)⟩
    | nm s =>
      have hs : s.length ≤ 8 := NameOk.len h2
      refine ⟨show 2 ≤ 3 by decide, ?_⟩
      refine ⟨show 2 ≤ sizeLine by decide, ⟨rfl, rfl⟩, ?_⟩
      refine ⟨_, rfl, ?_⟩
      refine ⟨?_, ?_⟩
      · rw [len_one "" 0 (by decide)]; unfold sizeLine; omega
      · exact hk _ (by rw [cl_app, show cl "" = [] by decide]; rfl)
    | bk s =>
      have hs : s.length ≤ 8 := NameOk.len h2
      refine ⟨show 2 ≤ 3 by decide, ?_⟩
      refine ⟨show 2 ≤ sizeLine by decide, ⟨rfl, rfl⟩, ?_⟩
      refine ⟨_, rfl, ?_⟩
      refine ⟨?_, ?_⟩
      · rw [len_one "^" 1 (by decide)]; unfold sizeLine; omega
      · exact hk _ (by rw [cl_app, show cl "^" = [94] by decide]; rfl)
    | thn x y =>
      have a1 := x.txt_len h2.1
      have a2 := brk_len (hsel ["then", "or"] x.head) x.txt
      have b1 := y.txt_len h2.2
      have b2 := brk_len (hsel ["or"] y.head) y.txt
      simp [Wd.sz] at h3
      refine ⟨show 2 ≤ 4 by decide, ?_⟩
      refine ⟨show 2 ≤ sizeLine by decide, ⟨rfl, rfl⟩, ?_⟩
      refine ⟨_, rfl, ?_⟩
      refine ⟨show 2 ≤ sizeLine by decide, ?_⟩
      refine ⟨_, _, rfl, x, ["then", "or"], rfl, rfl, by simp [Wd.dp] at h1; omega, h2.1, by omega, fun t ht => ?_⟩
      have a3 : t.length ≤ x.txt.length + 2 := by rw [cl_len, ht]; exact a2
      refine ⟨?_, ?_⟩
      · rw [len_one " " 1 (by decide)]; unfold sizeLine; omega
      refine ⟨_, rfl, ?_⟩
      refine ⟨show 1 ≤ sizeLine by decide, ?_⟩
      refine ⟨_, _, rfl, y, ["or"], rfl, rfl, by simp [Wd.dp] at h1; omega, h2.2, by omega, fun t2 ht2 => ?_⟩
      have b3 : t2.length ≤ y.txt.length + 2 := by rw [cl_len, ht2]; exact b2
      refine ⟨?_, ?_⟩
      · rw [len_app, len_one " " 1 (by decide)]; unfold sizeLine; omega
      · exact hk _ (by rw [cl_app, cl_app, ht, ht2, show cl " " = [32] by decide, List.append_assoc]; rfl)
    | orr x y =>
      have a1 := x.txt_len h2.1
      have a2 := brk_len (hsel ["or"] x.head) x.txt
      have b1 := y.txt_len h2.2
      simp [Wd.sz] at h3
      refine ⟨show 2 ≤ 4 by decide, ?_⟩
      refine ⟨show 2 ≤ sizeLine by decide, ⟨rfl, rfl⟩, ?_⟩
      refine ⟨_, rfl, ?_⟩
      refine ⟨show 1 ≤ sizeLine by decide, ?_⟩
      refine ⟨_, _, rfl, x, ["or"], rfl, rfl, by simp [Wd.dp] at h1; omega, h2.1, by omega, fun t ht => ?_⟩
      have a3 : t.length ≤ x.txt.length + 2 := by rw [cl_len, ht]; exact a2
      refine ⟨?_, ?_⟩
      · rw [len_one "|" 1 (by decide)]; unfold sizeLine; omega
      refine ⟨_, rfl, ?_⟩
      refine ⟨_, rfl, y, rfl, by simp [Wd.dp] at h1; omega, h2.2, by omega, fun t2 ht2 => ?_⟩
      have b3 : t2.length ≤ y.txt.length := by rw [cl_len, ht2]; omega
      refine ⟨?_, ?_⟩
      · rw [len_app, len_one "|" 1 (by decide)]; unfold sizeLine; omega
      · exact hk _ (by rw [cl_app, cl_app, ht, ht2, show cl "|" = [124] by decide, List.append_assoc]; rfl)
    | again x =>
      refine ⟨show 2 ≤ 3 by decide, ?_⟩
      refine ⟨show 2 ≤ sizeLine by decide, ⟨rfl, rfl⟩, ?_⟩
      refine ⟨_, rfl, ?_⟩
      refine ⟨show 2 ≤ sizeLine by decide, ?_⟩
      refine ⟨_, _, rfl, x, ["then", "or"], rfl, rfl, by simp [Wd.dp] at h1; omega, h2, by simp [Wd.sz] at h3; omega, fun t ht => ?_⟩
      have a1 := x.txt_len h2
      have a2 := brk_len (hsel ["then", "or"] x.head) x.txt
      have a3 : t.length ≤ x.txt.length + 2 := by rw [cl_len, ht]; exact a2
      refine ⟨_, rfl, ?_⟩
      refine ⟨?_, ?_⟩
      · rw [len_one "*" 1 (by decide)]; simp [Wd.sz] at h3; unfold sizeLine; omega
      · exact hk _ (by rw [cl_app, ht, show cl "*" = [42] by decide]; rfl)
    | more x =>
      refine ⟨show 2 ≤ 3 by decide, ?_⟩
      refine ⟨show 2 ≤ sizeLine by decide, ⟨rfl, rfl⟩, ?_⟩
      refine ⟨_, rfl, ?_⟩
      refine ⟨show 2 ≤ sizeLine by decide, ?_⟩
      refine ⟨_, _, rfl, x, ["then", "or"], rfl, rfl, by simp [Wd.dp] at h1; omega, h2, by simp [Wd.sz] at h3; omega, fun t ht => ?_⟩
      have a1 := x.txt_len h2
      have a2 := brk_len (hsel ["then", "or"] x.head) x.txt
      have a3 : t.length ≤ x.txt.length + 2 := by rw [cl_len, ht]; exact a2
      refine ⟨_, rfl, ?_⟩
      refine ⟨?_, ?_⟩
      · rw [len_one "+" 1 (by decide)]; simp [Wd.sz] at h3; unfold sizeLine; omega
      · exact hk _ (by rw [cl_app, ht, show cl "+" = [43] by decide]; rfl)
    | maybe x =>
      refine ⟨show 2 ≤ 3 by decide, ?_⟩
      refine ⟨show 2 ≤ sizeLine by decide, ⟨rfl, rfl⟩, ?_⟩
      refine ⟨_, rfl, ?_⟩
      refine ⟨show 2 ≤ sizeLine by decide, ?_⟩
      refine ⟨_, _, rfl, x, ["then", "or"], rfl, rfl, by simp [Wd.dp] at h1; omega, h2, by simp [Wd.sz] at h3; omega, fun t ht => ?_⟩
      have a1 := x.txt_len h2
      have a2 := brk_len (hsel ["then", "or"] x.head) x.txt
      have a3 : t.length ≤ x.txt.length + 2 := by rw [cl_len, ht]; exact a2
      refine ⟨_, rfl, ?_⟩
      refine ⟨?_, ?_⟩
      · rw [len_one "?" 1 (by decide)]; simp [Wd.sz] at h3; unfold sizeLine; omega
      · exact hk _ (by rw [cl_app, ht, show cl "?" = [63] by decide]; rfl)
  refine ⟨h1, ?_⟩
  refine fnD2 (k := 1 + 2 * (n + 1)) T.F_bracketed sc_bracketed rfl (fun cdv A outer s H E c => (dss_one (ds_ret (de_if (dt_rel .isin (de_ix (de_var 0) de_int) (de_var 1)) (de_add (de_add de_str (de_call c h1 (by omega) T.g_shown T.F_shown.kp T.b_shown (da_cons (de_var 0) da_nil))) de_str) (de_call c h1 (by omega) T.g_shown T.F_shown.kp T.b_shown (da_cons (de_var 0) da_nil)))))) ?_
  rintro _ _ S Φ Ω ⟨w, hs, rfl, rfl, h1, h2, h3, hk⟩
  have a1 := w.txt_len h2
  have hd : ∃ args, w.d = .tup (.str w.head :: args) := by cases w <;> exact ⟨_, rfl⟩
  obtain ⟨args, hd⟩ := hd
  have go : ∀ d0, d0 = .tup (.str w.head :: args) → d0 = w.d → xRet (xIf (xTest (xOp (fIn false) (xOp fIx (xVar 0) (xC (.int 0))) (xVar 1))) (xOp fAdd (xOp fAdd (xC (.str "(")) (xCall (R_shown (n + 1)) (xCons (xVar 0) xNil))) (xC (.str ")"))) (xCall (R_shown (n + 1)) (xCons (xVar 0) xNil))) (bodyEnds Φ) (fun c fs _ S => Ω c fs S) [some d0, some (.tup (hs.map .str))] S := by
    intro d0 e0 e1
    subst e0
    refine ⟨.str w.head, atI_at (by decide) rfl, ⟨rfl, flat_strs hs⟩, ?_⟩
    refine br (fun e => ?_) (fun e => ?_)
    · refine ⟨_, rfl, w, e1, h1, h2, h3, fun t ht => ?_⟩
      have a3 : t.length ≤ w.txt.length := by rw [cl_len, ht]; omega
      refine ⟨?_, ?_⟩
      · rw [len_one "(" 1 (by decide)]; unfold sizeLine; omega
      refine ⟨?_, ?_⟩
      · rw [len_app, len_one "(" 1 (by decide), len_one ")" 1 (by decide)]; unfold sizeLine; omega
      · refine hk _ ?_
        rw [cl_app, cl_app, ht, show cl "(" = [40] by decide, show cl ")" = [41] by decide]
        have e : hsel hs w.head = true := by rw [Bool.false_bne] at e; exact e
        rw [e]; rfl
    · refine ⟨_, rfl, w, e1, h1, h2, h3, fun t ht => ?_⟩
      refine hk _ ?_
      have e : hsel hs w.head = false := by rw [Bool.false_bne] at e; exact e
      rw [e, ht]; rfl
  exact go w.d hd rfl
theorem ok_shown {P : Program} {w : World} {K : PySem.W.Frag} {mg : Str → Option Value} {base : Heap} {a : Ad} (T : Tx K w mg a) (n : Nat) : FnD P w K mg base (1 + 2 * n) a.f_shown a.d_shown ["word"] (R_shown n) := (rec_shown T n).1

-- ==FN bracketed


-- ==FN tokens_of

def R_tokens_of : Fsp := R1 fun x S Φ Ω => ∃ t, x = .str t ∧ t.length ≤ 100000 ∧ ∀ ss : List Str, ss.map cl = tksA (cl t) → Φ (.lst (ss.map .str)) S
theorem ok_tokens_of {P : Program} {w : World} {K : PySem.W.Frag} {mg : Str → Option Value} {base : Heap} {a : Ad} (T : Tx K w mg a) : FnD P w K mg base 1 a.f_tokens_of a.d_tokens_of ["text"] R_tokens_of := by
  refine fnD1 (k := 0) T.F_tokens_of sc_tokens_of rfl (fun cdv A outer s H E c => (dss_cons (ds_set 1 c.nd (de_lstM da_nil)) (dss_cons (ds_set 2 c.nd de_int) (dss_cons (ds_while c (dt_rel .lt (de_var 2) (de_len T.n_len (da_cons (de_var 0) da_nil))) (dss_cons (ds_set 3 c.nd (de_add (de_var 2) de_int)) (dss_cons (ds_if (dt_w (dw_or (dt_rel c.eq (de_ix (de_var 0) (de_var 2)) de_str) (dw_or1 (dt_rel .isin (de_ix (de_var 0) (de_var 2)) (de_gc T.c_LETTERS))))) (dss_one (ds_while c (dt_w (dw_and (dt_rel .lt (de_var 3) (de_len T.n_len (da_cons (de_var 0) da_nil))) (dw_and1 (dt_rel .isin (de_ix (de_var 0) (de_var 3)) (de_gc T.c_LETTERS))))) (dss_one (ds_augI (i := 3) ip_add c.nd de_int)))) dss_nil) (dss_cons (ds_if (dt_w (dw_or (dt_w (dw_and (dt_rel c.eq (de_sl (de_var 0) (do_some (de_var 2)) (do_some (de_var 3))) de_str) (dw_and1 (dt_rel c.eq (de_sl (de_var 0) (do_some (de_var 3)) (do_some (de_add (de_var 3) de_int))) de_str)))) (dw_or1 (dt_rel c.eq (de_sl (de_var 0) (do_some (de_var 2)) (do_some (de_add (de_var 2) de_int))) de_str)))) (dss_one (ds_set 3 c.nd (de_add (de_var 2) de_int))) dss_nil) (dss_cons (ds_expr (de_append (de_var 1) (da_cons (de_sl (de_var 0) (do_some (de_var 2)) (do_some (de_var 3))) da_nil))) (dss_one (ds_set 2 c.nd (de_var 3)))))))) (dss_one (ds_ret (de_frz (de_var 1)))))))) ?_
  rintro _ S Φ Ω ⟨t, rfl, ht, hk⟩
  have hl := cl_len (x := t)
  have hsz : t.length ≤ sizeLine := by unfold sizeLine; omega
  refine ⟨show 0 ≤ sizeLine by decide, fun p hp => ?_⟩
  refine ⟨fun m ρ S' => ∃ (k : Nat) (ss : List Str) (o3 : Option Dt), m = (cl t).length - k ∧ k ≤ (cl t).length ∧ ρ = [some (.str t), some (.ref p), some (.int k), o3] ∧ S' = su S p (.lst (ss.map .str)) ∧ ss.length ≤ k ∧ ss.map cl ++ tksA ((cl t).drop k) = tksA (cl t), ?_, ?_⟩
  · exact ⟨_, 0, [], none, rfl, Nat.zero_le _, rfl, rfl, Nat.le_refl _, rfl⟩
  rintro m _ _ ⟨k, ss, o3, rfl, hk0, rfl, rfl, hsk, hts⟩
  refine ⟨hsz, ?_⟩
  refine br (fun e => ?_) (fun e => ?_)
  · have e : k < (cl t).length := by have := of_decide_eq_true e; omega
    obtain ⟨c, hc⟩ : ∃ c, (cl t)[k]? = some c := ⟨_, List.getElem?_eq_getElem e⟩
    have hD : (cl t).drop k = c :: (cl t).drop (k + 1) := by
      obtain ⟨hl, rfl⟩ := List.getElem?_eq_some_iff.mp hc
      exact List.drop_eq_getElem_cons hl
    have hat : atI t.cps.toList (k : Int) = some c := atI_at (by omega) (by rw [Int.toNat_natCast]; exact hc)
    have n1 := nx1_cons c ((cl t).drop (k + 1))
    rw [← hD] at n1
    refine seq_cut (fun ρ S' => ρ = [some (.str t), some (.ref p), some (.int k), some (.int ((k : Int) + 1))] ∧ S' = su S p (.lst (ss.map .str))) (fun nx h => h _ _ ⟨rfl, rfl⟩) ?_
    rintro _ _ ⟨rfl, rfl⟩
    refine seq_cut (fun ρ S' => ∃ j : Int, j = (k : Int) + (nx1 ((cl t).drop k) : Nat) ∧ ρ = [some (.str t), some (.ref p), some (.int k), some (.int j)] ∧ S' = su S p (.lst (ss.map .str))) ?_ ?_
    · intro nx h
      refine if_cut (decide (c = 94 ∨ lettr c = true)) ?_ ?_ ?_
      · intro Φ1 hΦ
        refine ⟨hsz, c, hat, ?_⟩
        refine br (fun e1 => ?_) (fun e1 => ?_)
        · have e1 := (sg_eq (show cl "^" = [94] by decide)).mp (eqT e1)
          rw [decide_eq_true (.inl e1)] at hΦ
          exact hΦ
        · have e1 := mt (sg_eq (c := c) (show cl "^" = [94] by decide)).mpr (eqF e1)
          refine ⟨hsz, c, hat, c, rfl, ?_⟩
          have : decide (c = 94 ∨ lettr c = true) = lettr c := by
            cases hh : lettr c <;> simp [e1, hh]
          rw [this, ← let_in] at hΦ
          rw [Bool.false_bne]
          exact hΦ
      · intro e1
        have e1 := of_decide_eq_true e1
        rw [if_pos e1] at n1
        refine ⟨fun m ρ S' => ∃ j : Nat, m = (cl t).length - j ∧ j ≤ (cl t).length ∧ ρ = [some (.str t), some (.ref p), some (.int k), some (.int j)] ∧ S' = su S p (.lst (ss.map .str)) ∧ j + run1 ((cl t).drop j) = k + 1 + run1 ((cl t).drop (k + 1)), ?_, ?_⟩
        · exact ⟨_, k + 1, rfl, e, rfl, rfl, rfl⟩
        · rintro m _ _ ⟨j, rfl, hj, rfl, rfl, hr⟩
          refine ⟨hsz, ?_⟩
          refine br (fun e2 => ?_) (fun e2 => ?_)
          · have e2 : j < (cl t).length := by have := of_decide_eq_true e2; omega
            obtain ⟨d, hd⟩ : ∃ d, (cl t)[j]? = some d := ⟨_, List.getElem?_eq_getElem e2⟩
            have hra := run1_at hd
            refine ⟨hsz, d, atI_at (by omega) (by rw [Int.toNat_natCast]; exact hd), d, rfl, ?_⟩
            refine br (fun e3 => ?_) (fun e3 => ?_)
            · rw [Bool.false_bne, let_in] at e3
              rw [if_pos e3] at hra
              exact ⟨_, by omega, j + 1, rfl, e2, rfl, rfl, by omega⟩
            · rw [Bool.false_bne, let_in] at e3
              rw [if_neg (by rw [e3]; decide)] at hra
              exact h _ _ ⟨_, by omega, rfl, rfl⟩
          · have e2 : ¬ j < (cl t).length := by have := of_decide_eq_false e2; omega
            refine brF rfl ?_
            have : run1 ((cl t).drop j) = 0 := by rw [List.drop_eq_nil_of_le (by omega)]; rfl
            exact h _ _ ⟨_, by omega, rfl, rfl⟩
      · intro e1
        have e1 := of_decide_eq_false e1
        rw [if_neg e1] at n1
        exact h _ _ ⟨_, by omega, rfl, rfl⟩
    rintro _ _ ⟨j, hj, rfl, rfl⟩
    have hx1 : cl (cutS t (some (k : Int)) (some j)) = ((cl t).drop k).take (nx1 ((cl t).drop k)) := by
      rw [cl_cut_mid rfl (b := k + nx1 ((cl t).drop k)) (by omega), Nat.add_sub_cancel_left]
    have hx2 : cl (cutS t (some j) (some (j + 1))) = (((cl t).drop k).drop (nx1 ((cl t).drop k))).take 1 := by
      rw [cl_cut_mid (a := k + nx1 ((cl t).drop k)) (b := k + nx1 ((cl t).drop k) + 1) (by omega) (by omega), Nat.add_sub_cancel_left, List.drop_drop]
    have hx3 : cl (cutS t (some (k : Int)) (some ((k : Int) + 2))) = ((cl t).drop k).take 2 := by
      rw [cl_cut_mid rfl (b := k + 2) (by omega), Nat.add_sub_cancel_left]
    have hnl := nx_le ((cl t).drop k)
    rw [List.length_drop] at hnl
    have hnp : 1 ≤ nx ((cl t).drop k) := nx_pos (by rw [hD]; simp)
    have hn : nx ((cl t).drop k) = if (((cl t).drop k).take (nx1 ((cl t).drop k)) = [94] ∧ (((cl t).drop k).drop (nx1 ((cl t).drop k))).take 1 = [46]) ∨ ((cl t).drop k).take 2 = [40, 41] then 2 else nx1 ((cl t).drop k) := rfl
    refine seq_cut (fun ρ S' => ∃ j : Int, j = (k : Int) + (nx ((cl t).drop k) : Nat) ∧ ρ = [some (.str t), some (.ref p), some (.int k), some (.int j)] ∧ S' = su S p (.lst (ss.map .str))) ?_ ?_
    · intro nx' h
      refine if_cut (decide ((((cl t).drop k).take (nx1 ((cl t).drop k)) = [94] ∧ (((cl t).drop k).drop (nx1 ((cl t).drop k))).take 1 = [46]) ∨ ((cl t).drop k).take 2 = [40, 41])) ?_ ?_ ?_
      · intro Φ1 hΦ
        have last : ∀ q : Bool, q = (false != decide (cutS t (some (k : Int)) (some ((k : Int) + 2)) = "()")) → ¬ (((cl t).drop k).take (nx1 ((cl t).drop k)) = [94] ∧ (((cl t).drop k).drop (nx1 ((cl t).drop k))).take 1 = [46]) → Φ1 q (su S p (.lst (ss.map .str))) := by
          rintro _ rfl hno
          rw [Bool.false_bne]
          have : decide (cutS t (some (k : Int)) (some ((k : Int) + 2)) = "()") = decide ((((cl t).drop k).take (nx1 ((cl t).drop k)) = [94] ∧ (((cl t).drop k).drop (nx1 ((cl t).drop k))).take 1 = [46]) ∨ ((cl t).drop k).take 2 = [40, 41]) := by
            apply decide_eq_decide.mpr
            rw [tx_eq hx3 (show cl "()" = [40, 41] by decide)]
            exact ⟨.inr, fun z => z.elim (fun z => (hno z).elim) id⟩
          rw [this]
          exact hΦ
        refine ⟨hsz, ?_⟩
        refine br (fun e1 => ?_) (fun e1 => ?_)
        · have e1 := (tx_eq hx1 (show cl "^" = [94] by decide)).mp (eqT e1)
          refine ⟨hsz, ?_⟩
          refine br (fun e2 => ?_) (fun e2 => ?_)
          · have e2 := (tx_eq hx2 (show cl "." = [46] by decide)).mp (eqT e2)
            rw [decide_eq_true (.inl ⟨e1, e2⟩)] at hΦ
            exact hΦ
          · have e2 := mt (tx_eq hx2 (show cl "." = [46] by decide)).mpr (eqF e2)
            exact ⟨hsz, last _ rfl fun z => e2 z.2⟩
        · have e1 := mt (tx_eq hx1 (show cl "^" = [94] by decide)).mpr (eqF e1)
          refine brF rfl ?_
          exact ⟨hsz, last _ rfl fun z => e1 z.1⟩
      · intro e1
        rw [if_pos (of_decide_eq_true e1)] at hn
        exact h _ _ ⟨_, by omega, rfl, rfl⟩
      · intro e1
        rw [if_neg (of_decide_eq_false e1)] at hn
        exact h _ _ ⟨_, by omega, rfl, rfl⟩
    rintro _ _ ⟨j2, hj2, rfl, rfl⟩
    have hx4 : cl (cutS t (some (k : Int)) (some j2)) = ((cl t).drop k).take (nx ((cl t).drop k)) := by
      rw [cl_cut_mid rfl (b := k + nx ((cl t).drop k)) (by omega), Nat.add_sub_cancel_left]
    refine ⟨⟨_, su_same⟩, hsz, _, su_same, by rw [List.length_map]; unfold sizeLine; omega, ?_⟩
    refine ⟨_, ?_, k + nx ((cl t).drop k), ss ++ [cutS t (some (k : Int)) (some j2)], some (.int j2), rfl, by omega, ?_, ?_, ?_, ?_⟩
    · omega
    · show [_, _, some (Dt.int j2), _] = _
      rw [hj2]; rfl
    · rw [su_su, List.map_append]; rfl
    · rw [List.length_append, List.length_singleton]; omega
    · rw [List.map_append, List.map_singleton, hx4, List.append_assoc, ← hts]
      congr 1
      rw [tksA_cons (l := (cl t).drop k) (by rw [hD]; simp), List.drop_drop]; rfl
  · have e : k = (cl t).length := by have := of_decide_eq_false e; omega
    subst e
    refine ⟨_, su_same, ?_⟩
    rw [sdel_su hp]
    refine hk ss ?_
    rw [← hts, List.drop_eq_nil_of_le (Nat.le_refl _)]
    exact (List.append_nil _).symm

-- ==FN read

def R_read : Fsp := R1 fun y S Φ Ω => ∃ (t : Str) (w : Wd), y = .str t ∧ cl t = w.txt ∧ w.Ok ∧ small w ∧ t.length ≤ 1000 ∧ ∀ S', Ext S S' → Φ w.d S'
theorem ok_read {P : Program} {w : World} {K : PySem.W.Frag} {mg : Str → Option Value} {base : Heap} {a : Ad} (T : Tx K w mg a) : FnD P w K mg base 204 a.f_read a.d_read ["text"] R_read := by
  refine fnD1 (k := 203) T.F_read sc_read rfl (fun cdv A outer s H E c => (dss_cons (ds_set 1 c.nd (de_make0 c T.mk_Reader (ok_Reader___init T) (by decide) T.g_Reader T.b_Reader___init .nil (dvd := []) (fun _ _ => rfl))) (dss_cons (ds_for c (di_any (de_call c (ok_tokens_of T) (by decide) T.g_tokens_of T.F_tokens_of.kp T.b_tokens_of (da_cons (de_var 0) da_nil))) (dg_name (i := 2) c.nd) (dss_one (ds_expr (de_meth c T.cl_Reader T.me_Reader_part (ok_Reader_part T) (by decide) T.b_Reader_part (de_var 1) (da_cons (de_var 2) da_nil))))) (dss_cons (ds_expr (de_meth c T.cl_Reader T.me_Reader_need (ok_Reader_need T) (by decide) T.b_Reader_need (de_var 1) (da_cons (de_rel c.eq (de_len T.n_len (da_cons (de_fld T.cl_Reader T.na_Reader_rows (de_var 1)) da_nil)) de_int) da_nil))) (dss_cons (ds_asg (de_meth0 c T.cl_Reader T.me_Reader_closed (ok_Reader_closed T) (by decide) T.b_Reader_closed (de_var 1)) (dg_tup (n := 3) c.calm (dgs_cons (dg_name (i := 3) c.nd) (dgs_cons (dg_name (i := 4) c.nd) (dgs_cons (dg_name (i := 5) c.nd) dgs_nil))))) (dss_cons (ds_expr (de_meth c T.cl_Reader T.me_Reader_need (ok_Reader_need T) (by decide) T.b_Reader_need (de_var 1) (da_cons (de_rel c.eq (de_call c (ok_shown T 100) (by decide) T.g_shown T.F_shown.kp T.b_shown (da_cons (de_var 3) da_nil)) (de_var 0)) da_nil))) (dss_one (ds_ret (de_var 3))))))))) ?_
  rintro _ S Φ Ω ⟨t, w, rfl, htx, hw, hs, ht, hk⟩
  have hl := cl_len (x := t)
  obtain ⟨pe, hpe, ho, hwt, hc⟩ := readL_out (readL_txt hw hs)
  rw [← htx] at hpe
  intro x dx hx
  refine ⟨_, rfl, S, x, dx, rfl, su_same, Ext.refl.su hx, hx, fun S1 hR => ⟨rfl, ?_⟩⟩
  refine ⟨_, rfl, t, rfl, by omega, fun ss hss => ?_⟩
  have hsl : ss.length = (tksA (cl t)).length := by rw [← hss, List.length_map]
  have htl : (tksA (cl t)).length ≤ 1000 := by
    have := tks_len (cl t).length (cl t)
    unfold tksA
    omega
  refine ⟨fun i ρ' S' => ∃ q o2, stps ((tksA (cl t)).take i) ps0 = some q ∧ RdA a.C_Reader S S' x q.st q.wt ∧ q.bd i ∧ ρ' = [some (.str t), some (.ref x), o2, none, none, none], ?_, fun _ _ _ _ => trivial, ?_, ?_⟩
  · exact ⟨ps0, none, rfl, hR, ⟨Nat.le_refl _, fun f hf => by rw [List.mem_singleton.mp hf]; exact ⟨Nat.le_refl _, Nat.le_refl _, fun v hv => by cases hv⟩⟩, rfl⟩
  · rintro i d _ S2 hd ⟨q, o2, hq, hRA, hbd, rfl⟩
    rw [List.getElem?_map] at hd
    cases e : ss[i]? with
    | none => rw [e] at hd; cases hd
    | some s =>
      rw [e] at hd
      obtain rfl : Dt.str s = d := Option.some.inj hd
      have et : (tksA (cl t))[i]? = some (cl s) := by rw [← hss, List.getElem?_map, e]; rfl
      have ei : i < (tksA (cl t)).length := (List.getElem?_eq_some_iff.mp et).1
      have hmem : cl s ∈ tksA (cl t) := List.mem_of_getElem? et
      have hsl2 := tks_mem _ _ _ hmem
      have hs2 := cl_len (x := s)
      have etk : (tksA (cl t)).take (i + 1) = (tksA (cl t)).take i ++ [cl s] := by rw [List.take_add_one, et]; rfl
      obtain ⟨q', hq', _⟩ := stps_split (a := (tksA (cl t)).take (i + 1)) (b := (tksA (cl t)).drop (i + 1)) (by rw [List.take_append_drop]; exact hpe)
      have hst : stp (cl s) q = some q' := by
        have := hq'
        rw [etk, stps_app hq] at this
        have this : (match stp (cl s) q with | some q => some q | none => none) = some q' := this
        cases e : stp (cl s) q with
        | none => rw [e] at this; cases this
        | some q2 => rw [e] at this; exact this
      have hRA2 := hRA
      obtain ⟨dx2, r2, frs2, R2, hst2⟩ := hRA2
      refine ⟨dx2, _, R2.obj, rfl, ?_⟩
      refine ⟨_, _, rfl, S, x, q, q', s, rfl, rfl, by omega, hRA, hbd.up (by omega), hst, fun S' h => ?_⟩
      exact ⟨q', _, hq', h, stp_bd hst hbd, rfl⟩
  · rintro _ S2 ⟨q, o2, hq, hRA, hbd, rfl⟩
    rw [List.length_map, hsl, List.take_of_length_le (Nat.le_refl _), hpe] at hq
    rw [List.length_map, hsl] at hbd
    obtain rfl := Option.some.inj hq
    obtain ⟨out, al, ws, wt⟩ := pe
    obtain rfl : out = [] := ho
    obtain rfl : wt = false := hwt
    have hRA2 := hRA
    obtain ⟨dx2, r2, frs2, R2, hst2⟩ := hRA2
    have hbf : al.length ≤ 1000 ∧ ws.length ≤ 1000 ∧ ∀ v ∈ al, v.length ≤ 1000 := (hbd.up htl).2 _ (List.mem_cons_self ..)
    have hfl : frs2.length = 1 := by rw [← stOf_len, hst2]; rfl
    refine ⟨dx2, _, R2.obj, rfl, ?_⟩
    refine ⟨dx2, _, _, R2.obj, rfl, ?_⟩
    refine ⟨_, R2.rows, ?_⟩
    refine ⟨_, _, rfl, by rw [List.length_map, hfl]; rfl, ?_⟩
    refine ⟨dx2, _, R2.obj, rfl, ?_⟩
    refine ⟨_, rfl, S, x, [], al ++ [ws], w, rfl, hRA, closeW_joinAll hc, by rw [List.length_append, List.length_singleton]; omega, ?_, ?_⟩
    · intro v hv
      rcases List.mem_append.mp hv with hv | hv
      · have := hbf.2.2 v hv; omega
      · rw [List.mem_singleton.mp hv]; omega
    · rintro S3 ⟨dx3, r3, frs3, R3, hst3⟩
      refine ⟨rfl, ?_⟩
      refine ⟨dx3, _, R3.obj, rfl, ?_⟩
      have wz : w.sz ≤ 1000000 := by
        have h1 := w.sz_le
        have h2 : w.lv * w.dp ≤ 40 * 20 := Nat.mul_le_mul hs.2 hs.1
        omega
      refine ⟨_, rfl, w, rfl, by have := hs.1; omega, hw, wz, fun t2 ht2 => ?_⟩
      obtain rfl : t2 = t := cl_ext (ht2.trans htx.symm)
      refine ⟨_, _, rfl, by simp, ?_⟩
      exact hk S3 R3.ext

-- ==FN law

theorem ok_law {P : Program} {w : World} {K : PySem.W.Frag} {mg : Str → Option Value} {base : Heap} {a : Ad} (T : Tx K w mg a) : FnD P w K mg base 205 a.f_law a.d_law ["script"] RLaw := by
  refine fnDL (k := 204) T.F_law sc_law rfl (fun cdv A outer s H E c => (dss_cons (ds_set 1 c.nd (de_call c (ok_law_bag T) (by decide) T.g_law_bag T.F_law_bag.kp T.b_law_bag (da_cons (de_var 0) da_nil))) (dss_cons (ds_set 2 c.nd (de_tup (da_cons de_str da_nil))) (dss_cons (ds_for c (di_range1 T.n_range (da_cons (de_add de_int (de_callB (call_min2 c.calm) simMin2 T.n_min (by decide +kernel) (da_cons de_int (da_cons (de_fdiv (de_len T.n_len (da_cons (de_var 0) da_nil)) de_int) da_nil)))) da_nil)) (dg_name (i := 3) c.nd) (dss_cons (ds_set 4 c.nd (de_add de_int (de_call c (ok_law_draw T) (by decide) T.g_law_draw T.F_law_draw.kp T.b_law_draw (da_cons (de_var 1) (da_cons (de_ix (de_lst (da_cons de_int (da_cons de_int (da_cons de_int (da_cons de_int da_nil))))) (de_call c (ok_law_draw T) (by decide) T.g_law_draw T.F_law_draw.kp T.b_law_draw (da_cons (de_var 1) (da_cons de_int da_nil)))) da_nil))))) (dss_cons (ds_setLc (i := 5) (own := [("k", 9)]) c (sw_true rfl rfl rfl (by decide +kernel)) (di_range1 T.n_range (da_cons (de_add de_int (de_call c (ok_law_draw T) (by decide) T.g_law_draw T.F_law_draw.kp T.b_law_draw (da_cons (de_var 1) (da_cons de_int da_nil)))) da_nil)) (blkOk_by (N := ["script", "bag", "ahead", "again", "many", "names", "word", "due", "found", "k"]) (sc := defScope s_law) (by decide +kernel)) (dgx_name (i := 9) c.nd (fun _ _ _ _ _ => rfl) (fun _ _ _ _ _ => by first | exact Or.inl rfl | exact Or.inr rfl) (fun _ _ _ _ _ => by first | exact .inl rfl | exact .inr rfl) (by decide)) (fun _ _ _ _ _ => dts_nil) (fun _ _ _ _ _ => (de_call c.blk (ok_law_name T) (by decide) T.g_law_name T.F_law_name.kp T.b_law_name (da_cons (de_var 1) da_nil)))) (dss_cons (ds_set 6 c.nd (de_call c (ok_law_word T) (by decide) T.g_law_word T.F_law_word.kp T.b_law_word (da_cons (de_var 1) (da_cons (de_var 5) (da_cons (de_var 4) (da_cons (de_ix (de_lst (da_cons de_int (da_cons de_int da_nil))) (de_callTy ((call_int1).or call_int_str) simInt T.n_int (by decide +kernel) (da_cons (de_rel .gt (de_var 4) de_int) da_nil))) da_nil)))))) (dss_cons (ds_set 7 c.nd (de_call c (ok_law_written T 100) (by decide) T.g_law_written T.F_law_written.kp T.b_law_written (da_cons (de_var 6) da_nil))) (dss_cons (ds_if (dt_rel .le (de_len T.n_len (da_cons (de_var 7) da_nil)) de_int) (dss_cons (ds_set 8 c.nd (de_if (dt_rel c.eq (de_mod (de_var 3) de_int) de_int) (de_call c (ok_read T) (by decide) T.g_read T.F_read.kp T.b_read (da_cons (de_var 7) da_nil)) (de_callK0 c (ok_read T) (by decide) T.g_read T.F_read.kp T.kb_read_0 (dk_cons (de_var 7) dk_nil)))) (dss_one (ds_if (dt_w (dw_or (dt_not (dt_val (de_call c (ok_law_alike T 100) (by decide) T.g_law_alike T.F_law_alike.kp T.b_law_alike (da_cons (de_var 8) (da_cons (de_var 6) da_nil))))) (dw_or1 (dt_rel c.ne (de_call c (ok_shown T 100) (by decide) T.g_shown T.F_shown.kp T.b_shown (da_cons (de_var 8) da_nil)) (de_var 7))))) (dss_one (ds_ret de_bl)) dss_nil))) dss_nil) (dss_cons (ds_if (dt_rel c.ne (de_rel c.eq (de_call c (ok_shown T 100) (by decide) T.g_shown T.F_shown.kp T.b_shown (da_cons (de_var 6) da_nil)) (de_call c (ok_shown T 100) (by decide) T.g_shown T.F_shown.kp T.b_shown (da_cons (de_var 2) da_nil))) (de_rel c.eq (de_var 6) (de_var 2))) (dss_one (ds_ret de_bl)) dss_nil) (dss_one (ds_set 2 c.nd (de_var 6)))))))))) (dss_one (ds_ret de_bl)))))) ?_
  intro ns hl Φ Ω hk
  refine ⟨_, rfl, ns, rfl, hl, fun b xs hb hx => ?_⟩
  have hB : BagAt (su (fun _ => none) b (.lst xs)) b := ⟨xs, su_same, hx⟩
  generalize su (fun _ => none) b (.lst xs) = S0 at hB ⊢
  refine ⟨show 1 ≤ sizeLine by decide, ?_⟩
  refine ⟨⟨by decide, by decide⟩, ?_⟩
  have hm : ∀ i : Int, 0 ≤ i → 0 ≤ (if i < 3 then i else 3) ∧ (if i < 3 then i else 3) ≤ 3 := by intro i h; split <;> omega
  have hm := hm (((ns.map Dt.int).length : Int) / 8) (by omega)
  refine ⟨⟨?_, ?_⟩, ?_⟩
  · show -(2 ^ 62) ≤ 1 + (if ((ns.map Dt.int).length : Int) / 8 < 3 then ((ns.map Dt.int).length : Int) / 8 else 3)
    omega
  · show 1 + (if ((ns.map Dt.int).length : Int) / 8 < 3 then ((ns.map Dt.int).length : Int) / 8 else 3) < 2 ^ 62
    omega
  refine ⟨fun i ρ' S' => BagAt S' b ∧ ∃ (v : Wd) (o3 o4 o5 o6 o7 o8 o9 : Option Dt), v.Ok ∧ small v ∧ ρ' = [some (.rl (ns.map .int)), some (.ref b), some v.d, o3, o4, o5, o6, o7, o8, o9], ?_, fun _ _ _ _ => trivial, ?_, fun ρ' S' _ => hk _⟩
  · exact ⟨hB, .empty, none, none, none, none, none, none, none, trivial, ⟨by decide, by decide⟩, rfl⟩
  rintro i d _ S1 hd ⟨hB, v, o3, o4, o5, o6, o7, o8, o9, hv, hvs, rfl⟩
  refine ⟨show 4 ≤ sizeLine by decide, ?_⟩
  refine ⟨_, _, rfl, b, 4, rfl, rfl, by decide, by decide, hB, fun j S3 j0 j1 t3 => ?_⟩
  obtain ⟨mm, hmm, m1, m40⟩ : ∃ m : Int, atI [Dt.int 8, .int 8, .int 8, .int 40] j = some (.int m) ∧ 8 ≤ m ∧ m ≤ 40 := by
    have : j = 0 ∨ j = 1 ∨ j = 2 ∨ j = 3 := by omega
    rcases this with rfl | rfl | rfl | rfl
    · exact ⟨8, rfl, by decide, by decide⟩
    · exact ⟨8, rfl, by decide, by decide⟩
    · exact ⟨8, rfl, by decide, by decide⟩
    · exact ⟨40, rfl, by decide, by decide⟩
  refine ⟨_, hmm, ?_⟩
  refine ⟨_, _, rfl, b, mm, rfl, rfl, by omega, Nat.lt_trans (log2_lt (k := 6) (by decide) (by omega)) (by decide), t3.bag, fun mk S4 mk0 mk1 t4 => ?_⟩
  refine ⟨_, _, rfl, b, 3, rfl, rfl, by decide, by decide, t4.bag, fun nk S5 nk0 nk1 t5 => ?_⟩
  refine ⟨⟨show -(2 ^ 62) ≤ 1 + nk by omega, show 1 + nk < 2 ^ 62 by omega⟩, ?_⟩
  intro p hp
  have np : p ≠ b := t5.bag.ne hp
  refine ⟨fun i acc S' => ∃ S3, BS S5 b S3 ∧ S' = su S3 p (.lst acc) ∧ acc.length = i ∧ ∃ l : List Str, acc = l.map .str ∧ ∀ x ∈ l, NameOk x, ?_, ?_, ?_, ?_⟩
  · exact ⟨S5, BS.refl t5.bag, rfl, rfl, [], rfl, by simp⟩
  · rintro i acc S' ⟨S3, _, rfl, _⟩
    exact ⟨trivial, su_same⟩
  · rintro i d acc S' hd ⟨S3, t3, rfl, rfl, l, rfl, hl⟩
    have hi := (rngD_get hd).2
    refine ⟨by unfold sizeLine; rw [List.length_map] at hi ⊢; omega, ?_⟩
    refine ⟨_, rfl, b, rfl, t3.bag.su np, ?_⟩
    rintro _ S4 t4 ⟨s, rfl, hs⟩
    obtain ⟨S5, t5, rfl⟩ := t4.unsu np
    refine ⟨su_same, S5, t3.trans t5, su_su, by simp, l ++ [s], by simp, fun x hx => ?_⟩
    rw [List.mem_append, List.mem_singleton] at hx
    rcases hx with hx | rfl
    · exact hl x hx
    · exact hs
  rintro _ _ ⟨S6, t6, rfl, hlen, l, rfl, hnm⟩
  rw [rngD_len, List.length_map] at hlen
  rw [sdel_su (t6.sane np hp)]
  refine ⟨show 2 ≤ sizeLine by decide, ?_⟩
  obtain ⟨dp, hdp, d1, d2⟩ : ∃ dp : Int, atI [Dt.int 12, .int 20] (if decide (8 < 1 + mk) = true then 1 else 0) = some (.int dp) ∧ 7 ≤ dp ∧ dp ≤ 20 := by
    by_cases e : 8 < 1 + mk
    · rw [if_pos (decide_eq_true e)]; exact ⟨20, rfl, by decide, by decide⟩
    · rw [if_neg (by simp; omega)]; exact ⟨12, rfl, by decide, by decide⟩
  refine ⟨_, hdp, ?_⟩
  refine ⟨b, l, 1 + mk, dp, rfl, t6.bag, by omega, by omega, hnm, by omega, by omega, d1, by omega, fun w S7 t7 w1 w2 w3 => ?_⟩
  obtain ⟨rfl, hi⟩ := rngD_get hd
  have hws : small w := ⟨by omega, by omega⟩
  have wd : w.dp ≤ 100 := by omega
  have wz : w.sz ≤ 1000000 := by
    have h1 := w.sz_le
    have h2 : w.lv * w.dp ≤ 100 * 100 := Nat.mul_le_mul (by omega) (by omega)
    omega
  have vz : v.sz ≤ 1000000 := by
    have h1 := v.sz_le
    have h2 : v.lv * v.dp ≤ 40 * 20 := Nat.mul_le_mul hvs.2 hvs.1
    omega
  refine ⟨_, rfl, w, rfl, wd, w1, wz, fun t S8 x8 ht => ?_⟩
  have hB8 : BagAt S8 b := t7.bag.ext x8
  have htl := cl_len (x := t)
  have htl2 : (cl t).length ≤ 9000000 := by rw [ht]; have := w.txt_len w1; omega
  have hsz : t.length ≤ sizeLine := by unfold sizeLine; omega
  dsimp only
  refine seq_cut (fun ρ S' => ∃ o8, Ext S8 S' ∧ ρ = [some (.rl (ns.map .int)), some (.ref b), some v.d, some (.int (0 + (i : Int))), some (.int (1 + mk)), some (.lst (l.map .str)), some w.d, some (.str t), o8, o9]) ?_ ?_
  · intro nx h
    refine ⟨hsz, ?_⟩
    refine br (fun e => ?_) (fun e => ?_)
    · have e : (cl t).length ≤ 600 := by have := of_decide_eq_true e; omega
      refine seq_cut (fun ρ S' => Ext S8 S' ∧ ρ = [some (.rl (ns.map .int)), some (.ref b), some v.d, some (.int (0 + (i : Int))), some (.int (1 + mk)), some (.lst (l.map .str)), some w.d, some (.str t), some w.d, o9]) ?_ ?_
      · intro nx2 h2
        refine ⟨show (0 : Int) < 2 by decide, ?_⟩
        refine br (fun _ => ?_) (fun _ => ?_)
        · exact ⟨_, rfl, t, w, rfl, ht, w1, hws, by omega, fun S9 x9 => h2 _ _ ⟨x9, rfl⟩⟩
        · exact ⟨rfl, rfl, _, rfl, t, w, rfl, ht, w1, hws, by omega, fun S9 x9 => h2 _ _ ⟨x9, rfl⟩⟩
      · rintro _ S9 ⟨x9, rfl⟩
        refine if_cut false ?_ (fun z => by cases z) (fun _ => h _ _ ⟨_, x9, rfl⟩)
        intro Φ1 h1
        refine ⟨_, _, rfl, Same.refl 100 w.d (w.plain 100 (by omega)), ?_⟩
        refine ⟨_, rfl, w, rfl, wd, w1, wz, fun t2 ht2 => ?_⟩
        obtain rfl := cl_ext (ht2.trans ht.symm)
        show Φ1 (true != decide (t2 = t2)) S9
        rw [decide_eq_true rfl]
        exact h1
    · exact h _ _ ⟨_, Ext.refl, rfl⟩
  · rintro _ S9 ⟨o8, x9, rfl⟩
    refine seq_cut (fun ρ S' => S' = S9 ∧ ρ = [some (.rl (ns.map .int)), some (.ref b), some v.d, some (.int (0 + (i : Int))), some (.int (1 + mk)), some (.lst (l.map .str)), some w.d, some (.str t), o8, o9]) ?_ ?_
    · intro nx h
      refine if_cut false ?_ (fun z => by cases z) (fun _ => h _ _ ⟨rfl, rfl⟩)
      intro Φ1 h1
      refine ⟨_, rfl, w, rfl, wd, w1, wz, fun t2 ht2 => ?_⟩
      refine ⟨_, rfl, v, rfl, by have := hvs.1; omega, hv, vz, fun t3 ht3 => ?_⟩
      dsimp only
      refine fEq_str ?_
      refine fEq_wd w1 hv (by omega) (by have := hvs.1; omega) ?_
      have e : eqD w.d v.d = decide (t2 = t3) := by
        by_cases q : t2 = t3
        · obtain rfl := txt_inj w1 hws hv hvs (by rw [← ht2, ← ht3, q])
          rw [wd_refl, decide_eq_true q]
        · rw [decide_eq_false q]
          cases hh : eqD w.d v.d with
          | false => rfl
          | true =>
            obtain rfl := wd_eq w v hh
            exact absurd (cl_ext (ht2.trans ht3.symm)) q
      rw [e]
      show Φ1 (true != decide ((false != decide (t2 = t3)) = (false != decide (t2 = t3)))) S9
      rw [decide_eq_true rfl]
      exact h1
    · rintro _ _ ⟨rfl, rfl⟩
      exact ⟨hB8.ext x9, w, _, _, _, _, _, _, _, w1, hws, rfl⟩

theorem all_mk {l : PySem.W.OpenLaw} {w : World} {K : PySem.W.Frag} {h : Heap} {mg : Str → Option Value} {fa f_law_alike f_law_bag f_law_stirred f_law_draw f_law_name f_law_leaf f_law_word f_law_written f_Reader___init f_Reader_need f_sized f_joined f_Reader_closed f_Reader_item f_Reader_mark f_is_name f_leaf_of f_Reader_part f_shown f_bracketed f_tokens_of f_read f_law : Addr}
    {od_law_alike an_law_alike od_law_bag an_law_bag od_law_stirred an_law_stirred od_law_draw an_law_draw od_law_name an_law_name od_law_leaf an_law_leaf od_law_word an_law_word od_law_written an_law_written od_Reader___init an_Reader___init od_Reader_need an_Reader_need od_sized an_sized od_joined an_joined od_Reader_closed an_Reader_closed od_Reader_item an_Reader_item od_Reader_mark an_Reader_mark od_is_name an_is_name od_leaf_of an_leaf_of od_Reader_part an_Reader_part od_shown an_shown od_bracketed an_bracketed od_tokens_of an_tokens_of od_read an_read od_law an_law : Option Addr} {sl_law_alike sl_law_bag sl_law_stirred sl_law_draw sl_law_name sl_law_leaf sl_law_word sl_law_written sl_Reader___init sl_Reader_need sl_sized sl_joined sl_Reader_closed sl_Reader_item sl_Reader_mark sl_is_name sl_leaf_of sl_Reader_part sl_shown sl_bracketed sl_tokens_of sl_read sl_law : Array (Option Value)} {oc_law_alike kV_law_alike dc_law_alike pm_law_alike cd_law_alike ct_law_alike oc_law_bag kV_law_bag dc_law_bag pm_law_bag cd_law_bag ct_law_bag oc_law_stirred kV_law_stirred dc_law_stirred pm_law_stirred cd_law_stirred ct_law_stirred oc_law_draw kV_law_draw dc_law_draw pm_law_draw cd_law_draw ct_law_draw oc_law_name kV_law_name dc_law_name pm_law_name cd_law_name ct_law_name oc_law_leaf kV_law_leaf dc_law_leaf pm_law_leaf cd_law_leaf ct_law_leaf oc_law_word kV_law_word dc_law_word pm_law_word cd_law_word ct_law_word oc_law_written kV_law_written dc_law_written pm_law_written cd_law_written ct_law_written oc_Reader___init kV_Reader___init dc_Reader___init pm_Reader___init cd_Reader___init ct_Reader___init oc_Reader_need kV_Reader_need dc_Reader_need pm_Reader_need cd_Reader_need ct_Reader_need oc_sized kV_sized dc_sized pm_sized cd_sized ct_sized oc_joined kV_joined dc_joined pm_joined cd_joined ct_joined oc_Reader_closed kV_Reader_closed dc_Reader_closed pm_Reader_closed cd_Reader_closed ct_Reader_closed oc_Reader_item kV_Reader_item dc_Reader_item pm_Reader_item cd_Reader_item ct_Reader_item oc_Reader_mark kV_Reader_mark dc_Reader_mark pm_Reader_mark cd_Reader_mark ct_Reader_mark oc_is_name kV_is_name dc_is_name pm_is_name cd_is_name ct_is_name oc_leaf_of kV_leaf_of dc_leaf_of pm_leaf_of cd_leaf_of ct_leaf_of oc_Reader_part kV_Reader_part dc_Reader_part pm_Reader_part cd_Reader_part ct_Reader_part oc_shown kV_shown dc_shown pm_shown cd_shown ct_shown oc_bracketed kV_bracketed dc_bracketed pm_bracketed cd_bracketed ct_bracketed oc_tokens_of kV_tokens_of dc_tokens_of pm_tokens_of cd_tokens_of ct_tokens_of oc_read kV_read dc_read pm_read cd_read ct_read oc_law kV_law dc_law pm_law cd_law ct_law : Value}
    {da_BARE : Addr} {es_BARE : Array DictEntry} {dn_BARE : Nat} {t_BARE_0_0 : Nat} {t_BARE_1_0 : Nat} {t_BARE_2_0 : Nat} {t_BARE_3_0 : Nat} {va_BARE_0 : Addr} {vo_BARE_0 : Option Addr} {vn_BARE_0 : Nat} {ve_BARE_0 : Array (Option Value)} {va_BARE_1 : Addr} {vo_BARE_1 : Option Addr} {vn_BARE_1 : Nat} {ve_BARE_1 : Array (Option Value)} {va_BARE_2 : Addr} {vo_BARE_2 : Option Addr} {vn_BARE_2 : Nat} {ve_BARE_2 : Array (Option Value)} {va_BARE_3 : Addr} {vo_BARE_3 : Option Addr} {vn_BARE_3 : Nat} {ve_BARE_3 : Array (Option Value)} {da_HEADS : Addr} {es_HEADS : Array DictEntry} {dn_HEADS : Nat} {t_HEADS_0 : Nat} {t_HEADS_1 : Nat} {t_HEADS_2 : Nat} {t_LETTERS : Nat} {da_MARKS : Addr} {es_MARKS : Array DictEntry} {dn_MARKS : Nat} {t_MARKS_0 : Nat} {t_MARKS_1 : Nat} {t_MARKS_2 : Nat} {t_MOST_DEEP : Nat} {t_MOST_LEAVES : Nat} {t_MOST_SIGNS : Nat} {da_STILLS : Addr} {es_STILLS : Array DictEntry} {dn_STILLS : Nat} {t_STILLS_0 : Nat} {t_STILLS_1 : Nat} {t_STILLS_2 : Nat} {t_STILLS_3 : Nat} {C_Reader : Addr}
    (X : K.In h) (G : h.Ns mainGlobals mg) (hfa : mg "law" = some (.ref fa))
    (a_law_alike : PySem.W.nsIn K mainGlobals "_law_alike" = some (some (.ref f_law_alike))) (l_law_alike : K.lookup f_law_alike = some ⟨oc_law_alike, od_law_alike, .func (PySem.W.fnOf "_law_alike" "_law_alike" (defArgs s_law_alike) (defBody s_law_alike) (defScope s_law_alike) .none kV_law_alike dc_law_alike pm_law_alike an_law_alike cd_law_alike ct_law_alike), sl_law_alike⟩) (c_law_alike : PySem.W.codeIn K cd_law_alike "_law_alike" = true) (k_law_alike : PySem.W.keepIn K (.ref f_law_alike) = true)
    (a_law_bag : PySem.W.nsIn K mainGlobals "_law_bag" = some (some (.ref f_law_bag))) (l_law_bag : K.lookup f_law_bag = some ⟨oc_law_bag, od_law_bag, .func (PySem.W.fnOf "_law_bag" "_law_bag" (defArgs s_law_bag) (defBody s_law_bag) (defScope s_law_bag) .none kV_law_bag dc_law_bag pm_law_bag an_law_bag cd_law_bag ct_law_bag), sl_law_bag⟩) (c_law_bag : PySem.W.codeIn K cd_law_bag "_law_bag" = true) (k_law_bag : PySem.W.keepIn K (.ref f_law_bag) = true)
    (a_law_stirred : PySem.W.nsIn K mainGlobals "_law_stirred" = some (some (.ref f_law_stirred))) (l_law_stirred : K.lookup f_law_stirred = some ⟨oc_law_stirred, od_law_stirred, .func (PySem.W.fnOf "_law_stirred" "_law_stirred" (defArgs s_law_stirred) (defBody s_law_stirred) (defScope s_law_stirred) .none kV_law_stirred dc_law_stirred pm_law_stirred an_law_stirred cd_law_stirred ct_law_stirred), sl_law_stirred⟩) (c_law_stirred : PySem.W.codeIn K cd_law_stirred "_law_stirred" = true) (k_law_stirred : PySem.W.keepIn K (.ref f_law_stirred) = true)
    (a_law_draw : PySem.W.nsIn K mainGlobals "_law_draw" = some (some (.ref f_law_draw))) (l_law_draw : K.lookup f_law_draw = some ⟨oc_law_draw, od_law_draw, .func (PySem.W.fnOf "_law_draw" "_law_draw" (defArgs s_law_draw) (defBody s_law_draw) (defScope s_law_draw) .none kV_law_draw dc_law_draw pm_law_draw an_law_draw cd_law_draw ct_law_draw), sl_law_draw⟩) (c_law_draw : PySem.W.codeIn K cd_law_draw "_law_draw" = true) (k_law_draw : PySem.W.keepIn K (.ref f_law_draw) = true)
    (a_law_name : PySem.W.nsIn K mainGlobals "_law_name" = some (some (.ref f_law_name))) (l_law_name : K.lookup f_law_name = some ⟨oc_law_name, od_law_name, .func (PySem.W.fnOf "_law_name" "_law_name" (defArgs s_law_name) (defBody s_law_name) (defScope s_law_name) .none kV_law_name dc_law_name pm_law_name an_law_name cd_law_name ct_law_name), sl_law_name⟩) (c_law_name : PySem.W.codeIn K cd_law_name "_law_name" = true) (k_law_name : PySem.W.keepIn K (.ref f_law_name) = true)
    (a_law_leaf : PySem.W.nsIn K mainGlobals "_law_leaf" = some (some (.ref f_law_leaf))) (l_law_leaf : K.lookup f_law_leaf = some ⟨oc_law_leaf, od_law_leaf, .func (PySem.W.fnOf "_law_leaf" "_law_leaf" (defArgs s_law_leaf) (defBody s_law_leaf) (defScope s_law_leaf) .none kV_law_leaf dc_law_leaf pm_law_leaf an_law_leaf cd_law_leaf ct_law_leaf), sl_law_leaf⟩) (c_law_leaf : PySem.W.codeIn K cd_law_leaf "_law_leaf" = true) (k_law_leaf : PySem.W.keepIn K (.ref f_law_leaf) = true)
    (a_law_word : PySem.W.nsIn K mainGlobals "_law_word" = some (some (.ref f_law_word))) (l_law_word : K.lookup f_law_word = some ⟨oc_law_word, od_law_word, .func (PySem.W.fnOf "_law_word" "_law_word" (defArgs s_law_word) (defBody s_law_word) (defScope s_law_word) .none kV_law_word dc_law_word pm_law_word an_law_word cd_law_word ct_law_word), sl_law_word⟩) (c_law_word : PySem.W.codeIn K cd_law_word "_law_word" = true) (k_law_word : PySem.W.keepIn K (.ref f_law_word) = true)
    (a_law_written : PySem.W.nsIn K mainGlobals "_law_written" = some (some (.ref f_law_written))) (l_law_written : K.lookup f_law_written = some ⟨oc_law_written, od_law_written, .func (PySem.W.fnOf "_law_written" "_law_written" (defArgs s_law_written) (defBody s_law_written) (defScope s_law_written) .none kV_law_written dc_law_written pm_law_written an_law_written cd_law_written ct_law_written), sl_law_written⟩) (c_law_written : PySem.W.codeIn K cd_law_written "_law_written" = true) (k_law_written : PySem.W.keepIn K (.ref f_law_written) = true)
    (a_Reader___init : PySem.W.findIn K (.ref C_Reader) "__init__" = some (some (.ref f_Reader___init))) (i_Reader___init : PySem.W.isFn K (.ref f_Reader___init) = true) (l_Reader___init : K.lookup f_Reader___init = some ⟨oc_Reader___init, od_Reader___init, .func (PySem.W.fnOf "__init__" "Reader.__init__" (defArgs s_Reader___init) (defBody s_Reader___init) (defScope s_Reader___init) .none kV_Reader___init dc_Reader___init pm_Reader___init an_Reader___init cd_Reader___init ct_Reader___init), sl_Reader___init⟩) (c_Reader___init : PySem.W.codeIn K cd_Reader___init "Reader.__init__" = true) (k_Reader___init : PySem.W.keepIn K (.ref f_Reader___init) = true)
    (a_Reader_need : PySem.W.findIn K (.ref C_Reader) "need" = some (some (.ref f_Reader_need))) (i_Reader_need : PySem.W.isFn K (.ref f_Reader_need) = true) (l_Reader_need : K.lookup f_Reader_need = some ⟨oc_Reader_need, od_Reader_need, .func (PySem.W.fnOf "need" "Reader.need" (defArgs s_Reader_need) (defBody s_Reader_need) (defScope s_Reader_need) .none kV_Reader_need dc_Reader_need pm_Reader_need an_Reader_need cd_Reader_need ct_Reader_need), sl_Reader_need⟩) (c_Reader_need : PySem.W.codeIn K cd_Reader_need "Reader.need" = true) (k_Reader_need : PySem.W.keepIn K (.ref f_Reader_need) = true)
    (a_sized : PySem.W.nsIn K mainGlobals "sized" = some (some (.ref f_sized))) (l_sized : K.lookup f_sized = some ⟨oc_sized, od_sized, .func (PySem.W.fnOf "sized" "sized" (defArgs s_sized) (defBody s_sized) (defScope s_sized) .none kV_sized dc_sized pm_sized an_sized cd_sized ct_sized), sl_sized⟩) (c_sized : PySem.W.codeIn K cd_sized "sized" = true) (k_sized : PySem.W.keepIn K (.ref f_sized) = true)
    (a_joined : PySem.W.nsIn K mainGlobals "joined" = some (some (.ref f_joined))) (l_joined : K.lookup f_joined = some ⟨oc_joined, od_joined, .func (PySem.W.fnOf "joined" "joined" (defArgs s_joined) (defBody s_joined) (defScope s_joined) .none kV_joined dc_joined pm_joined an_joined cd_joined ct_joined), sl_joined⟩) (c_joined : PySem.W.codeIn K cd_joined "joined" = true) (k_joined : PySem.W.keepIn K (.ref f_joined) = true)
    (a_Reader_closed : PySem.W.findIn K (.ref C_Reader) "closed" = some (some (.ref f_Reader_closed))) (i_Reader_closed : PySem.W.isFn K (.ref f_Reader_closed) = true) (l_Reader_closed : K.lookup f_Reader_closed = some ⟨oc_Reader_closed, od_Reader_closed, .func (PySem.W.fnOf "closed" "Reader.closed" (defArgs s_Reader_closed) (defBody s_Reader_closed) (defScope s_Reader_closed) .none kV_Reader_closed dc_Reader_closed pm_Reader_closed an_Reader_closed cd_Reader_closed ct_Reader_closed), sl_Reader_closed⟩) (c_Reader_closed : PySem.W.codeIn K cd_Reader_closed "Reader.closed" = true) (k_Reader_closed : PySem.W.keepIn K (.ref f_Reader_closed) = true)
    (a_Reader_item : PySem.W.findIn K (.ref C_Reader) "item" = some (some (.ref f_Reader_item))) (i_Reader_item : PySem.W.isFn K (.ref f_Reader_item) = true) (l_Reader_item : K.lookup f_Reader_item = some ⟨oc_Reader_item, od_Reader_item, .func (PySem.W.fnOf "item" "Reader.item" (defArgs s_Reader_item) (defBody s_Reader_item) (defScope s_Reader_item) .none kV_Reader_item dc_Reader_item pm_Reader_item an_Reader_item cd_Reader_item ct_Reader_item), sl_Reader_item⟩) (c_Reader_item : PySem.W.codeIn K cd_Reader_item "Reader.item" = true) (k_Reader_item : PySem.W.keepIn K (.ref f_Reader_item) = true)
    (a_Reader_mark : PySem.W.findIn K (.ref C_Reader) "mark" = some (some (.ref f_Reader_mark))) (i_Reader_mark : PySem.W.isFn K (.ref f_Reader_mark) = true) (l_Reader_mark : K.lookup f_Reader_mark = some ⟨oc_Reader_mark, od_Reader_mark, .func (PySem.W.fnOf "mark" "Reader.mark" (defArgs s_Reader_mark) (defBody s_Reader_mark) (defScope s_Reader_mark) .none kV_Reader_mark dc_Reader_mark pm_Reader_mark an_Reader_mark cd_Reader_mark ct_Reader_mark), sl_Reader_mark⟩) (c_Reader_mark : PySem.W.codeIn K cd_Reader_mark "Reader.mark" = true) (k_Reader_mark : PySem.W.keepIn K (.ref f_Reader_mark) = true)
    (a_is_name : PySem.W.nsIn K mainGlobals "is_name" = some (some (.ref f_is_name))) (l_is_name : K.lookup f_is_name = some ⟨oc_is_name, od_is_name, .func (PySem.W.fnOf "is_name" "is_name" (defArgs s_is_name) (defBody s_is_name) (defScope s_is_name) .none kV_is_name dc_is_name pm_is_name an_is_name cd_is_name ct_is_name), sl_is_name⟩) (c_is_name : PySem.W.codeIn K cd_is_name "is_name" = true) (k_is_name : PySem.W.keepIn K (.ref f_is_name) = true)
    (a_leaf_of : PySem.W.nsIn K mainGlobals "leaf_of" = some (some (.ref f_leaf_of))) (l_leaf_of : K.lookup f_leaf_of = some ⟨oc_leaf_of, od_leaf_of, .func (PySem.W.fnOf "leaf_of" "leaf_of" (defArgs s_leaf_of) (defBody s_leaf_of) (defScope s_leaf_of) .none kV_leaf_of dc_leaf_of pm_leaf_of an_leaf_of cd_leaf_of ct_leaf_of), sl_leaf_of⟩) (c_leaf_of : PySem.W.codeIn K cd_leaf_of "leaf_of" = true) (k_leaf_of : PySem.W.keepIn K (.ref f_leaf_of) = true)
    (a_Reader_part : PySem.W.findIn K (.ref C_Reader) "part" = some (some (.ref f_Reader_part))) (i_Reader_part : PySem.W.isFn K (.ref f_Reader_part) = true) (l_Reader_part : K.lookup f_Reader_part = some ⟨oc_Reader_part, od_Reader_part, .func (PySem.W.fnOf "part" "Reader.part" (defArgs s_Reader_part) (defBody s_Reader_part) (defScope s_Reader_part) .none kV_Reader_part dc_Reader_part pm_Reader_part an_Reader_part cd_Reader_part ct_Reader_part), sl_Reader_part⟩) (c_Reader_part : PySem.W.codeIn K cd_Reader_part "Reader.part" = true) (k_Reader_part : PySem.W.keepIn K (.ref f_Reader_part) = true)
    (a_shown : PySem.W.nsIn K mainGlobals "shown" = some (some (.ref f_shown))) (l_shown : K.lookup f_shown = some ⟨oc_shown, od_shown, .func (PySem.W.fnOf "shown" "shown" (defArgs s_shown) (defBody s_shown) (defScope s_shown) .none kV_shown dc_shown pm_shown an_shown cd_shown ct_shown), sl_shown⟩) (c_shown : PySem.W.codeIn K cd_shown "shown" = true) (k_shown : PySem.W.keepIn K (.ref f_shown) = true)
    (a_bracketed : PySem.W.nsIn K mainGlobals "bracketed" = some (some (.ref f_bracketed))) (l_bracketed : K.lookup f_bracketed = some ⟨oc_bracketed, od_bracketed, .func (PySem.W.fnOf "bracketed" "bracketed" (defArgs s_bracketed) (defBody s_bracketed) (defScope s_bracketed) .none kV_bracketed dc_bracketed pm_bracketed an_bracketed cd_bracketed ct_bracketed), sl_bracketed⟩) (c_bracketed : PySem.W.codeIn K cd_bracketed "bracketed" = true) (k_bracketed : PySem.W.keepIn K (.ref f_bracketed) = true)
    (a_tokens_of : PySem.W.nsIn K mainGlobals "tokens_of" = some (some (.ref f_tokens_of))) (l_tokens_of : K.lookup f_tokens_of = some ⟨oc_tokens_of, od_tokens_of, .func (PySem.W.fnOf "tokens_of" "tokens_of" (defArgs s_tokens_of) (defBody s_tokens_of) (defScope s_tokens_of) .none kV_tokens_of dc_tokens_of pm_tokens_of an_tokens_of cd_tokens_of ct_tokens_of), sl_tokens_of⟩) (c_tokens_of : PySem.W.codeIn K cd_tokens_of "tokens_of" = true) (k_tokens_of : PySem.W.keepIn K (.ref f_tokens_of) = true)
    (a_read : PySem.W.nsIn K mainGlobals "read" = some (some (.ref f_read))) (l_read : K.lookup f_read = some ⟨oc_read, od_read, .func (PySem.W.fnOf "read" "read" (defArgs s_read) (defBody s_read) (defScope s_read) .none kV_read dc_read pm_read an_read cd_read ct_read), sl_read⟩) (c_read : PySem.W.codeIn K cd_read "read" = true) (k_read : PySem.W.keepIn K (.ref f_read) = true)
    (a_law : PySem.W.nsIn K mainGlobals "law" = some (some (.ref f_law))) (l_law : K.lookup f_law = some ⟨oc_law, od_law, .func (PySem.W.fnOf "law" "law" (defArgs s_law) (defBody s_law) (defScope s_law) .none kV_law dc_law pm_law an_law cd_law ct_law), sl_law⟩) (c_law : PySem.W.codeIn K cd_law "law" = true) (k_law : PySem.W.keepIn K (.ref f_law) = true)
    (z_abs : PySem.W.nsIn K mainGlobals "abs" = some none)
    (z_all : PySem.W.nsIn K mainGlobals "all" = some none)
    (z_bool : PySem.W.nsIn K mainGlobals "bool" = some none)
    (z_int : PySem.W.nsIn K mainGlobals "int" = some none)
    (z_isinstance : PySem.W.nsIn K mainGlobals "isinstance" = some none)
    (z_len : PySem.W.nsIn K mainGlobals "len" = some none)
    (z_list : PySem.W.nsIn K mainGlobals "list" = some none)
    (z_max : PySem.W.nsIn K mainGlobals "max" = some none)
    (z_min : PySem.W.nsIn K mainGlobals "min" = some none)
    (z_range : PySem.W.nsIn K mainGlobals "range" = some none)
    (z_str : PySem.W.nsIn K mainGlobals "str" = some none)
    (z_tuple : PySem.W.nsIn K mainGlobals "tuple" = some none)
    (q_BARE : PySem.W.nsIn K mainGlobals "BARE" = some (some (.ref da_BARE))) (dl_BARE : K.lookup da_BARE = some ⟨.type "dict", none, .dict es_BARE dn_BARE, #[]⟩) (dk_BARE : PySem.W.KeysLit w.params es_BARE.toList) (ds_BARE : (da_BARE == sysModules) = false) (di_BARE : keyIs es_BARE.toList [".", "^.", "()", "!"] = true)
    (dv_BARE_0 : PySem.W.nsIn K da_BARE "." = some (some (.ref va_BARE_0))) (dt_BARE_0 : K.lookup va_BARE_0 = some ⟨.type "tuple", vo_BARE_0, .seq ([.str "any" t_BARE_0_0] : List Value).toArray vn_BARE_0, ve_BARE_0⟩)
    (dv_BARE_1 : PySem.W.nsIn K da_BARE "^." = some (some (.ref va_BARE_1))) (dt_BARE_1 : K.lookup va_BARE_1 = some ⟨.type "tuple", vo_BARE_1, .seq ([.str "anyback" t_BARE_1_0] : List Value).toArray vn_BARE_1, ve_BARE_1⟩)
    (dv_BARE_2 : PySem.W.nsIn K da_BARE "()" = some (some (.ref va_BARE_2))) (dt_BARE_2 : K.lookup va_BARE_2 = some ⟨.type "tuple", vo_BARE_2, .seq ([.str "empty" t_BARE_2_0] : List Value).toArray vn_BARE_2, ve_BARE_2⟩)
    (dv_BARE_3 : PySem.W.nsIn K da_BARE "!" = some (some (.ref va_BARE_3))) (dt_BARE_3 : K.lookup va_BARE_3 = some ⟨.type "tuple", vo_BARE_3, .seq ([.str "none" t_BARE_3_0] : List Value).toArray vn_BARE_3, ve_BARE_3⟩)
    (q_HEADS : PySem.W.nsIn K mainGlobals "HEADS" = some (some (.ref da_HEADS))) (dl_HEADS : K.lookup da_HEADS = some ⟨.type "dict", none, .dict es_HEADS dn_HEADS, #[]⟩) (dk_HEADS : PySem.W.KeysLit w.params es_HEADS.toList) (ds_HEADS : (da_HEADS == sysModules) = false) (di_HEADS : keyIs es_HEADS.toList ["*", "+", "?"] = true)
    (dv_HEADS_0 : PySem.W.nsIn K da_HEADS "*" = some (some (.str "again" t_HEADS_0)))
    (dv_HEADS_1 : PySem.W.nsIn K da_HEADS "+" = some (some (.str "more" t_HEADS_1)))
    (dv_HEADS_2 : PySem.W.nsIn K da_HEADS "?" = some (some (.str "maybe" t_HEADS_2)))
    (q_LETTERS : PySem.W.nsIn K mainGlobals "LETTERS" = some (some (.str "abcdefghijklmnopqrstuvwxyz" t_LETTERS)))
    (q_MARKS : PySem.W.nsIn K mainGlobals "MARKS" = some (some (.ref da_MARKS))) (dl_MARKS : K.lookup da_MARKS = some ⟨.type "dict", none, .dict es_MARKS dn_MARKS, #[]⟩) (dk_MARKS : PySem.W.KeysLit w.params es_MARKS.toList) (ds_MARKS : (da_MARKS == sysModules) = false) (di_MARKS : keyIs es_MARKS.toList ["again", "more", "maybe"] = true)
    (dv_MARKS_0 : PySem.W.nsIn K da_MARKS "again" = some (some (.str "*" t_MARKS_0)))
    (dv_MARKS_1 : PySem.W.nsIn K da_MARKS "more" = some (some (.str "+" t_MARKS_1)))
    (dv_MARKS_2 : PySem.W.nsIn K da_MARKS "maybe" = some (some (.str "?" t_MARKS_2)))
    (q_MOST_DEEP : PySem.W.nsIn K mainGlobals "MOST_DEEP" = some (some (.int 20 t_MOST_DEEP)))
    (q_MOST_LEAVES : PySem.W.nsIn K mainGlobals "MOST_LEAVES" = some (some (.int 40 t_MOST_LEAVES)))
    (q_MOST_SIGNS : PySem.W.nsIn K mainGlobals "MOST_SIGNS" = some (some (.int 8 t_MOST_SIGNS)))
    (q_STILLS : PySem.W.nsIn K mainGlobals "STILLS" = some (some (.ref da_STILLS))) (dl_STILLS : K.lookup da_STILLS = some ⟨.type "dict", none, .dict es_STILLS dn_STILLS, #[]⟩) (dk_STILLS : PySem.W.KeysLit w.params es_STILLS.toList) (ds_STILLS : (da_STILLS == sysModules) = false) (di_STILLS : keyIs es_STILLS.toList ["any", "anyback", "empty", "none"] = true)
    (dv_STILLS_0 : PySem.W.nsIn K da_STILLS "any" = some (some (.str "." t_STILLS_0)))
    (dv_STILLS_1 : PySem.W.nsIn K da_STILLS "anyback" = some (some (.str "^." t_STILLS_1)))
    (dv_STILLS_2 : PySem.W.nsIn K da_STILLS "empty" = some (some (.str "()" t_STILLS_2)))
    (dv_STILLS_3 : PySem.W.nsIn K da_STILLS "none" = some (some (.str "!" t_STILLS_3)))
    (ga_Reader : PySem.W.nsIn K mainGlobals "Reader" = some (some (.ref C_Reader))) (pg_Reader : PySem.W.plainGet K C_Reader Str.empty = true) (hd_Reader : PySem.W.hasDictIn K C_Reader = true) (po_Reader : PySem.W.plainOver K C_Reader = true) (sa_Reader : PySem.W.findIn K (.ref C_Reader) "__setattr__" = some (some (.builtin "object.__setattr__")))
    (mk_Reader : PySem.W.makesIn K C_Reader = true) (kc_Reader : PySem.W.keepIn K (.ref C_Reader) = true)
    (na_Reader_rows : PySem.W.findIn K (.ref C_Reader) "rows" = some none)
    (na_Reader_wanted : PySem.W.findIn K (.ref C_Reader) "wanted" = some none)
    : ∃ fd : FuncData, (∀ (s : Shared) (v : Value), BindsTo s fd ⟨[v], []⟩ [("script", v)]) ∧ ∀ base : Heap, K.In base → base.Ns mainGlobals mg → FnD l.prog w K mg base 205 fa fd ["script"] RLaw := by
  have e := hfa.symm.trans (PySem.W.mg_of X G a_law)
  cases e
  have F_law_alike := fun_mk (st := s_law_alike) l_law_alike c_law_alike k_law_alike
  have b_law_alike := F_law_alike.binds (ps := ["found", "due"]) fun _ _ _ _ _ _ us hl => match us, hl with | [_, _], _ => rfl
  have F_law_bag := fun_mk (st := s_law_bag) l_law_bag c_law_bag k_law_bag
  have b_law_bag := F_law_bag.binds (ps := ["script"]) fun _ _ _ _ _ _ us hl => match us, hl with | [_], _ => rfl
  have F_law_stirred := fun_mk (st := s_law_stirred) l_law_stirred c_law_stirred k_law_stirred
  have b_law_stirred := F_law_stirred.binds (ps := ["bag", "many"]) fun _ _ _ _ _ _ us hl => match us, hl with | [_, _], _ => rfl
  have F_law_draw := fun_mk (st := s_law_draw) l_law_draw c_law_draw k_law_draw
  have b_law_draw := F_law_draw.binds (ps := ["bag", "many"]) fun _ _ _ _ _ _ us hl => match us, hl with | [_, _], _ => rfl
  have F_law_name := fun_mk (st := s_law_name) l_law_name c_law_name k_law_name
  have b_law_name := F_law_name.binds (ps := ["bag"]) fun _ _ _ _ _ _ us hl => match us, hl with | [_], _ => rfl
  have F_law_leaf := fun_mk (st := s_law_leaf) l_law_leaf c_law_leaf k_law_leaf
  have b_law_leaf := F_law_leaf.binds (ps := ["bag", "names"]) fun _ _ _ _ _ _ us hl => match us, hl with | [_, _], _ => rfl
  have F_law_word := fun_mk (st := s_law_word) l_law_word c_law_word k_law_word
  have b_law_word := F_law_word.binds (ps := ["bag", "names", "many", "deep"]) fun _ _ _ _ _ _ us hl => match us, hl with | [_, _, _, _], _ => rfl
  have F_law_written := fun_mk (st := s_law_written) l_law_written c_law_written k_law_written
  have b_law_written := F_law_written.binds (ps := ["word"]) fun _ _ _ _ _ _ us hl => match us, hl with | [_], _ => rfl
  have F_Reader___init := fun_mk (st := s_Reader___init) l_Reader___init c_Reader___init k_Reader___init
  have b_Reader___init := F_Reader___init.binds (ps := ["self"]) fun _ _ _ _ _ _ us hl => match us, hl with | [_], _ => rfl
  have F_Reader_need := fun_mk (st := s_Reader_need) l_Reader_need c_Reader_need k_Reader_need
  have b_Reader_need := F_Reader_need.binds (ps := ["self", "truth"]) fun _ _ _ _ _ _ us hl => match us, hl with | [_, _], _ => rfl
  have F_sized := fun_mk (st := s_sized) l_sized c_sized k_sized
  have F_joined := fun_mk (st := s_joined) l_joined c_joined k_joined
  have b_joined := F_joined.binds (ps := ["head", "items"]) fun _ _ _ _ _ _ us hl => match us, hl with | [_, _], _ => rfl
  have F_Reader_closed := fun_mk (st := s_Reader_closed) l_Reader_closed c_Reader_closed k_Reader_closed
  have b_Reader_closed := F_Reader_closed.binds (ps := ["self"]) fun _ _ _ _ _ _ us hl => match us, hl with | [_], _ => rfl
  have F_Reader_item := fun_mk (st := s_Reader_item) l_Reader_item c_Reader_item k_Reader_item
  have b_Reader_item := F_Reader_item.binds (ps := ["self", "one"]) fun _ _ _ _ _ _ us hl => match us, hl with | [_, _], _ => rfl
  have F_Reader_mark := fun_mk (st := s_Reader_mark) l_Reader_mark c_Reader_mark k_Reader_mark
  have b_Reader_mark := F_Reader_mark.binds (ps := ["self", "head"]) fun _ _ _ _ _ _ us hl => match us, hl with | [_, _], _ => rfl
  have F_is_name := fun_mk (st := s_is_name) l_is_name c_is_name k_is_name
  have b_is_name := F_is_name.binds (ps := ["text"]) fun _ _ _ _ _ _ us hl => match us, hl with | [_], _ => rfl
  have F_leaf_of := fun_mk (st := s_leaf_of) l_leaf_of c_leaf_of k_leaf_of
  have b_leaf_of := F_leaf_of.binds (ps := ["token"]) fun _ _ _ _ _ _ us hl => match us, hl with | [_], _ => rfl
  have F_Reader_part := fun_mk (st := s_Reader_part) l_Reader_part c_Reader_part k_Reader_part
  have b_Reader_part := F_Reader_part.binds (ps := ["self", "token"]) fun _ _ _ _ _ _ us hl => match us, hl with | [_, _], _ => rfl
  have F_shown := fun_mk (st := s_shown) l_shown c_shown k_shown
  have b_shown := F_shown.binds (ps := ["word"]) fun _ _ _ _ _ _ us hl => match us, hl with | [_], _ => rfl
  have F_bracketed := fun_mk (st := s_bracketed) l_bracketed c_bracketed k_bracketed
  have b_bracketed := F_bracketed.binds (ps := ["word", "heads"]) fun _ _ _ _ _ _ us hl => match us, hl with | [_, _], _ => rfl
  have F_tokens_of := fun_mk (st := s_tokens_of) l_tokens_of c_tokens_of k_tokens_of
  have b_tokens_of := F_tokens_of.binds (ps := ["text"]) fun _ _ _ _ _ _ us hl => match us, hl with | [_], _ => rfl
  have F_read := fun_mk (st := s_read) l_read c_read k_read
  have b_read := F_read.binds (ps := ["text"]) fun _ _ _ _ _ _ us hl => match us, hl with | [_], _ => rfl
  have F_law := fun_mk (st := s_law) l_law c_law k_law
  have b_law := F_law.binds (ps := ["script"]) fun _ _ _ _ _ _ us hl => match us, hl with | [_], _ => rfl
  have kb_read_0 := kbd_of (ps := ["text"]) (n := 0) (ks := ["text"]) F_read [0] fun _ _ _ _ _ _ us ws h1 h2 => match us, ws, h1, h2 with | [], [_], _, _ => rfl
  have kb_sized_1 := kbd_of (ps := ["word", "deep", "leaves"]) (n := 1) (ks := ["deep", "leaves"]) F_sized [0, 1, 2] fun _ _ _ _ _ _ us ws h1 h2 => match us, ws, h1, h2 with | [_], [_, _], _, _ => rfl
  have T : Tx K w mg ⟨f_law_alike, PySem.W.fnOf "_law_alike" "_law_alike" (defArgs s_law_alike) (defBody s_law_alike) (defScope s_law_alike) .none kV_law_alike dc_law_alike pm_law_alike an_law_alike cd_law_alike ct_law_alike, f_law_bag, PySem.W.fnOf "_law_bag" "_law_bag" (defArgs s_law_bag) (defBody s_law_bag) (defScope s_law_bag) .none kV_law_bag dc_law_bag pm_law_bag an_law_bag cd_law_bag ct_law_bag, f_law_stirred, PySem.W.fnOf "_law_stirred" "_law_stirred" (defArgs s_law_stirred) (defBody s_law_stirred) (defScope s_law_stirred) .none kV_law_stirred dc_law_stirred pm_law_stirred an_law_stirred cd_law_stirred ct_law_stirred, f_law_draw, PySem.W.fnOf "_law_draw" "_law_draw" (defArgs s_law_draw) (defBody s_law_draw) (defScope s_law_draw) .none kV_law_draw dc_law_draw pm_law_draw an_law_draw cd_law_draw ct_law_draw, f_law_name, PySem.W.fnOf "_law_name" "_law_name" (defArgs s_law_name) (defBody s_law_name) (defScope s_law_name) .none kV_law_name dc_law_name pm_law_name an_law_name cd_law_name ct_law_name, f_law_leaf, PySem.W.fnOf "_law_leaf" "_law_leaf" (defArgs s_law_leaf) (defBody s_law_leaf) (defScope s_law_leaf) .none kV_law_leaf dc_law_leaf pm_law_leaf an_law_leaf cd_law_leaf ct_law_leaf, f_law_word, PySem.W.fnOf "_law_word" "_law_word" (defArgs s_law_word) (defBody s_law_word) (defScope s_law_word) .none kV_law_word dc_law_word pm_law_word an_law_word cd_law_word ct_law_word, f_law_written, PySem.W.fnOf "_law_written" "_law_written" (defArgs s_law_written) (defBody s_law_written) (defScope s_law_written) .none kV_law_written dc_law_written pm_law_written an_law_written cd_law_written ct_law_written, f_Reader___init, PySem.W.fnOf "__init__" "Reader.__init__" (defArgs s_Reader___init) (defBody s_Reader___init) (defScope s_Reader___init) .none kV_Reader___init dc_Reader___init pm_Reader___init an_Reader___init cd_Reader___init ct_Reader___init, f_Reader_need, PySem.W.fnOf "need" "Reader.need" (defArgs s_Reader_need) (defBody s_Reader_need) (defScope s_Reader_need) .none kV_Reader_need dc_Reader_need pm_Reader_need an_Reader_need cd_Reader_need ct_Reader_need, f_sized, PySem.W.fnOf "sized" "sized" (defArgs s_sized) (defBody s_sized) (defScope s_sized) .none kV_sized dc_sized pm_sized an_sized cd_sized ct_sized, f_joined, PySem.W.fnOf "joined" "joined" (defArgs s_joined) (defBody s_joined) (defScope s_joined) .none kV_joined dc_joined pm_joined an_joined cd_joined ct_joined, f_Reader_closed, PySem.W.fnOf "closed" "Reader.closed" (defArgs s_Reader_closed) (defBody s_Reader_closed) (defScope s_Reader_closed) .none kV_Reader_closed dc_Reader_closed pm_Reader_closed an_Reader_closed cd_Reader_closed ct_Reader_closed, f_Reader_item, PySem.W.fnOf "item" "Reader.item" (defArgs s_Reader_item) (defBody s_Reader_item) (defScope s_Reader_item) .none kV_Reader_item dc_Reader_item pm_Reader_item an_Reader_item cd_Reader_item ct_Reader_item, f_Reader_mark, PySem.W.fnOf "mark" "Reader.mark" (defArgs s_Reader_mark) (defBody s_Reader_mark) (defScope s_Reader_mark) .none kV_Reader_mark dc_Reader_mark pm_Reader_mark an_Reader_mark cd_Reader_mark ct_Reader_mark, f_is_name, PySem.W.fnOf "is_name" "is_name" (defArgs s_is_name) (defBody s_is_name) (defScope s_is_name) .none kV_is_name dc_is_name pm_is_name an_is_name cd_is_name ct_is_name, f_leaf_of, PySem.W.fnOf "leaf_of" "leaf_of" (defArgs s_leaf_of) (defBody s_leaf_of) (defScope s_leaf_of) .none kV_leaf_of dc_leaf_of pm_leaf_of an_leaf_of cd_leaf_of ct_leaf_of, f_Reader_part, PySem.W.fnOf "part" "Reader.part" (defArgs s_Reader_part) (defBody s_Reader_part) (defScope s_Reader_part) .none kV_Reader_part dc_Reader_part pm_Reader_part an_Reader_part cd_Reader_part ct_Reader_part, f_shown, PySem.W.fnOf "shown" "shown" (defArgs s_shown) (defBody s_shown) (defScope s_shown) .none kV_shown dc_shown pm_shown an_shown cd_shown ct_shown, f_bracketed, PySem.W.fnOf "bracketed" "bracketed" (defArgs s_bracketed) (defBody s_bracketed) (defScope s_bracketed) .none kV_bracketed dc_bracketed pm_bracketed an_bracketed cd_bracketed ct_bracketed, f_tokens_of, PySem.W.fnOf "tokens_of" "tokens_of" (defArgs s_tokens_of) (defBody s_tokens_of) (defScope s_tokens_of) .none kV_tokens_of dc_tokens_of pm_tokens_of an_tokens_of cd_tokens_of ct_tokens_of, f_read, PySem.W.fnOf "read" "read" (defArgs s_read) (defBody s_read) (defScope s_read) .none kV_read dc_read pm_read an_read cd_read ct_read, fa, PySem.W.fnOf "law" "law" (defArgs s_law) (defBody s_law) (defScope s_law) .none kV_law dc_law pm_law an_law cd_law ct_law, C_Reader⟩ := { F_law_alike := F_law_alike, b_law_alike := b_law_alike, g_law_alike := PySem.W.mg_of X G a_law_alike, F_law_bag := F_law_bag, b_law_bag := b_law_bag, g_law_bag := PySem.W.mg_of X G a_law_bag, F_law_stirred := F_law_stirred, b_law_stirred := b_law_stirred, g_law_stirred := PySem.W.mg_of X G a_law_stirred, F_law_draw := F_law_draw, b_law_draw := b_law_draw, g_law_draw := PySem.W.mg_of X G a_law_draw, F_law_name := F_law_name, b_law_name := b_law_name, g_law_name := PySem.W.mg_of X G a_law_name, F_law_leaf := F_law_leaf, b_law_leaf := b_law_leaf, g_law_leaf := PySem.W.mg_of X G a_law_leaf, F_law_word := F_law_word, b_law_word := b_law_word, g_law_word := PySem.W.mg_of X G a_law_word, F_law_written := F_law_written, b_law_written := b_law_written, g_law_written := PySem.W.mg_of X G a_law_written, F_Reader___init := F_Reader___init, b_Reader___init := b_Reader___init, F_Reader_need := F_Reader_need, b_Reader_need := b_Reader_need, me_Reader_need := ⟨a_Reader_need, i_Reader_need, k_Reader_need⟩, F_sized := F_sized, g_sized := PySem.W.mg_of X G a_sized, F_joined := F_joined, b_joined := b_joined, g_joined := PySem.W.mg_of X G a_joined, F_Reader_closed := F_Reader_closed, b_Reader_closed := b_Reader_closed, me_Reader_closed := ⟨a_Reader_closed, i_Reader_closed, k_Reader_closed⟩, F_Reader_item := F_Reader_item, b_Reader_item := b_Reader_item, me_Reader_item := ⟨a_Reader_item, i_Reader_item, k_Reader_item⟩, F_Reader_mark := F_Reader_mark, b_Reader_mark := b_Reader_mark, me_Reader_mark := ⟨a_Reader_mark, i_Reader_mark, k_Reader_mark⟩, F_is_name := F_is_name, b_is_name := b_is_name, g_is_name := PySem.W.mg_of X G a_is_name, F_leaf_of := F_leaf_of, b_leaf_of := b_leaf_of, g_leaf_of := PySem.W.mg_of X G a_leaf_of, F_Reader_part := F_Reader_part, b_Reader_part := b_Reader_part, me_Reader_part := ⟨a_Reader_part, i_Reader_part, k_Reader_part⟩, F_shown := F_shown, b_shown := b_shown, g_shown := PySem.W.mg_of X G a_shown, F_bracketed := F_bracketed, b_bracketed := b_bracketed, g_bracketed := PySem.W.mg_of X G a_bracketed, F_tokens_of := F_tokens_of, b_tokens_of := b_tokens_of, g_tokens_of := PySem.W.mg_of X G a_tokens_of, F_read := F_read, b_read := b_read, g_read := PySem.W.mg_of X G a_read, F_law := F_law, b_law := b_law, g_law := PySem.W.mg_of X G a_law, kb_read_0 := kb_read_0, kb_sized_1 := kb_sized_1, n_abs := PySem.W.mg_none_of X G z_abs, n_all := PySem.W.mg_none_of X G z_all, n_bool := PySem.W.mg_none_of X G z_bool, n_int := PySem.W.mg_none_of X G z_int, n_isinstance := PySem.W.mg_none_of X G z_isinstance, n_len := PySem.W.mg_none_of X G z_len, n_list := PySem.W.mg_none_of X G z_list, n_max := PySem.W.mg_none_of X G z_max, n_min := PySem.W.mg_none_of X G z_min, n_range := PySem.W.mg_none_of X G z_range, n_str := PySem.W.mg_none_of X G z_str, n_tuple := PySem.W.mg_none_of X G z_tuple, kd_BARE := kdm_of (PySem.W.mg_of X G q_BARE) dl_BARE dk_BARE ds_BARE di_BARE ⟨kv_tup dv_BARE_0 dt_BARE_0 (show 1 ≤ sizeLine by decide) (vs := [.str "any"]) (.cons ⟨_, rfl⟩ .nil) fun _ _ => ⟨_, _, rfl, rfl, rfl⟩, ⟨kv_tup dv_BARE_1 dt_BARE_1 (show 1 ≤ sizeLine by decide) (vs := [.str "anyback"]) (.cons ⟨_, rfl⟩ .nil) fun _ _ => ⟨_, _, rfl, rfl, rfl⟩, ⟨kv_tup dv_BARE_2 dt_BARE_2 (show 1 ≤ sizeLine by decide) (vs := [.str "empty"]) (.cons ⟨_, rfl⟩ .nil) fun _ _ => ⟨_, _, rfl, rfl, rfl⟩, ⟨kv_tup dv_BARE_3 dt_BARE_3 (show 1 ≤ sizeLine by decide) (vs := [.str "none"]) (.cons ⟨_, rfl⟩ .nil) fun _ _ => ⟨_, _, rfl, rfl, rfl⟩, trivial⟩⟩⟩⟩, kd_HEADS := kdm_of (PySem.W.mg_of X G q_HEADS) dl_HEADS dk_HEADS ds_HEADS di_HEADS ⟨⟨_, .str "again", dv_HEADS_0, ⟨_, rfl⟩, fun _ _ => rfl⟩, ⟨⟨_, .str "more", dv_HEADS_1, ⟨_, rfl⟩, fun _ _ => rfl⟩, ⟨⟨_, .str "maybe", dv_HEADS_2, ⟨_, rfl⟩, fun _ _ => rfl⟩, trivial⟩⟩⟩, c_LETTERS := ⟨_, .str "abcdefghijklmnopqrstuvwxyz", PySem.W.mg_of X G q_LETTERS, ⟨_, rfl⟩, fun _ _ => rfl⟩, kd_MARKS := kdm_of (PySem.W.mg_of X G q_MARKS) dl_MARKS dk_MARKS ds_MARKS di_MARKS ⟨⟨_, .str "*", dv_MARKS_0, ⟨_, rfl⟩, fun _ _ => rfl⟩, ⟨⟨_, .str "+", dv_MARKS_1, ⟨_, rfl⟩, fun _ _ => rfl⟩, ⟨⟨_, .str "?", dv_MARKS_2, ⟨_, rfl⟩, fun _ _ => rfl⟩, trivial⟩⟩⟩, c_MOST_DEEP := ⟨_, .int 20, PySem.W.mg_of X G q_MOST_DEEP, ⟨_, rfl⟩, fun _ _ => rfl⟩, c_MOST_LEAVES := ⟨_, .int 40, PySem.W.mg_of X G q_MOST_LEAVES, ⟨_, rfl⟩, fun _ _ => rfl⟩, c_MOST_SIGNS := ⟨_, .int 8, PySem.W.mg_of X G q_MOST_SIGNS, ⟨_, rfl⟩, fun _ _ => rfl⟩, kd_STILLS := kdm_of (PySem.W.mg_of X G q_STILLS) dl_STILLS dk_STILLS ds_STILLS di_STILLS ⟨⟨_, .str ".", dv_STILLS_0, ⟨_, rfl⟩, fun _ _ => rfl⟩, ⟨⟨_, .str "^.", dv_STILLS_1, ⟨_, rfl⟩, fun _ _ => rfl⟩, ⟨⟨_, .str "()", dv_STILLS_2, ⟨_, rfl⟩, fun _ _ => rfl⟩, ⟨⟨_, .str "!", dv_STILLS_3, ⟨_, rfl⟩, fun _ _ => rfl⟩, trivial⟩⟩⟩⟩, g_Reader := PySem.W.mg_of X G ga_Reader, cl_Reader := ⟨pg_Reader, hd_Reader, po_Reader, sa_Reader⟩, mk_Reader := ⟨mk_Reader, a_Reader___init, i_Reader___init, kc_Reader⟩, na_Reader_rows := na_Reader_rows, na_Reader_wanted := na_Reader_wanted }
  exact ⟨PySem.W.fnOf "law" "law" (defArgs s_law) (defBody s_law) (defScope s_law) .none kV_law dc_law pm_law an_law cd_law ct_law, fun s v => .of_eq rfl, fun base _ _ => ok_law T⟩
end LW
open PySem PySem.W PyProof.Rows
set_option maxRecDepth 100000 in
set_option maxHeartbeats 0 in
theorem PySem.Challenge.cw_wordways_k12_written_words_read_holds : PySem.Challenge.rw_wordways_k12_written_words_read.Holds := by
  w_on; o_law; k_head; (case hw => w_witness2)
  k_fill
  refine DL.walkD (l := PySem.Challenge.rw_wordways_k12_written_words_read) (k := 205) rfl rfl ⟨rfl, by decide, by decide⟩ (fun w h Y => PySem.W.kIn_of Y) ?F
  case F =>
    intro w mg fa h KX G hmg
    refine' LW.all_mk KX G hmg ?a_law_alike ?l_law_alike ?c_law_alike ?k_law_alike ?a_law_bag ?l_law_bag ?c_law_bag ?k_law_bag ?a_law_stirred ?l_law_stirred ?c_law_stirred ?k_law_stirred ?a_law_draw ?l_law_draw ?c_law_draw ?k_law_draw ?a_law_name ?l_law_name ?c_law_name ?k_law_name ?a_law_leaf ?l_law_leaf ?c_law_leaf ?k_law_leaf ?a_law_word ?l_law_word ?c_law_word ?k_law_word ?a_law_written ?l_law_written ?c_law_written ?k_law_written ?a_Reader___init ?i_Reader___init ?l_Reader___init ?c_Reader___init ?k_Reader___init ?a_Reader_need ?i_Reader_need ?l_Reader_need ?c_Reader_need ?k_Reader_need ?a_sized ?l_sized ?c_sized ?k_sized ?a_joined ?l_joined ?c_joined ?k_joined ?a_Reader_closed ?i_Reader_closed ?l_Reader_closed ?c_Reader_closed ?k_Reader_closed ?a_Reader_item ?i_Reader_item ?l_Reader_item ?c_Reader_item ?k_Reader_item ?a_Reader_mark ?i_Reader_mark ?l_Reader_mark ?c_Reader_mark ?k_Reader_mark ?a_is_name ?l_is_name ?c_is_name ?k_is_name ?a_leaf_of ?l_leaf_of ?c_leaf_of ?k_leaf_of ?a_Reader_part ?i_Reader_part ?l_Reader_part ?c_Reader_part ?k_Reader_part ?a_shown ?l_shown ?c_shown ?k_shown ?a_bracketed ?l_bracketed ?c_bracketed ?k_bracketed ?a_tokens_of ?l_tokens_of ?c_tokens_of ?k_tokens_of ?a_read ?l_read ?c_read ?k_read ?a_law ?l_law ?c_law ?k_law ?z_abs ?z_all ?z_bool ?z_int ?z_isinstance ?z_len ?z_list ?z_max ?z_min ?z_range ?z_str ?z_tuple ?q_BARE ?dl_BARE ?dk_BARE ?ds_BARE ?di_BARE ?dv_BARE_0 ?dt_BARE_0 ?dv_BARE_1 ?dt_BARE_1 ?dv_BARE_2 ?dt_BARE_2 ?dv_BARE_3 ?dt_BARE_3 ?q_HEADS ?dl_HEADS ?dk_HEADS ?ds_HEADS ?di_HEADS ?dv_HEADS_0 ?dv_HEADS_1 ?dv_HEADS_2 ?q_LETTERS ?q_MARKS ?dl_MARKS ?dk_MARKS ?ds_MARKS ?di_MARKS ?dv_MARKS_0 ?dv_MARKS_1 ?dv_MARKS_2 ?q_MOST_DEEP ?q_MOST_LEAVES ?q_MOST_SIGNS ?q_STILLS ?dl_STILLS ?dk_STILLS ?ds_STILLS ?di_STILLS ?dv_STILLS_0 ?dv_STILLS_1 ?dv_STILLS_2 ?dv_STILLS_3 ?ga_Reader ?pg_Reader ?hd_Reader ?po_Reader ?sa_Reader ?mk_Reader ?kc_Reader ?na_Reader_rows ?na_Reader_wanted
    (case ga_Reader => k_is)
    (case a_law_alike => k_is)
    (case l_law_alike => k_is)
    (case c_law_alike => k_is)
    (case k_law_alike => k_is)
    (case a_law_bag => k_is)
    (case l_law_bag => k_is)
    (case c_law_bag => k_is)
    (case k_law_bag => k_is)
    (case a_law_stirred => k_is)
    (case l_law_stirred => k_is)
    (case c_law_stirred => k_is)
    (case k_law_stirred => k_is)
    (case a_law_draw => k_is)
    (case l_law_draw => k_is)
    (case c_law_draw => k_is)
    (case k_law_draw => k_is)
    (case a_law_name => k_is)
    (case l_law_name => k_is)
    (case c_law_name => k_is)
    (case k_law_name => k_is)
    (case a_law_leaf => k_is)
    (case l_law_leaf => k_is)
    (case c_law_leaf => k_is)
    (case k_law_leaf => k_is)
    (case a_law_word => k_is)
    (case l_law_word => k_is)
    (case c_law_word => k_is)
    (case k_law_word => k_is)
    (case a_law_written => k_is)
    (case l_law_written => k_is)
    (case c_law_written => k_is)
    (case k_law_written => k_is)
    (case a_Reader___init => k_is)
    (case i_Reader___init => k_is)
    (case l_Reader___init => k_is)
    (case c_Reader___init => k_is)
    (case k_Reader___init => k_is)
    (case a_Reader_need => k_is)
    (case i_Reader_need => k_is)
    (case l_Reader_need => k_is)
    (case c_Reader_need => k_is)
    (case k_Reader_need => k_is)
    (case a_sized => k_is)
    (case l_sized => k_is)
    (case c_sized => k_is)
    (case k_sized => k_is)
    (case a_joined => k_is)
    (case l_joined => k_is)
    (case c_joined => k_is)
    (case k_joined => k_is)
    (case a_Reader_closed => k_is)
    (case i_Reader_closed => k_is)
    (case l_Reader_closed => k_is)
    (case c_Reader_closed => k_is)
    (case k_Reader_closed => k_is)
    (case a_Reader_item => k_is)
    (case i_Reader_item => k_is)
    (case l_Reader_item => k_is)
    (case c_Reader_item => k_is)
    (case k_Reader_item => k_is)
    (case a_Reader_mark => k_is)
    (case i_Reader_mark => k_is)
    (case l_Reader_mark => k_is)
    (case c_Reader_mark => k_is)
    (case k_Reader_mark => k_is)
    (case a_is_name => k_is)
    (case l_is_name => k_is)
    (case c_is_name => k_is)
    (case k_is_name => k_is)
    (case a_leaf_of => k_is)
    (case l_leaf_of => k_is)
    (case c_leaf_of => k_is)
    (case k_leaf_of => k_is)
    (case a_Reader_part => k_is)
    (case i_Reader_part => k_is)
    (case l_Reader_part => k_is)
    (case c_Reader_part => k_is)
    (case k_Reader_part => k_is)
    (case a_shown => k_is)
    (case l_shown => k_is)
    (case c_shown => k_is)
    (case k_shown => k_is)
    (case a_bracketed => k_is)
    (case l_bracketed => k_is)
    (case c_bracketed => k_is)
    (case k_bracketed => k_is)
    (case a_tokens_of => k_is)
    (case l_tokens_of => k_is)
    (case c_tokens_of => k_is)
    (case k_tokens_of => k_is)
    (case a_read => k_is)
    (case l_read => k_is)
    (case c_read => k_is)
    (case k_read => k_is)
    (case a_law => k_is)
    (case l_law => k_is)
    (case c_law => k_is)
    (case k_law => k_is)
    (case z_abs => k_is)
    (case z_all => k_is)
    (case z_bool => k_is)
    (case z_int => k_is)
    (case z_isinstance => k_is)
    (case z_len => k_is)
    (case z_list => k_is)
    (case z_max => k_is)
    (case z_min => k_is)
    (case z_range => k_is)
    (case z_str => k_is)
    (case z_tuple => k_is)
    (case q_BARE => k_is)
    (case dl_BARE => k_is)
    (case dk_BARE => k_keys)
    (case ds_BARE => decide)
    (case di_BARE => rfl)
    (case dv_BARE_0 => k_is)
    (case dt_BARE_0 => k_is)
    (case dv_BARE_1 => k_is)
    (case dt_BARE_1 => k_is)
    (case dv_BARE_2 => k_is)
    (case dt_BARE_2 => k_is)
    (case dv_BARE_3 => k_is)
    (case dt_BARE_3 => k_is)
    (case q_HEADS => k_is)
    (case dl_HEADS => k_is)
    (case dk_HEADS => k_keys)
    (case ds_HEADS => decide)
    (case di_HEADS => rfl)
    (case dv_HEADS_0 => k_is)
    (case dv_HEADS_1 => k_is)
    (case dv_HEADS_2 => k_is)
    (case q_LETTERS => k_is)
    (case q_MARKS => k_is)
    (case dl_MARKS => k_is)
    (case dk_MARKS => k_keys)
    (case ds_MARKS => decide)
    (case di_MARKS => rfl)
    (case dv_MARKS_0 => k_is)
    (case dv_MARKS_1 => k_is)
    (case dv_MARKS_2 => k_is)
    (case q_MOST_DEEP => k_is)
    (case q_MOST_LEAVES => k_is)
    (case q_MOST_SIGNS => k_is)
    (case q_STILLS => k_is)
    (case dl_STILLS => k_is)
    (case dk_STILLS => k_keys)
    (case ds_STILLS => decide)
    (case di_STILLS => rfl)
    (case dv_STILLS_0 => k_is)
    (case dv_STILLS_1 => k_is)
    (case dv_STILLS_2 => k_is)
    (case dv_STILLS_3 => k_is)
    (case pg_Reader => k_is)
    (case hd_Reader => k_is)
    (case po_Reader => k_is)
    (case sa_Reader => k_is)
    (case mk_Reader => k_is)
    (case kc_Reader => k_is)
    (case na_Reader_rows => k_is)
    (case na_Reader_wanted => k_is)
#print axioms PySem.Challenge.cw_wordways_k12_written_words_read_holds
