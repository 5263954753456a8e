import PyProof.Rows.All
import Wide.All
import OpenK.AllK
import Wide.FinOn
import HandS.ForMost
import HandS.DictComp
import HandS.IsInst
import HandS.ListItems
import HandS.TupAny
import HandS.Codes
import HandS.Zip
import KE.GoesEnum
import KE.GoesMore
import KE.SortData
import KE.DataMinMax
import PyProof.ReprRoads
import HandS.Conv
import HandS.Defaults
import HandS.MakeKwOnly
import HandS.Text
import KE.DataEq
import KE.KDictPairs
import HandS.EndBits
import HandS.Head0
import HandS.Head1
import HandS.Head2
import HandS.HeadHook1
import HandS.HeadHook2
import HandS.Star
import HandS.Sort
import PySem.Challenge.RW_stillfirst_k40_whole_costs_and_bills
set_option Elab.async false
set_option linter.all false
set_option maxRecDepth 100000
set_option maxHeartbeats 4000000
namespace M
open PySem L2

/-- plain data -/
inductive D where
  | non | bl (b : Bool) | int (i : Int) | str (x : Str)
  | lst (xs : List D) | tup (xs : List D)
  | dic (kvs : List (Key × D)) | dtk (kvs : List (List Key × D))
  | ins (C : Addr) (fs : List (Str × D))
  | strm
  | far (a : Addr)

/-- the more is to be read -/
structure Le (I I' : Hp) : Prop where
  ex : ∀ a o, I a = some o → I' a = some o
theorem Le.rd {I I' : Hp} (l : Le I I') : ∀ a u, Rd I a u → Rd I' a u := fun a u h => by
  rcases h with h | ⟨o, h⟩
  · exact .inl (l.ex _ _ h)
  · exact .inr ⟨o, l.ex _ _ h⟩
instance {I I' : Hp} : CoeFun (Le I I') (fun _ => ∀ a u, Rd I a u → Rd I' a u) := ⟨fun l => l.rd⟩
theorem Le.refl (I : Hp) : Le I I := ⟨fun _ _ h => h⟩
theorem Le.trans {I I1 I2 : Hp} (a : Le I I1) (b : Le I1 I2) : Le I I2 := ⟨fun x u h => b.ex x u (a.ex x u h)⟩
/-- a part of a heap -/
def Sub (I H : Hp) : Prop := ∀ a o, I a = some o → H a = some o
theorem Sub.rd {I H : Hp} (s : Sub I H) {a : Addr} {u : HO} (h : Rd I a u) : Rd H a u := by
  rcases h with h | ⟨o, h⟩
  · exact .inl (s _ _ h)
  · exact .inr ⟨o, s _ _ h⟩
theorem Sub.le {I H : Hp} (s : Sub I H) : Le I H := ⟨fun _ _ h => s _ _ h⟩
theorem Rd.some {I : Hp} {a : Addr} {u : HO} (h : Rd I a u) : ∃ o, I a = some o := by
  rcases h with h | ⟨o, h⟩
  · exact ⟨_, h⟩
  · exact ⟨_, h⟩
theorem Rd.ne {I : Hp} {a p : Addr} {u : HO} (h : Rd I a u) (hp : I p = none) : a ≠ p := by
  rintro rfl
  obtain ⟨o, h⟩ := Rd.some h
  rw [hp] at h
  cases h
theorem Le.new {I : Hp} {p : Addr} {o : HO} (h : I p = none) : Le I (upd I p o) := ⟨fun a u r => by
  have : a ≠ p := fun e => by rw [e, h] at r; cases r
  rw [upd_ne this]
  exact r⟩
theorem Le.some {I I' : Hp} (e : Le I I') {a : Addr} {o : HO} (h : I a = some o) : ∃ o', I' a = some o' := ⟨o, e.ex a o h⟩
theorem Le.none {I I' : Hp} (e : Le I I') {a : Addr} (h : I' a = none) : I a = none := by
  cases q : I a with
  | none => rfl
  | some o =>
    obtain ⟨o', z⟩ := e.some q
    rw [h] at z
    cases z

/-- v denotes d, in what is frozen (I); c: the stream's place -/
inductive Den (c : Option Addr) (I : Hp) : V → D → Prop
  | non : Den c I .non .non
  | bl (b : Bool) : Den c I (.bl b) (.bl b)
  | int (i : Int) : Den c I (.int i) (.int i)
  | str (x : Str) : Den c I (.str x) (.str x)
  | strm {a : Addr} : c = some a → Den c I (.ref a) .strm
  | far (a : Addr) : Den c I (.ref a) (.far a)
  | lst {a : Addr} {vs : List V} {ds : List D} : Rd I a (.lst vs) → vs.length = ds.length → (∀ (i : Nat) v d, vs[i]? = some v → ds[i]? = some d → Den c I v d) → Den c I (.ref a) (.lst ds)
  | tup {a : Addr} {vs : List V} {ds : List D} : Rd I a (.tup vs) → vs.length = ds.length → (∀ (i : Nat) v d, vs[i]? = some v → ds[i]? = some d → Den c I v d) → Den c I (.ref a) (.tup ds)
  | dic {a : Addr} {kvs : List (Key × V)} {kds : List (Key × D)} : Rd I a (.dK kvs) → kvs.map (·.1) = kds.map (·.1) → (∀ (i : Nat) kv kd, kvs[i]? = some kv → kds[i]? = some kd → Den c I kv.2 kd.2) → Den c I (.ref a) (.dic kds)
  | dtk {a : Addr} {kvs : List (List Key × V)} {kds : List (List Key × D)} : Rd I a (.dT kvs) → kvs.map (·.1) = kds.map (·.1) → (∀ (i : Nat) kv kd, kvs[i]? = some kv → kds[i]? = some kd → Den c I kv.2 kd.2) → Den c I (.ref a) (.dtk kds)
  | ins {a C dx : Addr} {kvs : List (Str × V)} {kds : List (Str × D)} : Rd I a (.ins C dx kvs) → kvs.map (·.1) = kds.map (·.1) → (∀ (i : Nat) kv kd, kvs[i]? = some kv → kds[i]? = some kd → Den c I kv.2 kd.2) → Den c I (.ref a) (.ins C kds)
theorem Den.mono {c : Option Addr} {I I' : Hp} (e : Le I I') {v : V} {d : D} (h : Den c I v d) : Den c I' v d := by
  induction h with
  | non => exact .non
  | bl b => exact .bl b
  | int i => exact .int i
  | str x => exact .str x
  | strm h => exact .strm h
  | far a => exact .far a
  | lst r l _ ih => exact .lst (e _ _ r) l ih
  | tup r l _ ih => exact .tup (e _ _ r) l ih
  | dic r l _ ih => exact .dic (e _ _ r) l ih
  | dtk r l _ ih => exact .dtk (e _ _ r) l ih
  | ins r l _ ih => exact .ins (e _ _ r) l ih

/-! ### lists of values and of data -/
theorem paired_of {α β : Type} {F : α → β → Prop} : ∀ {xs : List α} {ys : List β}, xs.length = ys.length → (∀ (i : Nat) x y, xs[i]? = some x → ys[i]? = some y → F x y) → Paired F xs ys
  | [], [], _, _ => .nil
  | x :: xs, y :: ys, l, h => .cons (h 0 x y rfl rfl) (paired_of (by simpa using l) fun i a b ha hb => h (i + 1) a b (by simpa using ha) (by simpa using hb))
  | [], _ :: _, l, _ => by simp at l
  | _ :: _, [], l, _ => by simp at l
theorem paired_at {α β : Type} {F : α → β → Prop} : ∀ {xs : List α} {ys : List β}, Paired F xs ys → ∀ (i : Nat) x y, xs[i]? = some x → ys[i]? = some y → F x y
  | _, _, .nil, i, x, y, hx, _ => by simp at hx
  | _, _, .cons r _, 0, x, y, hx, hy => by simp at hx hy; subst hx; subst hy; exact r
  | _, _, .cons _ t, i + 1, x, y, hx, hy => paired_at t i x y (by simpa using hx) (by simpa using hy)
abbrev DenL (c : Option Addr) (I : Hp) : List V → List D → Prop := Paired (Den c I)
abbrev DenP {κ : Type} (c : Option Addr) (I : Hp) : List (κ × V) → List (κ × D) → Prop := Paired fun p q => p.1 = q.1 ∧ Den c I p.2 q.2
section
variable {c : Option Addr} {I I' : Hp} {a C : Addr}
theorem DenL.mono {vs : List V} {ds : List D} (e : Le I I') (h : DenL c I vs ds) : DenL c I' vs ds := Paired.mapP h fun _ _ q => q.mono e
theorem DenP.mono {κ : Type} {vs : List (κ × V)} {ds : List (κ × D)} (e : Le I I') (h : DenP c I vs ds) : DenP c I' vs ds := Paired.mapP h fun _ _ q => ⟨q.1, q.2.mono e⟩
theorem DenP.keys {κ : Type} : ∀ {vs : List (κ × V)} {ds : List (κ × D)}, DenP c I vs ds → vs.map (·.1) = ds.map (·.1)
  | _, _, .nil => rfl
  | _, _, .cons r t => by rw [List.map_cons, List.map_cons, r.1, DenP.keys t]
theorem denP_of {κ : Type} {vs : List (κ × V)} {ds : List (κ × D)} (hk : vs.map (·.1) = ds.map (·.1)) (h : ∀ (i : Nat) kv kd, vs[i]? = some kv → ds[i]? = some kd → Den c I kv.2 kd.2) : DenP c I vs ds := by
  have hl : vs.length = ds.length := by
    have := congrArg List.length hk
    simpa using this
  refine paired_of hl fun i x y hx hy => ⟨?_, h i x y hx hy⟩
  have e := congrArg (fun l => l[i]?) hk
  simp only [List.getElem?_map, hx, hy, Option.map_some, Option.some.injEq] at e
  exact e
theorem den_lst {vs : List V} {ds : List D} (r : Rd I a (.lst vs)) (h : DenL c I vs ds) : Den c I (.ref a) (.lst ds) := .lst r (Paired.length h) (paired_at h)
theorem den_tup {vs : List V} {ds : List D} (r : Rd I a (.tup vs)) (h : DenL c I vs ds) : Den c I (.ref a) (.tup ds) := .tup r (Paired.length h) (paired_at h)
theorem den_dic {kvs : List (Key × V)} {kds : List (Key × D)} (r : Rd I a (.dK kvs)) (h : DenP c I kvs kds) : Den c I (.ref a) (.dic kds) := .dic r h.keys fun i x y hx hy => (paired_at h i x y hx hy).2
theorem den_dtk {kvs : List (List Key × V)} {kds : List (List Key × D)} (r : Rd I a (.dT kvs)) (h : DenP c I kvs kds) : Den c I (.ref a) (.dtk kds) := .dtk r h.keys fun i x y hx hy => (paired_at h i x y hx hy).2
theorem den_ins {dx : Addr} {kvs : List (Str × V)} {kds : List (Str × D)} (r : Rd I a (.ins C dx kvs)) (h : DenP c I kvs kds) : Den c I (.ref a) (.ins C kds) := .ins r h.keys fun i x y hx hy => (paired_at h i x y hx hy).2
theorem Den.toL {v : V} {ds : List D} (h : Den c I v (.lst ds)) : ∃ a vs, v = .ref a ∧ Rd I a (.lst vs) ∧ DenL c I vs ds := by
  cases h with
  | lst r l h => exact ⟨_, _, rfl, r, paired_of l h⟩
theorem Den.toT {v : V} {ds : List D} (h : Den c I v (.tup ds)) : ∃ a vs, v = .ref a ∧ Rd I a (.tup vs) ∧ DenL c I vs ds := by
  cases h with
  | tup r l h => exact ⟨_, _, rfl, r, paired_of l h⟩
theorem Den.toD {v : V} {kds : List (Key × D)} (h : Den c I v (.dic kds)) : ∃ a kvs, v = .ref a ∧ Rd I a (.dK kvs) ∧ DenP c I kvs kds := by
  cases h with
  | dic r l h => exact ⟨_, _, rfl, r, denP_of l h⟩
theorem Den.toK {v : V} {kds : List (List Key × D)} (h : Den c I v (.dtk kds)) : ∃ a kvs, v = .ref a ∧ Rd I a (.dT kvs) ∧ DenP c I kvs kds := by
  cases h with
  | dtk r l h => exact ⟨_, _, rfl, r, denP_of l h⟩
theorem Den.toI {v : V} {kds : List (Str × D)} (h : Den c I v (.ins C kds)) : ∃ a dx kvs, v = .ref a ∧ Rd I a (.ins C dx kvs) ∧ DenP c I kvs kds := by
  cases h with
  | ins r l h => exact ⟨_, _, _, rfl, r, denP_of l h⟩
end

/-! ### what stands at a new place, or at one of one's own -/
inductive ObjD (c : Option Addr) (I : Hp) : HO → D → Prop
  | lst {vs : List V} {ds : List D} : DenL c I vs ds → ObjD c I (.lst vs) (.lst ds)
  | tup {vs : List V} {ds : List D} : DenL c I vs ds → ObjD c I (.tup vs) (.tup ds)
  | dK {kvs : List (Key × V)} {kds : List (Key × D)} : DenP c I kvs kds → ObjD c I (.dK kvs) (.dic kds)
  | dT {kvs : List (List Key × V)} {kds : List (List Key × D)} : DenP c I kvs kds → ObjD c I (.dT kvs) (.dtk kds)
theorem ObjD.mono {c : Option Addr} {I I' : Hp} (e : Le I I') {u : HO} {d : D} (h : ObjD c I u d) : ObjD c I' u d := by
  cases h with
  | lst h => exact .lst (DenL.mono e h)
  | tup h => exact .tup (DenL.mono e h)
  | dK h => exact .dK (DenP.mono e h)
  | dT h => exact .dT (DenP.mono e h)
theorem ObjD.den {c : Option Addr} {I : Hp} {u : HO} {d : D} {a : Addr} (h : ObjD c I u d) (r : I a = some u) : Den c I (.ref a) d := by
  cases h with
  | lst h => exact den_lst (.inl r) h
  | tup h => exact den_tup (.inl r) h
  | dK h => exact den_dic (.inl r) h
  | dT h => exact den_dtk (.inl r) h
theorem ObjD.plain {c : Option Addr} {I : Hp} {u : HO} {d : D} (h : ObjD c I u d) : ∀ o w, u ≠ .frz o w := by
  intro o w e
  subst e
  cases h

/-! ### the stream, the base, the state -/
structure Sm where
  cells : List Int
  cur : Int
  cnt : Int
  mix : Int
structure Bs where
  c : Option Addr
  l : Addr
  I : Hp
  H : Hp
  fr : Hp := fun _ => none
def Bs.isSt (B : Bs) (a : Addr) : Prop := ∃ s, B.c = some s ∧ (a = s ∨ a = B.l)
structure StAt (c : Option Addr) (l : Addr) (I H : Hp) (S : Sm) : Prop where
  at_ : ∀ s, c = some s → s ≠ l ∧ I s = none ∧ I l = none ∧ H s = some (.lst [.ref l, .int S.cur, .int S.cnt, .int S.mix]) ∧ H l = some (.lst (S.cells.map V.int))
structure Stt (B : Bs) (I H : Hp) (S : Sm) : Prop where
  sub : Sub I H
  le : Le B.I I
  keep : ∀ a o, B.H a = some o → B.I a = none → ¬ B.isSt a → H a = some o
  new : ∀ a o, I a = some o → (∃ o', B.I a = some o') ∨ B.H a = none ∨ ∃ xs, o = .tup xs
  st : StAt B.c B.l I H S
  nofr : ∀ a o u, I a = some (.frz o u) → ((∃ kvs, u = .dK kvs) ∨ (∃ kvs, u = .dT kvs)) ∧ B.I a = some (.frz o u)
  stH : ∀ a, B.isSt a → ∃ o, B.H a = some o
  fr : ∀ a o, B.fr a = some o → H a = some o ∧ I a = none ∧ B.H a = none ∧ ∀ xs, o ≠ .tup xs
inductive Sl where
  | no | v (d : D) | o (d : D)
abbrev Ev := List Sl
structure R (B : Bs) (E : Ev) (S : Sm) (σ : St) (I H : Hp) : Prop where
  st : Stt B I H S
  len : σ.length = E.length
  v : ∀ (i : Nat) d, E[i]? = some (.v d) → ∃ x, σ[i]? = some (some x) ∧ Den B.c I x d
  o : ∀ (i : Nat) d, E[i]? = some (.o d) → ∃ p u, σ[i]? = some (some (.ref p)) ∧ I p = none ∧ (B.H p = none ∧ B.fr p = none ∧ ∀ xs, u ≠ .tup xs) ∧ H p = some u ∧ ObjD B.c I u d
  ne : ∀ (i j : Nat) d e p, i ≠ j → E[i]? = some (.o d) → E[j]? = some (.o e) → σ[i]? = some (some (.ref p)) → σ[j]? = some (some (.ref p)) → False
/-- a new object that is nobody's -/
structure Fresh (B : Bs) (E : Ev) (σ : St) (I H : Hp) (v : V) (d : D) : Prop where
  at_ : ∃ p u, v = .ref p ∧ I p = none ∧ (B.H p = none ∧ B.fr p = none) ∧ H p = some u ∧ ObjD B.c I u d ∧ ∀ (i : Nat) e, E[i]? = some (.o e) → σ[i]? ≠ some (some (.ref p))
section
variable {B : Bs} {E : Ev} {S : Sm} {σ : St} {I H : Hp}
theorem Stt.stSome (s : Stt B I H S) {a : Addr} (h : B.isSt a) : ∃ o, H a = some o := by
  obtain ⟨q, hc, h⟩ := h
  obtain ⟨_, _, _, h1, h2⟩ := s.st.at_ q hc
  rcases h with rfl | rfl
  · exact ⟨_, h1⟩
  · exact ⟨_, h2⟩
theorem Stt.stI (s : Stt B I H S) {a : Addr} (h : B.isSt a) : I a = none := by
  obtain ⟨q, hc, h⟩ := h
  obtain ⟨_, h1, h2, _, _⟩ := s.st.at_ q hc
  rcases h with rfl | rfl
  · exact h1
  · exact h2
/-- what is new now was new at the start -/
theorem Stt.fresh (s : Stt B I H S) {p : Addr} (h : H p = none) : B.H p = none := by
  cases q : B.H p with
  | none => rfl
  | some o =>
    cases qi : B.I p with
    | none =>
      by_cases hs : B.isSt p
      · obtain ⟨o, z⟩ := s.stSome hs
        rw [h] at z
        cases z
      · have z := s.keep p o q qi hs
        rw [h] at z
        cases z
    | some u =>
      obtain ⟨o', z⟩ := s.le.some qi
      have z := s.sub _ _ z
      rw [h] at z
      cases z
theorem Stt.freeI (s : Stt B I H S) {p : Addr} (h : H p = none) : I p = none := by
  cases q : I p with
  | none => rfl
  | some o =>
    have z := s.sub _ _ q
    rw [h] at z
    cases z
/-- a place beside the frozen and the stream is laid or changed -/
theorem Stt.put (s : Stt B I H S) {p : Addr} {u : HO} (hi : I p = none) (hb : B.H p = none) (hf : B.fr p = none) (hs : ¬ B.isSt p) : Stt B I (upd H p u) S where
  sub := fun a o h => by
    have : a ≠ p := fun e => by rw [e, hi] at h; cases h
    rw [upd_ne this]
    exact s.sub a o h
  le := s.le
  keep := fun a o h h1 h2 => by
    have : a ≠ p := fun e => by rw [e, hb] at h; cases h
    rw [upd_ne this]
    exact s.keep a o h h1 h2
  new := s.new
  st := ⟨fun q hc => by
    obtain ⟨h0, h1, h2, h3, h4⟩ := s.st.at_ q hc
    have n1 : q ≠ p := fun e => hs ⟨q, hc, .inl e.symm⟩
    have n2 : B.l ≠ p := fun e => hs ⟨q, hc, .inr e.symm⟩
    exact ⟨h0, h1, h2, by rw [upd_ne n1]; exact h3, by rw [upd_ne n2]; exact h4⟩⟩
  nofr := s.nofr
  stH := s.stH
  fr := fun a o h => by
    have : a ≠ p := fun e => by rw [e, hf] at h; cases h
    rw [upd_ne this]
    exact s.fr a o h
theorem Stt.noFr (s : Stt B I H S) {p : Addr} (h : H p = none) : B.fr p = none := by
  cases q : B.fr p with
  | none => rfl
  | some o =>
    have z := (s.fr p o q).1
    rw [h] at z
    cases z
theorem Stt.off (s : Stt B I H S) {p : Addr} (h : B.H p = none) : ¬ B.isSt p := fun z => by
  obtain ⟨o, e⟩ := s.stH p z
  rw [h] at e
  cases e
theorem Stt.notSt (s : Stt B I H S) {p : Addr} (h : H p = none) : ¬ B.isSt p := fun z => by
  obtain ⟨o, e⟩ := s.stSome z
  rw [h] at e
  cases e
/-- a new object is laid -/
theorem R.alloc (r : R B E S σ I H) {p : Addr} {u : HO} (h : H p = none) : R B E S σ I (upd H p u) where
  st := r.st.put (r.st.freeI h) (r.st.fresh h) (r.st.noFr h) (r.st.notSt h)
  len := r.len
  v := r.v
  o := fun i d hi => by
    obtain ⟨q, w, h1, h2, h3, h4, h5⟩ := r.o i d hi
    exact ⟨q, w, h1, h2, h3, by rw [upd_ne (ne_of_none h4 h)]; exact h4, h5⟩
  ne := r.ne
theorem R.fresh (r : R B E S σ I H) {p : Addr} {u : HO} {d : D} (h : H p = none) (ho : ObjD B.c I u d) : Fresh B E σ I (upd H p u) (.ref p) d :=
  ⟨p, u, rfl, r.st.freeI h, ⟨r.st.fresh h, r.st.noFr h⟩, upd_same, ho, fun i e hi z => by
    obtain ⟨q, w, h1, _, _, h4, _⟩ := r.o i e hi
    rw [z] at h1
    cases h1
    rw [h] at h4
    cases h4⟩
/-- the frozen grows by an object that stands there -/
theorem Stt.freeze (s : Stt B I H S) {p : Addr} {u : HO} (hi : I p = none) (hb : B.H p = none) (hfr : B.fr p = none) (hp : H p = some u) (hs : ¬ B.isSt p) (hf : ∀ o w, u ≠ .frz o w) : Stt B (upd I p u) H S where
  sub := fun a o h => by
    by_cases e : a = p
    · subst e
      rw [upd_same] at h
      cases h
      exact hp
    · rw [upd_ne e] at h
      exact s.sub a o h
  le := s.le.trans (Le.new hi)
  keep := s.keep
  new := fun a o h => by
    by_cases e : a = p
    · subst e
      exact .inr (.inl hb)
    · rw [upd_ne e] at h
      exact s.new a o h
  st := ⟨fun q hc => by
    obtain ⟨h0, h1, h2, h3, h4⟩ := s.st.at_ q hc
    have n1 : q ≠ p := fun e => hs ⟨q, hc, .inl e.symm⟩
    have n2 : B.l ≠ p := fun e => hs ⟨q, hc, .inr e.symm⟩
    exact ⟨h0, by rw [upd_ne n1]; exact h1, by rw [upd_ne n2]; exact h2, h3, h4⟩⟩
  nofr := fun a o w h => by
    by_cases e : a = p
    · subst e
      rw [upd_same] at h
      exact absurd (Option.some.inj h) (hf o w)
    · rw [upd_ne e] at h
      exact s.nofr a o w h
  stH := s.stH
  fr := fun a o h => by
    have : a ≠ p := fun e => by rw [e, hfr] at h; cases h
    rw [upd_ne this]
    exact s.fr a o h
theorem R.freeze (r : R B E S σ I H) {v : V} {d : D} (f : Fresh B E σ I H v d) : ∃ I', R B E S σ I' H ∧ Le I I' ∧ Den B.c I' v d := by
  obtain ⟨p, u, rfl, h1, ⟨h2, h2'⟩, h3, h4, h5⟩ := f
  have e : Le I (upd I p u) := Le.new h1
  refine ⟨upd I p u, ⟨r.st.freeze h1 h2 h2' h3 (r.st.off h2) h4.plain, r.len, fun i d hi => ?_, fun i d hi => ?_, r.ne⟩, e, (h4.mono e).den upd_same⟩
  · obtain ⟨x, hx, hd⟩ := r.v i d hi
    exact ⟨x, hx, hd.mono e⟩
  · obtain ⟨q, w, z1, z2, z3, z4, z5⟩ := r.o i d hi
    have : q ≠ p := fun e => h5 i d hi (e ▸ z1)
    exact ⟨q, w, z1, by rw [upd_ne this]; exact z2, z3, z4, z5.mono e⟩
/-- an own object is given to the frozen -/
theorem R.give (r : R B E S σ I H) {i : Nat} {d : D} (h : E[i]? = some (.o d)) : ∃ I', R B (E.set i (.v d)) S σ I' H ∧ Le I I' := by
  obtain ⟨p, u, hp, h1, ⟨h2, h2', _⟩, h3, h4⟩ := r.o i d h
  have e : Le I (upd I p u) := Le.new h1
  have hlt : i < E.length := (List.getElem?_eq_some_iff.mp h).1
  refine ⟨upd I p u, ⟨r.st.freeze h1 h2 h2' h3 (r.st.off h2) h4.plain, by rw [List.length_set]; exact r.len, fun j d' hj => ?_, fun j d' hj => ?_, fun j k d' e' q hjk hj hk => ?_⟩, e⟩
  · by_cases z : j = i
    · subst z
      rw [List.getElem?_set_self hlt] at hj
      cases hj
      exact ⟨_, hp, (h4.mono e).den upd_same⟩
    · rw [List.getElem?_set_ne (Ne.symm z)] at hj
      obtain ⟨x, hx, hd⟩ := r.v j d' hj
      exact ⟨x, hx, hd.mono e⟩
  · by_cases z : j = i
    · subst z
      rw [List.getElem?_set_self hlt] at hj
      cases hj
    · rw [List.getElem?_set_ne (Ne.symm z)] at hj
      obtain ⟨q, w, z1, z2, z3, z4, z5⟩ := r.o j d' hj
      have : q ≠ p := fun e => by
        subst e
        exact r.ne i j d d' q (Ne.symm z) h hj hp z1
      exact ⟨q, w, z1, by rw [upd_ne this]; exact z2, z3, z4, z5.mono e⟩
  · by_cases z1 : j = i
    · subst z1
      rw [List.getElem?_set_self hlt] at hj
      cases hj
    · by_cases z2 : k = i
      · subst z2
        rw [List.getElem?_set_self hlt] at hk
        cases hk
      · rw [List.getElem?_set_ne (Ne.symm z1)] at hj
        rw [List.getElem?_set_ne (Ne.symm z2)] at hk
        exact r.ne j k d' e' q hjk hj hk
/-- a slot is filled with a frozen value -/
theorem R.setV (r : R B E S σ I H) {i : Nat} {x : V} {d : D} (hi : i < E.length) (hd : Den B.c I x d) : R B (E.set i (.v d)) S (σ.set i (some x)) I H := by
  have hs : i < σ.length := by rw [r.len]; exact hi
  refine ⟨r.st, by rw [List.length_set, List.length_set]; exact r.len, fun j d' hj => ?_, fun j d' hj => ?_, fun j k d' e' q hjk hj hk h1 h2 => ?_⟩
  · by_cases z : j = i
    · subst z
      rw [List.getElem?_set_self hi] at hj
      cases hj
      exact ⟨x, List.getElem?_set_self hs, hd⟩
    · rw [List.getElem?_set_ne (Ne.symm z)] at hj ⊢
      exact r.v j d' hj
  · by_cases z : j = i
    · subst z
      rw [List.getElem?_set_self hi] at hj
      cases hj
    · rw [List.getElem?_set_ne (Ne.symm z)] at hj ⊢
      exact r.o j d' hj
  · by_cases z1 : j = i
    · subst z1
      rw [List.getElem?_set_self hi] at hj
      cases hj
    · by_cases z2 : k = i
      · subst z2
        rw [List.getElem?_set_self hi] at hk
        cases hk
      · rw [List.getElem?_set_ne (Ne.symm z1)] at hj h1
        rw [List.getElem?_set_ne (Ne.symm z2)] at hk h2
        exact r.ne j k d' e' q hjk hj hk h1 h2
/-- a slot is filled with a new object, to be one's own -/
theorem R.setO (r : R B E S σ I H) {i : Nat} {x : V} {d : D} (hi : i < E.length) (ht : ∀ xs, d ≠ .tup xs) (f : Fresh B E σ I H x d) : R B (E.set i (.o d)) S (σ.set i (some x)) I H := by
  have hs : i < σ.length := by rw [r.len]; exact hi
  obtain ⟨p, u, rfl, f1, f2, f3, f4, f5⟩ := f
  refine ⟨r.st, by rw [List.length_set, List.length_set]; exact r.len, fun j d' hj => ?_, fun j d' hj => ?_, fun j k d' e' q hjk hj hk h1 h2 => ?_⟩
  · by_cases z : j = i
    · subst z
      rw [List.getElem?_set_self hi] at hj
      cases hj
    · rw [List.getElem?_set_ne (Ne.symm z)] at hj ⊢
      exact r.v j d' hj
  · by_cases z : j = i
    · subst z
      rw [List.getElem?_set_self hi] at hj
      cases hj
      exact ⟨p, u, List.getElem?_set_self hs, f1, ⟨f2.1, f2.2, fun xs z => by subst z; cases f4; exact ht _ rfl⟩, f3, f4⟩
    · rw [List.getElem?_set_ne (Ne.symm z)] at hj ⊢
      exact r.o j d' hj
  · by_cases z1 : j = i
    · by_cases z2 : k = i
      · exact hjk (z1.trans z2.symm)
      · subst z1
        rw [List.getElem?_set_ne (Ne.symm z2)] at hk h2
        rw [List.getElem?_set_self hs] at h1
        cases h1
        exact f5 k e' hk h2
    · by_cases z2 : k = i
      · subst z2
        rw [List.getElem?_set_ne (Ne.symm z1)] at hj h1
        rw [List.getElem?_set_self hs] at h2
        cases h2
        exact f5 j d' hj h1
      · rw [List.getElem?_set_ne (Ne.symm z1)] at hj h1
        rw [List.getElem?_set_ne (Ne.symm z2)] at hk h2
        exact r.ne j k d' e' q hjk hj hk h1 h2
/-- an own object is changed -/
theorem R.mut (r : R B E S σ I H) {i : Nat} {d d2 : D} {p : Addr} {u : HO} (h : E[i]? = some (.o d)) (hp : σ[i]? = some (some (.ref p))) (hu : ObjD B.c I u d2) (ht : ∀ xs, u ≠ .tup xs) : R B (E.set i (.o d2)) S σ I (upd H p u) := by
  obtain ⟨q, w, z1, z2, z3, z4, z5⟩ := r.o i d h
  rw [hp] at z1
  cases z1
  have hlt : i < E.length := (List.getElem?_eq_some_iff.mp h).1
  refine ⟨r.st.put z2 z3.1 z3.2.1 (r.st.off z3.1), by rw [List.length_set]; exact r.len, fun j d' hj => ?_, fun j d' hj => ?_, fun j k d' e' q' hjk hj hk h1 h2 => ?_⟩
  · by_cases z : j = i
    · subst z
      rw [List.getElem?_set_self hlt] at hj
      cases hj
    · rw [List.getElem?_set_ne (Ne.symm z)] at hj
      exact r.v j d' hj
  · by_cases z : j = i
    · subst z
      rw [List.getElem?_set_self hlt] at hj
      cases hj
      exact ⟨p, u, hp, z2, ⟨z3.1, z3.2.1, ht⟩, upd_same, hu⟩
    · rw [List.getElem?_set_ne (Ne.symm z)] at hj
      obtain ⟨q, w', y1, y2, y3, y4, y5⟩ := r.o j d' hj
      have : q ≠ p := fun e => by
        subst e
        exact r.ne i j d d' q (Ne.symm z) h hj hp y1
      exact ⟨q, w', y1, y2, y3, by rw [upd_ne this]; exact y4, y5⟩
  · have g : ∀ (l : Nat) (b : D), (E.set i (.o d2))[l]? = some (Sl.o b) → ∃ b', E[l]? = some (Sl.o b') := fun l b hl => by
      by_cases z : l = i
      · subst z
        exact ⟨_, h⟩
      · rw [List.getElem?_set_ne (Ne.symm z)] at hl
        exact ⟨_, hl⟩
    obtain ⟨b1, g1⟩ := g j _ hj
    obtain ⟨b2, g2⟩ := g k _ hk
    exact r.ne j k b1 b2 q' hjk g1 g2 h1 h2
/-- behind a call -/
theorem R.call (r : R B E S σ I H) {S' : Sm} {I' H' : Hp} (s : Stt ⟨B.c, B.l, I, H, fun _ => none⟩ I' H' S') : R B E S' σ I' H' := by
  have nst : ∀ {p}, B.H p = none → ¬ Bs.isSt ⟨B.c, B.l, I, H, fun _ => none⟩ p := fun hb z => r.st.off hb z
  have gone : ∀ {p o}, I p = none → H p = some o → B.H p = none → (∀ xs, o ≠ .tup xs) → I' p = none := fun {p o} z2 z4 zb zt => by
    cases q : I' p with
    | none => rfl
    | some w =>
      rcases s.new p w q with ⟨o', z⟩ | z | ⟨xs, z⟩
      · have z : I p = some o' := z
        rw [z2] at z; cases z
      · have z : H p = none := z
        rw [z4] at z; cases z
      · have k1 := s.keep p o z4 z2 (nst zb)
        have k2 := s.sub _ _ q
        rw [k1] at k2
        cases k2
        exact absurd z (zt xs)
  refine ⟨⟨s.sub, r.st.le.trans s.le, fun a o h h1 h2 => ?_, fun a o h => ?_, s.st, fun a o u h => ⟨(s.nofr a o u h).1, (r.st.nofr a o u (s.nofr a o u h).2).2⟩, r.st.stH, fun a o h => ?_⟩, r.len, fun i d hi => ?_, fun i d hi => ?_, r.ne⟩
  · have hH := r.st.keep a o h h1 h2
    cases q : I a with
    | none => exact s.keep a o hH q h2
    | some u =>
      rcases r.st.new a u q with ⟨o', z⟩ | z | ⟨xs, rfl⟩
      · rw [h1] at z; cases z
      · rw [h] at z; cases z
      · have k1 := r.st.sub _ _ q
        rw [k1] at hH
        cases hH
        exact s.sub _ _ (s.le.ex a _ q)
  · rcases s.new a o h with ⟨o', z⟩ | z | z
    · rcases r.st.new a o' z with y | y | ⟨xs, rfl⟩
      · exact .inl y
      · exact .inr (.inl y)
      · have k2 := s.le.ex a _ z
        rw [h] at k2
        cases k2
        exact .inr (.inr ⟨_, rfl⟩)
    · exact .inr (.inl (r.st.fresh z))
    · exact .inr (.inr z)
  · obtain ⟨z1, z2, z3, z4⟩ := r.st.fr a o h
    exact ⟨s.keep a o z1 z2 (nst z3), gone z2 z1 z3 z4, z3, z4⟩
  · obtain ⟨x, hx, hd⟩ := r.v i d hi
    exact ⟨x, hx, hd.mono s.le⟩
  · obtain ⟨p, u, z1, z2, z3, z4, z5⟩ := r.o i d hi
    exact ⟨p, u, z1, gone z2 z4 z3.1 z3.2.2, z3, s.keep p u z4 z2 (nst z3.1), z5.mono s.le⟩
theorem Stt.refl (s : Stt B I H S) : Stt ⟨B.c, B.l, I, H, fun _ => none⟩ I H S := ⟨s.sub, Le.refl _, fun _ _ h _ _ => h, fun _ o h => .inl ⟨o, h⟩, s.st, fun a o u h => ⟨(s.nofr a o u h).1, h⟩, fun a h => s.stSome (B := B) h, fun _ _ h => nomatch h⟩
/-- the frame's cells: one more, one less, one changed -/
def Bs.cell (B : Bs) (p : Addr) (u : HO) : Bs := { B with fr := upd B.fr p u }
theorem R.cell (r : R B E S σ I H) {p : Addr} {u : HO} (h : H p = none) (ht : ∀ xs, u ≠ .tup xs) : R (B.cell p u) E S σ I (upd H p u) := by
  have r1 := r.alloc (u := u) h
  refine ⟨⟨r1.st.sub, r1.st.le, r1.st.keep, r1.st.new, r1.st.st, r1.st.nofr, r1.st.stH, fun a o ha => ?_⟩, r1.len, r1.v, fun i d hi => ?_, r1.ne⟩
  · by_cases e : a = p
    · subst e
      have ha : upd B.fr a u a = some o := ha
      rw [upd_same] at ha
      cases ha
      exact ⟨upd_same, r.st.freeI h, r.st.fresh h, ht⟩
    · have ha : upd B.fr p u a = some o := ha
      rw [upd_ne e] at ha
      exact r1.st.fr a o ha
  · obtain ⟨q, w, z1, z2, z3, z4, z5⟩ := r.o i d hi
    have : q ≠ p := fun e => by rw [e, h] at z4; cases z4
    exact ⟨q, w, z1, z2, ⟨z3.1, (show upd B.fr p u q = none by rw [upd_ne this]; exact z3.2.1), z3.2.2⟩, by rw [upd_ne this]; exact z4, z5⟩
theorem R.cellAt {p : Addr} {u : HO} (r : R (B.cell p u) E S σ I H) : H p = some u ∧ I p = none ∧ B.H p = none ∧ ∀ xs, u ≠ .tup xs := r.st.fr p u upd_same
theorem R.cellSet {p : Addr} {u w : HO} (r : R (B.cell p u) E S σ I H) (ht : ∀ xs, w ≠ .tup xs) : R (B.cell p w) E S σ I (upd H p w) := by
  obtain ⟨h1, h2, h3, _⟩ := r.cellAt
  have hs := r.st.off h3
  refine ⟨⟨fun a o ha => ?_, r.st.le, fun a o ha h4 h5 => ?_, r.st.new, ⟨fun q hc => ?_⟩, r.st.nofr, r.st.stH, fun a o ha => ?_⟩, r.len, r.v, fun i d hi => ?_, r.ne⟩
  · have : a ≠ p := fun e => by rw [e, h2] at ha; cases ha
    rw [upd_ne this]
    exact r.st.sub a o ha
  · have : a ≠ p := fun e => by
      have z : B.H p = some o := e ▸ ha
      rw [h3] at z; cases z
    rw [upd_ne this]
    exact r.st.keep a o ha h4 h5
  · obtain ⟨g0, g1, g2, g3, g4⟩ := r.st.st.at_ q hc
    have n1 : q ≠ p := fun e => hs ⟨q, hc, .inl e.symm⟩
    have n2 : B.l ≠ p := fun e => hs ⟨q, hc, .inr e.symm⟩
    exact ⟨g0, g1, g2, by rw [upd_ne n1]; exact g3, by rw [show (upd H p w) (B.cell p w).l = H B.l from upd_ne n2]; exact g4⟩
  · by_cases e : a = p
    · subst e
      have ha : upd B.fr a w a = some o := ha
      rw [upd_same] at ha
      cases ha
      exact ⟨upd_same, h2, h3, ht⟩
    · have ha : upd B.fr p w a = some o := ha
      rw [upd_ne e] at ha ⊢
      exact r.st.fr a o (show upd B.fr p u a = some o by rw [upd_ne e]; exact ha)
  · obtain ⟨q, v, z1, z2, z3, z4, z5⟩ := r.o i d hi
    have z6 : upd B.fr p u q = none := z3.2.1
    have : q ≠ p := fun e => by rw [e, upd_same] at z6; cases z6
    rw [upd_ne this] at z6
    exact ⟨q, v, z1, z2, ⟨z3.1, (show upd B.fr p w q = none by rw [upd_ne this]; exact z6), z3.2.2⟩, by rw [upd_ne this]; exact z4, z5⟩
/-- the cell is let go: an object that is nobody's -/
theorem R.uncell {p : Addr} {u : HO} (hp : B.fr p = none) (r : R (B.cell p u) E S σ I H) : R B E S σ I H := by
  refine ⟨⟨r.st.sub, r.st.le, r.st.keep, r.st.new, r.st.st, r.st.nofr, r.st.stH, fun a o ha => ?_⟩, r.len, r.v, fun i d hi => ?_, r.ne⟩
  · have : a ≠ p := fun e => by rw [e, hp] at ha; cases ha
    exact r.st.fr a o (show upd B.fr p u a = some o by rw [upd_ne this]; exact ha)
  · obtain ⟨q, v, z1, z2, z3, z4, z5⟩ := r.o i d hi
    have z6 : upd B.fr p u q = none := z3.2.1
    have : q ≠ p := fun e => by rw [e, upd_same] at z6; cases z6
    rw [upd_ne this] at z6
    exact ⟨q, v, z1, z2, ⟨z3.1, z6, z3.2.2⟩, z4, z5⟩
theorem R.uncellF {p : Addr} {u : HO} {d : D} (hp : B.fr p = none) (r : R (B.cell p u) E S σ I H) (ho : ObjD B.c I u d) : Fresh B E σ I H (.ref p) d := by
  obtain ⟨h1, h2, h3, _⟩ := r.cellAt
  refine ⟨p, u, rfl, h2, ⟨h3, hp⟩, h1, ho, fun i e hi z => ?_⟩
  obtain ⟨q, v, z1, z2, z3, z4, z5⟩ := r.o i e hi
  rw [z] at z1
  cases z1
  have z6 : upd B.fr p u p = none := z3.2.1
  rw [upd_same] at z6
  cases z6
end

/-! ### mirrors: what an expression, a test, arguments, a statement comes to -/
abbrev FE := Ev → Sm → Option (D × Sm)
abbrev FT := Ev → Sm → Option (Bool × Sm)
abbrev FA := Ev → Sm → Option (List D × Sm)
inductive Out where
  | nx | rt (d : D) | bk | ct
abbrev FS := Ev → Sm → Option (Out × Ev × Sm)
def RE (t : TE) (f : FE) : Prop := ∀ {B : Bs} {E : Ev} {S : Sm} {σ : St} {I H : Hp}, R B E S σ I H → ∀ {d : D} {S' : Sm}, f E S = some (d, S') → ∀ {Q : VK}, (∀ v I' H', R B E S' σ I' H' → Le I I' → Den B.c I' v d → Q v H') → t σ H Q
/-- .. a new object -/
def RF (t : TE) (f : FE) : Prop := ∀ {B : Bs} {E : Ev} {S : Sm} {σ : St} {I H : Hp}, R B E S σ I H → ∀ {d : D} {S' : Sm}, f E S = some (d, S') → ∀ {Q : VK}, (∀ v I' H', R B E S' σ I' H' → Le I I' → Fresh B E σ I' H' v d → Q v H') → t σ H Q
def RT (t : TT) (f : FT) : Prop := ∀ {B : Bs} {E : Ev} {S : Sm} {σ : St} {I H : Hp}, R B E S σ I H → ∀ {b : Bool} {S' : Sm}, f E S = some (b, S') → ∀ {Q : Bool → Hp → Prop}, (∀ I' H', R B E S' σ I' H' → Le I I' → Q b H') → t σ H Q
def RA (t : TA) (f : FA) : Prop := ∀ {B : Bs} {E : Ev} {S : Sm} {σ : St} {I H : Hp}, R B E S σ I H → ∀ {ds : List D} {S' : Sm}, f E S = some (ds, S') → ∀ {Q : List V → Hp → Prop}, (∀ vs I' H', R B E S' σ I' H' → Le I I' → DenL B.c I' vs ds → Q vs H') → t σ H Q
def Post (B : Bs) (I : Hp) (Dn : Ends) (E' : Ev) (S' : Sm) : Out → Prop
  | .nx => ∀ σ' I' H', R B E' S' σ' I' H' → Le I I' → Dn.nx σ' H'
  | .rt d => ∀ v I' H', Stt B I' H' S' → Le I I' → Den B.c I' v d → Dn.rt v H'
  | .bk => ∀ σ' I' H', R B E' S' σ' I' H' → Le I I' → Dn.bk σ' H'
  | .ct => ∀ σ' I' H', R B E' S' σ' I' H' → Le I I' → Dn.ct σ' H'
def RS (t : TS) (g : FS) : Prop := ∀ {B : Bs} {E : Ev} {S : Sm} {σ : St} {I H : Hp}, R B E S σ I H → ∀ {o : Out} {E' : Ev} {S' : Sm}, g E S = some (o, E', S') → ∀ {Dn : Ends}, Post B I Dn E' S' o → t Dn σ H
theorem RF.e {t : TE} {f : FE} (h : RF t f) : RE t f := fun {B E S σ I H} r {d S'} e {Q} k => h r e fun v I' H' r' l fr => by
  obtain ⟨I2, r2, l2, hd⟩ := r'.freeze fr
  exact k v I2 H' r2 (l.trans l2) hd
theorem Post.le {B : Bs} {I I' : Hp} (e : Le I I') {Dn : Ends} {E' : Ev} {S' : Sm} {o : Out} (h : Post B I Dn E' S' o) : Post B I' Dn E' S' o := by
  cases o with
  | nx => exact fun σ' J H' r l => h σ' J H' r (e.trans l)
  | rt d => exact fun v J H' r l hd => h v J H' r (e.trans l) hd
  | bk => exact fun σ' J H' r l => h σ' J H' r (e.trans l)
  | ct => exact fun σ' J H' r l => h σ' J H' r (e.trans l)
end M

set_option Elab.async false
set_option linter.all false
set_option maxRecDepth 100000
set_option maxHeartbeats 4000000
namespace M
open PySem L2

/-! ### blocks -/
def seqS (g1 g2 : FS) : FS := fun E S => match g1 E S with
  | some (.nx, E1, S1) => g2 E1 S1
  | r => r
def nextS : FS := fun E S => some (.nx, E, S)
def neverS : FS := fun _ _ => none
section
variable {t u : TS} {g1 g2 : FS}
theorem rs_seq (h1 : RS t g1) (h2 : RS u g2) : RS (tSeq t u) (seqS g1 g2) := fun {B E S σ I H} r {o E' S'} e {Dn} k => by
  unfold seqS at e
  cases q : g1 E S with
  | none => rw [q] at e; cases e
  | some w =>
    obtain ⟨o1, E1, S1⟩ := w
    rw [q] at e
    cases o1 with
    | nx => exact h1 r q (Dn := { Dn with nx := u Dn }) fun σ' I' H' r' l => h2 r' e (Post.le l k)
    | rt d => cases e; exact h1 r q (Dn := { Dn with nx := u Dn }) k
    | bk => cases e; exact h1 r q (Dn := { Dn with nx := u Dn }) k
    | ct => cases e; exact h1 r q (Dn := { Dn with nx := u Dn }) k
theorem rs_next : RS tNext nextS := fun {B E S σ I H} r {o E' S'} e {Dn} k => by
  cases e
  exact k σ I H r (Le.refl _)
theorem rs_never : RS tNever neverS := fun {B E S σ I H} r {o E' S'} e {Dn} k => by cases e
end
/-- statements that hand on, end a turn, end a loop -/
def brkS : FS := fun E S => some (.bk, E, S)
def conS : FS := fun E S => some (.ct, E, S)
theorem rs_brk : RS tBreak brkS := fun {B E S σ I H} r {o E' S'} e {Dn} k => by
  cases e
  exact k σ I H r (Le.refl _)
theorem rs_con : RS tCont conS := fun {B E S σ I H} r {o E' S'} e {Dn} k => by
  cases e
  exact k σ I H r (Le.refl _)

/-! ### returns, drops, assignments, ifs -/
def retS (f : FE) : FS := fun E S => match f E S with
  | some (d, S1) => some (.rt d, E, S1)
  | none => none
def retNS : FS := fun E S => some (.rt .non, E, S)
def dropS (f : FE) : FS := fun E S => match f E S with
  | some (_, S1) => some (.nx, E, S1)
  | none => none
def setS (i : Nat) (f : FE) : FS := fun E S => match f E S with
  | some (d, S1) => if i < E.length then some (.nx, E.set i (.v d), S1) else none
  | none => none
def notTup : D → Bool
  | .tup _ => false
  | _ => true
theorem notTup_ok {d : D} (h : notTup d = true) : ∀ xs, d ≠ .tup xs := fun xs e => by subst e; cases h
def ownS (i : Nat) (f : FE) : FS := fun E S => match f E S with
  | some (d, S1) => if i < E.length ∧ notTup d = true then some (.nx, E.set i (.o d), S1) else none
  | none => none
def ifS (c : FT) (g1 g2 : FS) : FS := fun E S => match c E S with
  | some (b, S1) => if b then g1 E S1 else g2 E S1
  | none => none
/-- own things are given away ahead of a statement -/
def giveS (i : Nat) (g : FS) : FS := fun E S => match E[i]? with
  | some (.o d) => g (E.set i (.v d)) S
  | _ => none
/-- own things, or none, or frozen ones: given away if there is something to give -/
def giveQ (i : Nat) (g : FS) : FS := fun E S => match E[i]? with
  | some (.o d) => g (E.set i (.v d)) S
  | _ => g E S
section
variable {te : TE} {f : FE} {t u : TS} {g1 g2 : FS} {tc : TT} {c : FT}
theorem rs_ret (h : RE te f) : RS (tRet te) (retS f) := fun {B E S σ I H} r {o E' S'} e {Dn} k => by
  unfold retS at e
  cases q : f E S with
  | none => rw [q] at e; cases e
  | some w => rw [q] at e; cases e; exact h r q fun v I' H' r' l hd => k v I' H' r'.st l hd
theorem rs_retN : RS tRetN retNS := fun {B E S σ I H} r {o E' S'} e {Dn} k => by
  cases e
  exact k .non I H r.st (Le.refl _) .non
theorem rs_drop (h : RE te f) : RS (tDrop te) (dropS f) := fun {B E S σ I H} r {o E' S'} e {Dn} k => by
  unfold dropS at e
  cases q : f E S with
  | none => rw [q] at e; cases e
  | some w => rw [q] at e; cases e; exact h r q fun v I' H' r' l hd => k σ I' H' r' l
theorem rs_set {i : Nat} (h : RE te f) : RS (tAsg te (gName i)) (setS i f) := fun {B E S σ I H} r {o E' S'} e {Dn} k => by
  unfold setS at e
  cases q : f E S with
  | none => rw [q] at e; cases e
  | some w =>
    rw [q] at e
    simp only at e
    split at e
    · cases e
      rename_i hi
      exact h r q fun v I' H' r' l hd => k _ I' H' (r'.setV hi hd) l
    · cases e
theorem rs_own {i : Nat} (h : RF te f) : RS (tAsg te (gName i)) (ownS i f) := fun {B E S σ I H} r {o E' S'} e {Dn} k => by
  unfold ownS at e
  cases q : f E S with
  | none => rw [q] at e; cases e
  | some w =>
    rw [q] at e
    simp only at e
    split at e
    · cases e
      rename_i hi
      exact h r q fun v I' H' r' l fr => k _ I' H' (r'.setO hi.1 (notTup_ok hi.2) fr) l
    · cases e
theorem rs_if (hc : RT tc c) (h1 : RS t g1) (h2 : RS u g2) : RS (tIfS tc t u) (ifS c g1 g2) := fun {B E S σ I H} r {o E' S'} e {Dn} k => by
  unfold ifS at e
  cases q : c E S with
  | none => rw [q] at e; cases e
  | some w =>
    obtain ⟨b, S1⟩ := w
    rw [q] at e
    refine hc r q fun I' H' r' l => ?_
    cases b with
    | true => exact h1 r' e (Post.le l k)
    | false => exact h2 r' e (Post.le l k)
theorem rs_give {i : Nat} (h : RS t g1) : RS t (giveS i g1) := fun {B E S σ I H} r {o E' S'} e {Dn} k => by
  unfold giveS at e
  split at e
  · rename_i d q
    obtain ⟨I', r', l⟩ := r.give q
    exact h r' e (Post.le l k)
  · cases e
theorem rs_giveQ {i : Nat} (h : RS t g1) : RS t (giveQ i g1) := fun {B E S σ I H} r {o E' S'} e {Dn} k => by
  unfold giveQ at e
  split at e
  · rename_i d q
    obtain ⟨I', r', l⟩ := r.give q
    exact h r' e (Post.le l k)
  · exact h r e k
end

/-! ### names, constants, operators -/
def vE (i : Nat) : FE := fun E S => match E[i]? with
  | some (.v d) => some (d, S)
  | _ => none
def cE (d : D) : FE := fun _ S => some (d, S)
abbrev Op2 := D → D → Option D
def opE (g : Op2) (fa fb : FE) : FE := fun E S => match fa E S with
  | some (x, S1) => match fb E S1 with
    | some (y, S2) => match g x y with
      | some z => some (z, S2)
      | none => none
    | none => none
  | none => none
def RB (r : R2) (g : Op2) : Prop := ∀ {B : Bs} {E : Ev} {S : Sm} {σ : St} {I H : Hp}, R B E S σ I H → ∀ {x y : V} {a b c : D}, Den B.c I x a → Den B.c I y b → g a b = some c → ∀ {Q : VK}, (∀ v I' H', R B E S σ I' H' → Le I I' → Den B.c I' v c → Q v H') → r x y H Q
/-- .. that make a new object -/
def RBF (r : R2) (g : Op2) : Prop := ∀ {B : Bs} {E : Ev} {S : Sm} {σ : St} {I H : Hp}, R B E S σ I H → ∀ {x y : V} {a b c : D}, Den B.c I x a → Den B.c I y b → g a b = some c → ∀ {Q : VK}, (∀ v I' H', R B E S σ I' H' → Le I I' → Fresh B E σ I' H' v c → Q v H') → r x y H Q
def orO (g1 g2 : Op2) : Op2 := fun x y => match g1 x y with
  | some z => some z
  | none => g2 x y
section
variable {ta tb : TE} {fa fb : FE} {r r' : R2} {g g' : Op2}
theorem re_v {i : Nat} : RE (tVar i) (vE i) := fun {B E S σ I H} r {d S'} e {Q} k => by
  unfold vE at e
  split at e
  · rename_i d' q
    cases e
    obtain ⟨x, hx, hd⟩ := r.v i d q
    exact ⟨x, hx, k x I H r (Le.refl _) hd⟩
  · cases e
theorem re_int {i : Int} : RE (tC (.int i)) (cE (.int i)) := fun {B E S σ I H} r {d S'} e {Q} k => by
  cases e
  exact k _ I H r (Le.refl _) (.int i)
theorem re_bl {i : Bool} : RE (tC (.bl i)) (cE (.bl i)) := fun {B E S σ I H} r {d S'} e {Q} k => by
  cases e
  exact k _ I H r (Le.refl _) (.bl i)
theorem re_str {i : Str} : RE (tC (.str i)) (cE (.str i)) := fun {B E S σ I H} r {d S'} e {Q} k => by
  cases e
  exact k _ I H r (Le.refl _) (.str i)
theorem re_non : RE (tC .non) (cE .non) := fun {B E S σ I H} r {d S'} e {Q} k => by
  cases e
  exact k _ I H r (Le.refl _) .non
theorem RBF.b (h : RBF r g) : RB r g := fun {B E S σ I H} rr {x y a b c} hx hy e {Q} k => h rr hx hy e fun v I' H' r' l fr => by
  obtain ⟨I2, r2, l2, hd⟩ := r'.freeze fr
  exact k v I2 H' r2 (l.trans l2) hd
theorem re_op (hr : RB r g) (ha : RE ta fa) (hb : RE tb fb) : RE (tOp r ta tb) (opE g fa fb) := fun {B E S σ I H} rr {d S'} e {Q} k => by
  unfold opE at e
  cases q1 : fa E S with
  | none => rw [q1] at e; cases e
  | some w1 =>
    obtain ⟨x, S1⟩ := w1
    rw [q1] at e
    simp only at e
    cases q2 : fb E S1 with
    | none => rw [q2] at e; cases e
    | some w2 =>
      obtain ⟨y, S2⟩ := w2
      rw [q2] at e
      simp only at e
      cases q3 : g x y with
      | none => rw [q3] at e; cases e
      | some z =>
        rw [q3] at e
        cases e
        exact ha rr q1 fun v1 I1 H1 r1 l1 h1 => hb r1 q2 fun v2 I2 H2 r2 l2 h2 => hr r2 (h1.mono l2) h2 q3 fun v I' H' r' l hd => k v I' H' r' (l1.trans (l2.trans l)) hd
theorem rf_op (hr : RBF r g) (ha : RE ta fa) (hb : RE tb fb) : RF (tOp r ta tb) (opE g fa fb) := fun {B E S σ I H} rr {d S'} e {Q} k => by
  unfold opE at e
  cases q1 : fa E S with
  | none => rw [q1] at e; cases e
  | some w1 =>
    obtain ⟨x, S1⟩ := w1
    rw [q1] at e
    simp only at e
    cases q2 : fb E S1 with
    | none => rw [q2] at e; cases e
    | some w2 =>
      obtain ⟨y, S2⟩ := w2
      rw [q2] at e
      simp only at e
      cases q3 : g x y with
      | none => rw [q3] at e; cases e
      | some z =>
        rw [q3] at e
        cases e
        exact ha rr q1 fun v1 I1 H1 r1 l1 h1 => hb r1 q2 fun v2 I2 H2 r2 l2 h2 => hr r2 (h1.mono l2) h2 q3 fun v I' H' r' l hd => k v I' H' r' (l1.trans (l2.trans l)) hd
theorem rb_or (h : RB r g) (h' : RB r' g') : RB (fun x y H Q => r x y H Q ∨ r' x y H Q) (orO g g') := fun {B E S σ I H} rr {x y a b c} hx hy e {Q} k => by
  unfold orO at e
  split at e
  · rename_i z q
    cases e
    exact .inl (h rr hx hy q k)
  · exact .inr (h' rr hx hy e k)
theorem rbf_or (h : RBF r g) (h' : RBF r' g') : RBF (fun x y H Q => r x y H Q ∨ r' x y H Q) (orO g g') := fun {B E S σ I H} rr {x y a b c} hx hy e {Q} k => by
  unfold orO at e
  split at e
  · rename_i z q
    cases e
    exact .inl (h rr hx hy q k)
  · exact .inr (h' rr hx hy e k)
end
/-- two readings of one expression -/
theorem pe_or2 {X : Cx} {e : Expr} {t u : TE} (h : PE X e t) (h' : PE X e u) : PE X e (fun σ H Q => t σ H Q ∨ u σ H Q) := ⟨fun pins s σ H Q I hw => by
  rcases hw with hw | hw
  · exact h.run pins s σ H Q I hw
  · exact h'.run pins s σ H Q I hw⟩

/-! ### ints -/
def addI : Op2 | .int i, .int j => some (.int (i + j)) | _, _ => none
def subI : Op2 | .int i, .int j => some (.int (i - j)) | _, _ => none
def mulI : Op2 | .int i, .int j => if i.natAbs < 2 ^ 63 ∨ j.natAbs < 2 ^ 63 then some (.int (i * j)) else none | _, _ => none
def modI : Op2 | .int i, .int j => if 0 < j then some (.int (i % j)) else none | _, _ => none
def divI : Op2 | .int i, .int j => if 0 < j ∧ j < 1073741824 then some (.int (i / j)) else none | _, _ => none
def ltI : Op2 | .int i, .int j => some (.bl (decide (i < j))) | _, _ => none
def leI : Op2 | .int i, .int j => some (.bl (decide (i ≤ j))) | _, _ => none
def gtI : Op2 | .int i, .int j => some (.bl (decide (j < i))) | _, _ => none
def geI : Op2 | .int i, .int j => some (.bl (decide (j ≤ i))) | _, _ => none
theorem den_int {c : Option Addr} {I : Hp} {v : V} {i : Int} (h : Den c I v (.int i)) : v = .int i := by cases h; rfl
theorem den_bl {c : Option Addr} {I : Hp} {v : V} {i : Bool} (h : Den c I v (.bl i)) : v = .bl i := by cases h; rfl
theorem den_str {c : Option Addr} {I : Hp} {v : V} {i : Str} (h : Den c I v (.str i)) : v = .str i := by cases h; rfl
theorem den_non {c : Option Addr} {I : Hp} {v : V} (h : Den c I v .non) : v = .non := by cases h; rfl
theorem rb_I0 {g : Int → Int → V} {gd : Op2} (hg : ∀ a b c, gd a b = some c → ∃ i j, a = .int i ∧ b = .int j ∧ ∀ k I, Den k I (g i j) c) : RB (rI0 g) gd := fun {B E S σ I H} r {x y a b c} hx hy e {Q} k => by
  obtain ⟨i, j, rfl, rfl, hc⟩ := hg _ _ _ e
  exact ⟨i, j, den_int hx, den_int hy, k _ I H r (Le.refl _) (hc _ _)⟩
theorem rb_I {C : Int → Int → Prop} {g : Int → Int → V} {gd : Op2} (hg : ∀ a b c, gd a b = some c → ∃ i j, a = .int i ∧ b = .int j ∧ C i j ∧ ∀ k I, Den k I (g i j) c) : RB (rI C g) gd := fun {B E S σ I H} r {x y a b c} hx hy e {Q} k => by
  obtain ⟨i, j, rfl, rfl, hC, hc⟩ := hg _ _ _ e
  exact ⟨i, j, den_int hx, den_int hy, hC, k _ I H r (Le.refl _) (hc _ _)⟩
theorem rb_add : RB (rI0 fun i j => .int (i + j)) addI := rb_I0 fun a b c e => by
  unfold addI at e; split at e <;> cases e
  exact ⟨_, _, rfl, rfl, fun _ _ => .int _⟩
theorem rb_sub : RB (rI0 fun i j => .int (i - j)) subI := rb_I0 fun a b c e => by
  unfold subI at e; split at e <;> cases e
  exact ⟨_, _, rfl, rfl, fun _ _ => .int _⟩
theorem rb_mul : RB (rI CMul fun i j => .int (i * j)) mulI := rb_I fun a b c e => by
  unfold mulI at e; split at e
  · split at e <;> cases e
    rename_i h
    exact ⟨_, _, rfl, rfl, by unfold CMul; omega, fun _ _ => .int _⟩
  · cases e
theorem rb_mod : RB (rI (fun _ j => 0 < j) fun i j => .int (i % j)) modI := rb_I fun a b c e => by
  unfold modI at e; split at e
  · split at e <;> cases e
    rename_i h
    exact ⟨_, _, rfl, rfl, h, fun _ _ => .int _⟩
  · cases e
theorem rb_div : RB (rI CDiv fun i j => .int (i / j)) divI := rb_I fun a b c e => by
  unfold divI at e; split at e
  · split at e <;> cases e
    rename_i h
    exact ⟨_, _, rfl, rfl, h, fun _ _ => .int _⟩
  · cases e
theorem rb_lt : RB (rI0 fun i j => .bl (decide (i < j))) ltI := rb_I0 fun a b c e => by
  unfold ltI at e; split at e <;> cases e
  exact ⟨_, _, rfl, rfl, fun _ _ => .bl _⟩
theorem rb_le : RB (rI0 fun i j => .bl (decide (i ≤ j))) leI := rb_I0 fun a b c e => by
  unfold leI at e; split at e <;> cases e
  exact ⟨_, _, rfl, rfl, fun _ _ => .bl _⟩
theorem rb_gt : RB (rI0 fun i j => .bl (decide (j < i))) gtI := rb_I0 fun a b c e => by
  unfold gtI at e; split at e <;> cases e
  exact ⟨_, _, rfl, rfl, fun _ _ => .bl _⟩
theorem rb_ge : RB (rI0 fun i j => .bl (decide (j ≤ i))) geI := rb_I0 fun a b c e => by
  unfold geI at e; split at e <;> cases e
  exact ⟨_, _, rfl, rfl, fun _ _ => .bl _⟩
/-! ### texts -/
def addS : Op2 | .str a, .str b => if a.length + b.length ≤ 10000000 then some (.str (a ++ b)) else none | _, _ => none
def ltS : Op2 | .str a, .str b => some (.bl (decide (a.cps.toList < b.cps.toList))) | _, _ => none
def rStr (C : Str → Str → Prop) (g : Str → Str → V) : R2 := fun x y H Q => ∃ i j, x = .str i ∧ y = .str j ∧ C i j ∧ Q (g i j) H
theorem rb_addS : RB (fun x y H Q => ∃ i j, x = V.str i ∧ y = .str j ∧ i.length + j.length ≤ sizeLine ∧ Q (.str (i ++ j)) H) addS := fun {B E S σ I H} r {x y a b c} hx hy e {Q} k => by
  unfold addS at e
  split at e
  · split at e <;> cases e
    rename_i h
    exact ⟨_, _, den_str hx, den_str hy, Nat.le_trans h (by decide), k _ I H r (Le.refl _) (.str _)⟩
  · cases e
theorem rb_ltS : RB (fun x y H Q => ∃ i j, x = V.str i ∧ y = .str j ∧ Q (.bl (decide (i.cps.toList < j.cps.toList))) H) ltS := fun {B E S σ I H} r {x y a b c} hx hy e {Q} k => by
  unfold ltS at e
  split at e
  · cases e
    exact ⟨_, _, den_str hx, den_str hy, k _ I H r (Le.refl _) (.bl _)⟩
  · cases e
end M

set_option Elab.async false
set_option linter.all false
set_option maxRecDepth 100000
set_option maxHeartbeats 4000000
namespace M
open PySem L2

theorem le_rfl {I : Hp} : Le I I := ⟨fun _ _ h => h⟩
/-! ### equality of single things; None -/
def eqA : Op2
  | .non, .non => some (.bl true)
  | .non, .int _ => some (.bl false) | .int _, .non => some (.bl false)
  | .non, .bl _ => some (.bl false) | .bl _, .non => some (.bl false)
  | .non, .str _ => some (.bl false) | .str _, .non => some (.bl false)
  | .int i, .int j => some (.bl (decide (i = j)))
  | .bl i, .bl j => some (.bl (decide (i = j)))
  | .str i, .str j => some (.bl (decide (i = j)))
  | .int _, .str _ => some (.bl false) | .str _, .int _ => some (.bl false)
  | .bl _, .str _ => some (.bl false) | .str _, .bl _ => some (.bl false)
  | _, _ => none
def notO (g : Op2) : Op2 := fun x y => match g x y with
  | some (.bl b) => some (.bl !b)
  | _ => none
theorem V.int_inj {i j : Int} : (V.int i = V.int j) ↔ i = j := ⟨fun h => by cases h; rfl, fun h => by rw [h]⟩
theorem V.str_inj {i j : Str} : (V.str i = V.str j) ↔ i = j := ⟨fun h => by cases h; rfl, fun h => by rw [h]⟩
theorem V.bl_inj {i j : Bool} : (V.bl i = V.bl j) ↔ i = j := ⟨fun h => by cases h; rfl, fun h => by rw [h]⟩
theorem eqA_ok {c : Option Addr} {I : Hp} {x y : V} {a b d : D} (hx : Den c I x a) (hy : Den c I y b) (e : eqA a b = some d) : scal x y = true ∧ d = .bl (decide (x = y)) := by
  unfold eqA at e
  split at e <;> cases e
  · cases den_non hx; cases den_non hy; exact ⟨rfl, rfl⟩
  · cases den_non hx; cases den_int hy; exact ⟨rfl, rfl⟩
  · cases den_int hx; cases den_non hy; exact ⟨rfl, rfl⟩
  · cases den_non hx; cases den_bl hy; exact ⟨rfl, rfl⟩
  · cases den_bl hx; cases den_non hy; exact ⟨rfl, rfl⟩
  · cases den_non hx; cases den_str hy; exact ⟨rfl, rfl⟩
  · cases den_str hx; cases den_non hy; exact ⟨rfl, rfl⟩
  · cases den_int hx; cases den_int hy; exact ⟨rfl, by simp only [V.int_inj]⟩
  · cases den_bl hx; cases den_bl hy; exact ⟨rfl, by simp only [V.bl_inj]⟩
  · cases den_str hx; cases den_str hy; exact ⟨rfl, by simp only [V.str_inj]⟩
  · cases den_int hx; cases den_str hy; exact ⟨rfl, rfl⟩
  · cases den_str hx; cases den_int hy; exact ⟨rfl, rfl⟩
  · cases den_bl hx; cases den_str hy; exact ⟨rfl, rfl⟩
  · cases den_str hx; cases den_bl hy; exact ⟨rfl, rfl⟩
theorem rb_eq : RB rEq eqA := fun {B E S σ I H} r {x y a b c} hx hy e {Q} k => by
  obtain ⟨h1, rfl⟩ := eqA_ok hx hy e
  exact ⟨h1, k _ I H r le_rfl (.bl _)⟩
theorem rb_ne : RB rNe (notO eqA) := fun {B E S σ I H} r {x y a b c} hx hy e {Q} k => by
  unfold notO at e
  split at e
  · rename_i b' q
    cases e
    obtain ⟨h1, h2⟩ := eqA_ok hx hy q
    cases h2
    exact ⟨h1, k _ I H r le_rfl (.bl _)⟩
  · cases e
def isNonD : D → Bool | .non => true | _ => false
theorem isNon_ok {c : Option Addr} {I : Hp} {v : V} {d : D} (h : Den c I v d) : decide (v = .non) = isNonD d := by
  cases h <;> rfl
def isNE (f : FE) : FE := fun E S => match f E S with
  | some (d, S1) => some (.bl (isNonD d), S1)
  | none => none
def notNE (f : FE) : FE := fun E S => match f E S with
  | some (d, S1) => some (.bl (!isNonD d), S1)
  | none => none
section
variable {ta tb tc : TE} {fa fb fc : FE} {t u : TT} {f g : FT}
theorem re_isN (h : RE ta fa) : RE (tIsN ta) (isNE fa) := fun {B E S σ I H} r {d S'} e {Q} k => by
  unfold isNE at e
  cases q : fa E S with
  | none => rw [q] at e; cases e
  | some w => rw [q] at e; cases e; exact h r q fun v I' H' r' l hd => by rw [isNon_ok hd]; exact k _ I' H' r' l (.bl _)
theorem re_notN (h : RE ta fa) : RE (tNotN ta) (notNE fa) := fun {B E S σ I H} r {d S'} e {Q} k => by
  unfold notNE at e
  cases q : fa E S with
  | none => rw [q] at e; cases e
  | some w => rw [q] at e; cases e; exact h r q fun v I' H' r' l hd => by rw [isNon_ok hd]; exact k _ I' H' r' l (.bl _)

/-! ### tests, and, or, not, if-else -/
def bT (f : FE) : FT := fun E S => match f E S with
  | some (.bl b, S1) => some (b, S1)
  | _ => none
theorem rt_test (h : RE ta fa) : RT (tTest ta) (bT fa) := fun {B E S σ I H} r {b S'} e {Q} k => by
  unfold bT at e
  split at e
  · rename_i b' S1 q
    cases e
    exact h r q fun v I' H' r' l hd => ⟨_, den_bl hd, k I' H' r' l⟩
  · cases e
theorem rt_B (h : RE ta fa) : RT (tB ta) (bT fa) := rt_test h
def andT (f g : FT) : FT := fun E S => match f E S with
  | some (true, S1) => g E S1
  | r => r
def orT (f g : FT) : FT := fun E S => match f E S with
  | some (false, S1) => g E S1
  | r => r
def notT (f : FT) : FT := fun E S => match f E S with
  | some (b, S1) => some (!b, S1)
  | none => none
theorem rt_and (h1 : RT t f) (h2 : RT u g) : RT (tAnd t u) (andT f g) := fun {B E S σ I H} r {b S'} e {Q} k => by
  unfold andT at e
  cases q : f E S with
  | none => rw [q] at e; cases e
  | some w =>
    obtain ⟨b1, S1⟩ := w
    rw [q] at e
    refine h1 r q fun I' H' r' l => ?_
    cases b1 with
    | true => exact h2 r' e fun I2 H2 r2 l2 => k I2 H2 r2 (l.trans l2)
    | false => cases e; exact k I' H' r' l
theorem rt_or (h1 : RT t f) (h2 : RT u g) : RT (tOr t u) (orT f g) := fun {B E S σ I H} r {b S'} e {Q} k => by
  unfold orT at e
  cases q : f E S with
  | none => rw [q] at e; cases e
  | some w =>
    obtain ⟨b1, S1⟩ := w
    rw [q] at e
    refine h1 r q fun I' H' r' l => ?_
    cases b1 with
    | false => exact h2 r' e fun I2 H2 r2 l2 => k I2 H2 r2 (l.trans l2)
    | true => cases e; exact k I' H' r' l
theorem rt_not (h1 : RT t f) : RT (tNot t) (notT f) := fun {B E S σ I H} r {b S'} e {Q} k => by
  unfold notT at e
  cases q : f E S with
  | none => rw [q] at e; cases e
  | some w => rw [q] at e; cases e; exact h1 r q fun I' H' r' l => k I' H' r' l
def andE (f g : FE) : FE := fun E S => match f E S with
  | some (.bl true, S1) => g E S1
  | some (.bl false, S1) => some (.bl false, S1)
  | _ => none
def orE (f g : FE) : FE := fun E S => match f E S with
  | some (.bl false, S1) => g E S1
  | some (.bl true, S1) => some (.bl true, S1)
  | _ => none
def notE (f : FE) : FE := fun E S => match f E S with
  | some (.bl b, S1) => some (.bl (!b), S1)
  | _ => none
theorem re_and (h1 : RE ta fa) (h2 : RE tb fb) : RE (tAndV ta tb) (andE fa fb) := fun {B E S σ I H} r {d S'} e {Q} k => by
  unfold andE at e
  split at e
  · rename_i S1 q
    exact h1 r q fun v I' H' r' l hd => ⟨true, den_bl hd, h2 r' e fun v2 I2 H2 r2 l2 hd2 => k v2 I2 H2 r2 (l.trans l2) hd2⟩
  · rename_i S1 q
    cases e
    exact h1 r q fun v I' H' r' l hd => ⟨false, den_bl hd, k _ I' H' r' l (.bl _)⟩
  · cases e
theorem re_or (h1 : RE ta fa) (h2 : RE tb fb) : RE (tOrV ta tb) (orE fa fb) := fun {B E S σ I H} r {d S'} e {Q} k => by
  unfold orE at e
  split at e
  · rename_i S1 q
    exact h1 r q fun v I' H' r' l hd => ⟨false, den_bl hd, h2 r' e fun v2 I2 H2 r2 l2 hd2 => k v2 I2 H2 r2 (l.trans l2) hd2⟩
  · rename_i S1 q
    cases e
    exact h1 r q fun v I' H' r' l hd => ⟨true, den_bl hd, k _ I' H' r' l (.bl _)⟩
  · cases e
theorem re_not (h1 : RE ta fa) : RE (tNotV ta) (notE fa) := fun {B E S σ I H} r {d S'} e {Q} k => by
  unfold notE at e
  split at e
  · rename_i b S1 q
    cases e
    exact h1 r q fun v I' H' r' l hd => ⟨b, den_bl hd, k _ I' H' r' l (.bl _)⟩
  · cases e
def ifE (c : FT) (f g : FE) : FE := fun E S => match c E S with
  | some (b, S1) => if b then f E S1 else g E S1
  | none => none
theorem re_if (hc : RT t f) (h1 : RE ta fa) (h2 : RE tb fb) : RE (tIf t ta tb) (ifE f fa fb) := fun {B E S σ I H} r {d S'} e {Q} k => by
  unfold ifE at e
  cases q : f E S with
  | none => rw [q] at e; cases e
  | some w =>
    obtain ⟨b, S1⟩ := w
    rw [q] at e
    refine hc r q fun I' H' r' l => ?_
    cases b with
    | true => exact h1 r' e fun v I2 H2 r2 l2 hd => k v I2 H2 r2 (l.trans l2) hd
    | false => exact h2 r' e fun v I2 H2 r2 l2 hd => k v I2 H2 r2 (l.trans l2) hd
/-- a < b < c -/
def chE (g1 g2 : Op2) (fa fb fc : FE) : FE := fun E S => match fa E S with
  | some (x, S1) => match fb E S1 with
    | some (y, S2) => match g1 x y with
      | some (.bl true) => match fc E S2 with
        | some (z, S3) => match g2 y z with
          | some w => some (w, S3)
          | none => none
        | none => none
      | some (.bl false) => some (.bl false, S2)
      | _ => none
    | none => none
  | none => none
theorem re_chain {r1 r2 : R2} {g1 g2 : Op2} (hr1 : RB r1 g1) (hr2 : RB r2 g2) (ha : RE ta fa) (hb : RE tb fb) (hc : RE tc fc) : RE (tChain r1 r2 ta tb tc) (chE g1 g2 fa fb fc) := fun {B E S σ I H} rr {d S'} e {Q} k => by
  unfold chE at e
  split at e
  · rename_i x S1 q1
    split at e
    · rename_i y S2 q2
      refine ha rr q1 fun v1 I1 H1 rr1 l1 h1 => hb rr1 q2 fun v2 I2 H2 rr2 l2 h2 => ?_
      split at e
      · rename_i q3
        split at e
        · rename_i z S3 q4
          split at e
          · rename_i w q5
            cases e
            exact hr1 rr2 (h1.mono l2) h2 q3 fun v I3 H3 r3 l3 hd => ⟨true, den_bl hd, hc r3 q4 fun v4 I4 H4 r4 l4 h4 => hr2 r4 (h2.mono (l3.trans l4)) h4 q5 fun v5 I5 H5 r5 l5 h5 => k v5 I5 H5 r5 (l1.trans (l2.trans (l3.trans (l4.trans l5)))) h5⟩
          · cases e
        · cases e
      · rename_i q3
        cases e
        exact hr1 rr2 (h1.mono l2) h2 q3 fun v I3 H3 r3 l3 hd => ⟨false, den_bl hd, k _ I3 H3 r3 (l1.trans (l2.trans l3)) (.bl _)⟩
      · cases e
    · cases e
  · cases e
end

/-! ### arguments, displays -/
def nilA : FA := fun _ S => some ([], S)
def consA (f : FE) (g : FA) : FA := fun E S => match f E S with
  | some (d, S1) => match g E S1 with
    | some (ds, S2) => some (d :: ds, S2)
    | none => none
  | none => none
theorem ra_nil : RA tNil nilA := fun {B E S σ I H} r {d S'} e {Q} k => by
  cases e
  exact k [] I H r le_rfl .nil
theorem ra_cons {te : TE} {f : FE} {ta : TA} {g : FA} (h1 : RE te f) (h2 : RA ta g) : RA (tCons te ta) (consA f g) := fun {B E S σ I H} r {d S'} e {Q} k => by
  unfold consA at e
  split at e
  · rename_i x S1 q1
    split at e
    · rename_i xs S2 q2
      cases e
      exact h1 r q1 fun v I1 H1 r1 l1 hd1 => h2 r1 q2 fun vs I2 H2 r2 l2 hd2 => k (v :: vs) I2 H2 r2 (l1.trans l2) (.cons (hd1.mono l2) hd2)
    · cases e
  · cases e
def tupE (g : FA) : FE := fun E S => match g E S with
  | some (ds, S1) => if ds.length ≤ 100000 then some (.tup ds, S1) else none
  | none => none
def lstE (g : FA) : FE := fun E S => match g E S with
  | some (ds, S1) => if ds.length ≤ 100000 then some (.lst ds, S1) else none
  | none => none
theorem rf_tup {ta : TA} {g : FA} (h : RA ta g) : RF (tTup ta) (tupE g) := fun {B E S σ I H} r {d S'} e {Q} k => by
  unfold tupE at e
  split at e
  · rename_i ds S1 q
    split at e <;> cases e
    rename_i hl
    exact h r q fun vs I' H' r' l hd => ⟨by rw [Paired.length hd]; exact Nat.le_trans hl (by decide), fun p hp => k _ I' _ (r'.alloc hp) l (r'.fresh hp (.tup hd))⟩
  · cases e
theorem rf_lst {ta : TA} {g : FA} (h : RA ta g) : RF (tLst ta) (lstE g) := fun {B E S σ I H} r {d S'} e {Q} k => by
  unfold lstE at e
  split at e
  · rename_i ds S1 q
    split at e <;> cases e
    rename_i hl
    exact h r q fun vs I' H' r' l hd => ⟨by rw [Paired.length hd]; exact Nat.le_trans hl (by decide), fun p hp => k _ I' _ (r'.alloc hp) l (r'.fresh hp (.lst hd))⟩
  · cases e
theorem rf_dK : RF tDNewK (cE (.dic [])) := fun {B E S σ I H} r {d S'} e {Q} k => by
  cases e
  exact fun p hp => k _ I _ (r.alloc hp) le_rfl (r.fresh hp (.dK .nil))
theorem rf_dT : RF tDNewT (cE (.dtk [])) := fun {B E S σ I H} r {d S'} e {Q} k => by
  cases e
  exact fun p hp => k _ I _ (r.alloc hp) le_rfl (r.fresh hp (.dT .nil))

/-! ### built-in functions by values -/
abbrev OpN := List D → Option D
def callE (g : OpN) (f : FA) : FE := fun E S => match f E S with
  | some (ds, S1) => match g ds with
    | some d => some (d, S1)
    | none => none
  | none => none
def RC (r : List V → Hp → VK → Prop) (g : OpN) : Prop := ∀ {B : Bs} {E : Ev} {S : Sm} {σ : St} {I H : Hp}, R B E S σ I H → ∀ {vs : List V} {ds : List D} {d : D}, DenL B.c I vs ds → g ds = some d → ∀ {Q : VK}, (∀ v I' H', R B E S σ I' H' → Le I I' → Den B.c I' v d → Q v H') → r vs H Q
def RCF (r : List V → Hp → VK → Prop) (g : OpN) : Prop := ∀ {B : Bs} {E : Ev} {S : Sm} {σ : St} {I H : Hp}, R B E S σ I H → ∀ {vs : List V} {ds : List D} {d : D}, DenL B.c I vs ds → g ds = some d → ∀ {Q : VK}, (∀ v I' H', R B E S σ I' H' → Le I I' → Fresh B E σ I' H' v d → Q v H') → r vs H Q
theorem RCF.c {r : List V → Hp → VK → Prop} {g : OpN} (h : RCF r g) : RC r g := fun {B E S σ I H} rr {vs ds d} hv e {Q} k => h rr hv e fun v I' H' r' l fr => by
  obtain ⟨I2, r2, l2, hd⟩ := r'.freeze fr
  exact k v I2 H' r2 (l.trans l2) hd
theorem re_call {r : List V → Hp → VK → Prop} {g : OpN} {ta : TA} {f : FA} (hr : RC r g) (ha : RA ta f) : RE (tCB r ta) (callE g f) := fun {B E S σ I H} rr {d S'} e {Q} k => by
  unfold callE at e
  split at e
  · rename_i ds S1 q
    split at e <;> cases e
    rename_i q2
    exact ha rr q fun vs I1 H1 r1 l1 hd => hr r1 hd q2 fun v I2 H2 r2 l2 h2 => k v I2 H2 r2 (l1.trans l2) h2
  · cases e
theorem rf_call {r : List V → Hp → VK → Prop} {g : OpN} {ta : TA} {f : FA} (hr : RCF r g) (ha : RA ta f) : RF (tCB r ta) (callE g f) := fun {B E S σ I H} rr {d S'} e {Q} k => by
  unfold callE at e
  split at e
  · rename_i ds S1 q
    split at e <;> cases e
    rename_i q2
    exact ha rr q fun vs I1 H1 r1 l1 hd => hr r1 hd q2 fun v I2 H2 r2 l2 h2 => k v I2 H2 r2 (l1.trans l2) h2
  · cases e
def orN (g1 g2 : OpN) : OpN := fun x => match g1 x with
  | some z => some z
  | none => g2 x
theorem rc_or {r r' : List V → Hp → VK → Prop} {g g' : OpN} (h : RC r g) (h' : RC r' g') : RC (fun xs H Q => r xs H Q ∨ r' xs H Q) (orN g g') := fun {B E S σ I H} rr {vs ds d} hv e {Q} k => by
  unfold orN at e
  split at e
  · rename_i z q
    cases e
    exact .inl (h rr hv q k)
  · exact .inr (h' rr hv e k)
theorem rcf_or {r r' : List V → Hp → VK → Prop} {g g' : OpN} (h : RCF r g) (h' : RCF r' g') : RCF (fun xs H Q => r xs H Q ∨ r' xs H Q) (orN g g') := fun {B E S σ I H} rr {vs ds d} hv e {Q} k => by
  unfold orN at e
  split at e
  · rename_i z q
    cases e
    exact .inl (h rr hv q k)
  · exact .inr (h' rr hv e k)

/-! ### lists that stand in the frozen part -/
theorem Stt.exL {B : Bs} {I H : Hp} {S : Sm} (s : Stt B I H S) {a : Addr} {vs : List V} (h : Rd I a (.lst vs)) : H a = some (.lst vs) := by
  rcases h with h | ⟨o, h⟩
  · exact s.sub _ _ h
  · rcases (s.nofr _ _ _ h).1 with ⟨_, z⟩ | ⟨_, z⟩ <;> cases z
theorem Stt.exT {B : Bs} {I H : Hp} {S : Sm} (s : Stt B I H S) {a : Addr} {vs : List V} (h : Rd I a (.tup vs)) : H a = some (.tup vs) := by
  rcases h with h | ⟨o, h⟩
  · exact s.sub _ _ h
  · rcases (s.nofr _ _ _ h).1 with ⟨_, z⟩ | ⟨_, z⟩ <;> cases z
theorem Stt.exI {B : Bs} {I H : Hp} {S : Sm} (s : Stt B I H S) {a C dx : Addr} {vs : List (Str × V)} (h : Rd I a (.ins C dx vs)) : H a = some (.ins C dx vs) := by
  rcases h with h | ⟨o, h⟩
  · exact s.sub _ _ h
  · rcases (s.nofr _ _ _ h).1 with ⟨_, z⟩ | ⟨_, z⟩ <;> cases z
theorem one1 {c : Option Addr} {I : Hp} {vs : List V} {d : D} (h : DenL c I vs [d]) : ∃ v, vs = [v] ∧ Den c I v d := by
  cases h with
  | cons h t => cases t; exact ⟨_, rfl, h⟩
theorem two2 {c : Option Addr} {I : Hp} {vs : List V} {d e : D} (h : DenL c I vs [d, e]) : ∃ v w, vs = [v, w] ∧ Den c I v d ∧ Den c I w e := by
  cases h with
  | cons h t =>
    obtain ⟨w, rfl, h2⟩ := one1 t
    exact ⟨_, w, rfl, h, h2⟩
/-- len, of dicts, too -/
def rLenA (K : PySem.W.Frag) : List V → Hp → VK → Prop := fun xs H Q => ∃ x n, xs = [x] ∧ (LenV K x H n ∨ ∃ p kvs, x = .ref p ∧ Rd H p (.dK kvs) ∧ n = kvs.length) ∧ Q (.int n) H
theorem call_lenA {X : Cx} : CallR X (.builtin "len") (rLenA X.K) := by
  intro pins s σ H xs us Q I r h
  obtain ⟨x, n, rfl, e, q⟩ := h
  rcases e with e | ⟨p, kvs, rfl, hp, rfl⟩
  · exact call_len pins s σ H [x] us Q I r ⟨x, n, rfl, e, q⟩
  · obtain ⟨u, rfl, rx⟩ := vals1 r
    obtain rfl : u = .ref p := rx
    obtain ⟨z, hd, vs, rel, dd⟩ := dk_rd I.hok hp
    have hl : kvs.length = vs.length := Paired.length rel
    refine PySem.call_len_dict hd dd (by rw [← hl]; rw [sizeLine_eq] at z; omega) ?_
    rw [← hl]
    exact ⟨.int ((kvs.length : Nat) : Int), H, I.tok _, ⟨_, rfl⟩, q⟩
def lenN : OpN
  | [.str x] => if x.length ≤ 10000000 then some (.int x.length) else none
  | [.lst xs] => some (.int xs.length)
  | [.tup xs] => some (.int xs.length)
  | [.dic xs] => some (.int xs.length)
  | _ => none
theorem rc_len {K : PySem.W.Frag} : RC (rLenA K) lenN := fun {B E S σ I H} rr {vs ds d} hv e {Q} k => by
  unfold lenN at e
  split at e
  · split at e <;> cases e
    rename_i x hl
    obtain ⟨v, rfl, h⟩ := one1 hv
    cases den_str h
    exact ⟨_, x.length, rfl, .inl ⟨Nat.le_trans hl (by decide), rfl⟩, k _ I H rr le_rfl (.int _)⟩
  · cases e
    rename_i xs
    obtain ⟨v, rfl, h⟩ := one1 hv
    obtain ⟨a, ws, rfl, hr, hl⟩ := h.toL
    exact ⟨_, xs.length, rfl, .inl (.inl ⟨ws, SqL.of (rr.st.exL hr), (Paired.length hl).symm⟩), k _ I H rr le_rfl (.int _)⟩
  · cases e
    rename_i xs
    obtain ⟨v, rfl, h⟩ := one1 hv
    obtain ⟨a, ws, rfl, hr, hl⟩ := h.toT
    exact ⟨_, xs.length, rfl, .inl (.inr ⟨ws, SqT.of (rr.st.exT hr), (Paired.length hl).symm⟩), k _ I H rr le_rfl (.int _)⟩
  · cases e
    rename_i xs
    obtain ⟨v, rfl, h⟩ := one1 hv
    obtain ⟨a, ws, rfl, hr, hl⟩ := h.toD
    exact ⟨_, xs.length, rfl, .inr ⟨a, ws, rfl, rr.st.sub.rd hr, (Paired.length hl).symm⟩, k _ I H rr le_rfl (.int _)⟩
  · cases e
/-- lists of ints, bools, texts -/
def ints? : List D → Option (List Int)
  | [] => some []
  | .int i :: r => (ints? r).map (i :: ·)
  | _ => none
def bools? : List D → Option (List Bool)
  | [] => some []
  | .bl i :: r => (bools? r).map (i :: ·)
  | _ => none
def strs? : List D → Option (List Str)
  | [] => some []
  | .str i :: r => (strs? r).map (i :: ·)
  | _ => none
theorem ints_ok {c : Option Addr} {I : Hp} : ∀ {vs : List V} {ds : List D} {ns : List Int}, DenL c I vs ds → ints? ds = some ns → vs = ns.map V.int
  | _, _, _, .nil, e => by cases e; rfl
  | _, _, _, @Paired.cons _ _ _ v d vs ds h t, e => by
    unfold ints? at e
    split at e
    · rename_i z; cases z
    · rename_i i r z
      cases z
      cases q : ints? ds with
      | none => rw [q] at e; cases e
      | some ms =>
        rw [q] at e
        cases e
        cases den_int h
        rw [ints_ok t q]
        rfl
    · cases e
theorem bools_ok {c : Option Addr} {I : Hp} : ∀ {vs : List V} {ds : List D} {ns : List Bool}, DenL c I vs ds → bools? ds = some ns → vs = ns.map V.bl
  | _, _, _, .nil, e => by cases e; rfl
  | _, _, _, @Paired.cons _ _ _ v d vs ds h t, e => by
    unfold bools? at e
    split at e
    · rename_i z; cases z
    · rename_i i r z
      cases z
      cases q : bools? ds with
      | none => rw [q] at e; cases e
      | some ms =>
        rw [q] at e
        cases e
        cases den_bl h
        rw [bools_ok t q]
        rfl
    · cases e
theorem strs_ok {c : Option Addr} {I : Hp} : ∀ {vs : List V} {ds : List D} {ns : List Str}, DenL c I vs ds → strs? ds = some ns → vs = ns.map V.str
  | _, _, _, .nil, e => by cases e; rfl
  | _, _, _, @Paired.cons _ _ _ v d vs ds h t, e => by
    unfold strs? at e
    split at e
    · rename_i z; cases z
    · rename_i i r z
      cases z
      cases q : strs? ds with
      | none => rw [q] at e; cases e
      | some ms =>
        rw [q] at e
        cases e
        cases den_str h
        rw [strs_ok t q]
        rfl
    · cases e
def allN : OpN
  | [.lst xs] => (bools? xs).map fun bs => .bl (bs.all id)
  | _ => none
def anyN : OpN
  | [.lst xs] => (bools? xs).map fun bs => .bl (bs.any id)
  | _ => none
def sumN : OpN
  | [.lst xs] => (ints? xs).map fun bs => .int bs.sum
  | _ => none
theorem rc_all {K : PySem.W.Frag} : RC (rAll K) allN := fun {B E S σ I H} rr {vs ds d} hv e {Q} k => by
  unfold allN at e
  split at e
  · rename_i xs
    obtain ⟨v, rfl, h⟩ := one1 hv
    obtain ⟨a, ws, rfl, hr, hl⟩ := h.toL
    cases q : bools? xs with
    | none => rw [q] at e; cases e
    | some bs =>
      rw [q] at e
      cases e
      exact ⟨a, bs, rfl, by rw [← bools_ok hl q]; exact SqL.of (rr.st.exL hr), k _ I H rr le_rfl (.bl _)⟩
  · cases e
theorem rc_any {K : PySem.W.Frag} : RC (rAny K) anyN := fun {B E S σ I H} rr {vs ds d} hv e {Q} k => by
  unfold anyN at e
  split at e
  · rename_i xs
    obtain ⟨v, rfl, h⟩ := one1 hv
    obtain ⟨a, ws, rfl, hr, hl⟩ := h.toL
    cases q : bools? xs with
    | none => rw [q] at e; cases e
    | some bs =>
      rw [q] at e
      cases e
      exact ⟨a, bs, rfl, by rw [← bools_ok hl q]; exact SqL.of (rr.st.exL hr), k _ I H rr le_rfl (.bl _)⟩
  · cases e
theorem rc_sum {K : PySem.W.Frag} : RC (rSum K) sumN := fun {B E S σ I H} rr {vs ds d} hv e {Q} k => by
  unfold sumN at e
  split at e
  · rename_i xs
    obtain ⟨v, rfl, h⟩ := one1 hv
    obtain ⟨a, ws, rfl, hr, hl⟩ := h.toL
    cases q : ints? xs with
    | none => rw [q] at e; cases e
    | some bs =>
      rw [q] at e
      cases e
      exact ⟨a, bs, rfl, by rw [← ints_ok hl q]; exact SqL.of (rr.st.exL hr), k _ I H rr le_rfl (.int _)⟩
  · cases e
end M

set_option Elab.async false
set_option linter.all false
set_option maxRecDepth 100000
set_option maxHeartbeats 4000000
namespace M
open PySem L2 PySem.Spec PyProof.Rows

/-! ### items -/
theorem denL_get {c : Option Addr} {I : Hp} : ∀ {vs : List V} {ds : List D}, DenL c I vs ds → ∀ {j : Nat} {d : D}, ds[j]? = some d → ∃ v, vs[j]? = some v ∧ Den c I v d
  | _, _, .nil, j, d, h => by simp at h
  | _, _, .cons r _, 0, d, h => by simp at h; subst h; exact ⟨_, rfl, r⟩
  | _, _, .cons _ t, j + 1, d, h => by
    obtain ⟨v, h1, h2⟩ := denL_get t (j := j) (d := d) (by simpa using h)
    exact ⟨v, by simpa using h1, h2⟩
theorem denL_atI {c : Option Addr} {I : Hp} {vs : List V} {ds : List D} (h : DenL c I vs ds) {i : Int} {d : D} (e : atI ds i = some d) : ∃ v, atI vs i = some v ∧ Den c I v d := by
  unfold atI at e ⊢
  rw [Paired.length h]
  cases q : ixN ds.length i with
  | none => rw [q] at e; cases e
  | some j =>
    rw [q] at e
    exact denL_get h e
def ixD : Op2
  | .lst xs, .int i => atI xs i
  | .tup xs, .int i => atI xs i
  | .str z, .int i => if z.length ≤ 10000000 then (atI z.cps.toList i).map fun c => .str ⟨#[c]⟩ else none
  | _, _ => none
theorem rb_ix {K : PySem.W.Frag} : RB (rIx K) ixD := fun {B E S σ I H} r {x y a b c} hx hy e {Q} k => by
  unfold ixD at e
  split at e
  · rename_i xs i
    obtain ⟨p, vs, rfl, hr, hl⟩ := hx.toL
    obtain ⟨v, h1, h2⟩ := denL_atI hl e
    exact .inl ⟨p, vs, i, v, rfl, den_int hy, SqL.of (r.st.exL hr), h1, k v I H r le_rfl h2⟩
  · rename_i xs i
    obtain ⟨p, vs, rfl, hr, hl⟩ := hx.toT
    obtain ⟨v, h1, h2⟩ := denL_atI hl e
    exact .inr (.inl ⟨p, vs, i, v, rfl, den_int hy, SqT.of (r.st.exT hr), h1, k v I H r le_rfl h2⟩)
  · rename_i z i
    split at e
    · rename_i hz
      cases q : atI z.cps.toList i with
      | none => rw [q] at e; cases e
      | some ch =>
        rw [q] at e
        cases e
        exact .inr (.inr ⟨z, i, ch, den_str hx, den_int hy, Nat.le_trans hz (by decide), q, k _ I H r le_rfl (.str _)⟩)
    · cases e
  · cases e
/-! ### dicts -/
def keyD : D → Option Key
  | .int i => some (.inl i)
  | .str x => some (.inr x)
  | _ => none
def keysD : List D → Option (List Key)
  | [] => some []
  | d :: r => match keyD d with
    | some k => (keysD r).map (k :: ·)
    | none => none
def valD {κ : Type} [DecidableEq κ] (kds : List (κ × D)) (k : κ) : Option D := (kds.find? fun kv => decide (kv.1 = k)).map (·.2)
theorem key_ok {c : Option Addr} {I : Hp} {v : V} {d : D} {k : Key} (h : Den c I v d) (e : keyD d = some k) : v = kV k := by
  unfold keyD at e
  split at e <;> cases e
  · exact den_int h
  · exact den_str h
theorem keys_ok {c : Option Addr} {I : Hp} : ∀ {vs : List V} {ds : List D} {ks : List Key}, DenL c I vs ds → keysD ds = some ks → vs = ks.map kV
  | _, _, _, .nil, e => by cases e; rfl
  | _, _, _, @Paired.cons _ _ _ v d vs ds h t, e => by
    unfold keysD at e
    cases q : keyD d with
    | none => rw [q] at e; cases e
    | some k =>
      rw [q] at e
      cases q2 : keysD ds with
      | none => rw [q2] at e; cases e
      | some ms =>
        rw [q2] at e
        cases e
        rw [key_ok h q, keys_ok t q2]
        rfl
theorem denP_val {κ : Type} [DecidableEq κ] {c : Option Addr} {I : Hp} {k : κ} : ∀ {kvs : List (κ × V)} {kds : List (κ × D)}, DenP c I kvs kds → (∀ d, valD kds k = some d → ∃ v, valV kvs k = some v ∧ Den c I v d) ∧ (valD kds k = none → valV kvs k = none)
  | _, _, .nil => ⟨fun d h => (by cases h), fun _ => rfl⟩
  | _, _, @Paired.cons _ _ _ p q ps qs h t => by
    obtain ⟨ih1, ih2⟩ := denP_val (k := k) t
    by_cases e : p.1 = k
    · have e' : q.1 = k := h.1.symm.trans e
      have a1 : valV (p :: ps) k = some p.2 := by unfold valV; simp [List.find?_cons, e]
      have a2 : valD (q :: qs) k = some q.2 := by unfold valD; simp [List.find?_cons, e']
      exact ⟨fun d z => by rw [a2] at z; cases z; exact ⟨_, a1, h.2⟩, fun z => by rw [a2] at z; cases z⟩
    · have e' : ¬ q.1 = k := fun z => e (h.1.trans z)
      have a1 : valV (p :: ps) k = valV ps k := by unfold valV; simp [List.find?_cons, e]
      have a2 : valD (q :: qs) k = valD qs k := by unfold valD; simp [List.find?_cons, e']
      rw [a1, a2]
      exact ⟨ih1, ih2⟩
theorem denP_some {κ : Type} [DecidableEq κ] {c : Option Addr} {I : Hp} {k : κ} {kvs : List (κ × V)} {kds : List (κ × D)} (h : DenP c I kvs kds) : (valV kvs k).isSome = (valD kds k).isSome := by
  obtain ⟨h1, h2⟩ := denP_val (k := k) h
  cases q : valD kds k with
  | none => rw [h2 q]; rfl
  | some d => obtain ⟨v, e, _⟩ := h1 d q; rw [e]; rfl
/-- what a dict holds at a key; none: no dict, or no key -/
def lookD : D → D → Option (Option D)
  | .dic kds, y => match keyD y with
    | some k => some (valD kds k)
    | none => none
  | .dtk kds, .tup ds => match keysD ds with
    | some k => some (valD kds k)
    | none => none
  | _, _ => none
theorem look_ok {B : Bs} {I H : Hp} {S : Sm} (s : Stt B I H S) {x y : V} {a b : D} {o : Option D} (hx : Den B.c I x a) (hy : Den B.c I y b) (e : lookD a b = some o) :
    ∃ p ov, x = .ref p ∧ DGet H p y ov ∧ ov.isSome = o.isSome ∧ ∀ d, o = some d → ∃ v, ov = some v ∧ Den B.c I v d := by
  unfold lookD at e
  split at e
  · rename_i kds _
    split at e
    · rename_i k q
      cases e
      obtain ⟨p, kvs, rfl, hr, hl⟩ := hx.toD
      exact ⟨p, valV kvs k, rfl, .inl ⟨kvs, k, s.sub.rd hr, key_ok hy q, rfl⟩, denP_some hl, fun d hd => (denP_val hl).1 d hd⟩
    · cases e
  · rename_i kds ds
    split at e
    · rename_i k q
      cases e
      obtain ⟨p, kvs, rfl, hr, hl⟩ := hx.toK
      obtain ⟨b, vs, rfl, hb, hbl⟩ := hy.toT
      exact ⟨p, valV kvs k, rfl, .inr ⟨kvs, k, b, s.sub.rd hr, rfl, by rw [← keys_ok hbl q]; exact s.exT hb, rfl⟩, denP_some hl, fun d hd => (denP_val hl).1 d hd⟩
    · cases e
  · cases e
def getD : Op2 := fun x y => match lookD x y with
  | some (some d) => some d
  | _ => none
def inDD : Op2 := fun y x => match lookD x y with
  | some o => some (.bl o.isSome)
  | none => none
section
variable {ta tb : TE} {fa fb : FE}
theorem re_dget (ha : RE ta fa) (hb : RE tb fb) : RE (tDGet ta tb) (opE getD fa fb) := fun {B E S σ I H} rr {d S'} e {Q} k => by
  unfold opE at e
  split at e
  · rename_i x S1 q1
    split at e
    · rename_i y S2 q2
      split at e
      · rename_i z q3
        cases e
        unfold getD at q3
        split at q3
        · rename_i d' q4
          cases q3
          exact ha rr q1 fun v1 I1 H1 r1 l1 h1 => hb r1 q2 fun v2 I2 H2 r2 l2 h2 => by
            obtain ⟨p, ov, rfl, g, _, hd⟩ := look_ok r2.st (h1.mono l2) h2 q4
            obtain ⟨v, rfl, hv⟩ := hd _ rfl
            exact ⟨p, v, rfl, g, k v I2 H2 r2 (l1.trans l2) hv⟩
        · cases q3
      · cases e
    · cases e
  · cases e
theorem re_din (ha : RE ta fa) (hb : RE tb fb) : RE (tDIn ta tb) (opE inDD fa fb) := fun {B E S σ I H} rr {d S'} e {Q} k => by
  unfold opE at e
  split at e
  · rename_i x S1 q1
    split at e
    · rename_i y S2 q2
      split at e
      · rename_i z q3
        cases e
        unfold inDD at q3
        split at q3
        · rename_i o q4
          cases q3
          exact ha rr q1 fun v1 I1 H1 r1 l1 h1 => hb r1 q2 fun v2 I2 H2 r2 l2 h2 => by
            obtain ⟨p, ov, rfl, g, ho, _⟩ := look_ok r2.st h2 (h1.mono l2) q4
            exact ⟨p, ov, rfl, g, by rw [ho]; exact k _ I2 H2 r2 (l1.trans l2) (.bl _)⟩
        · cases q3
      · cases e
    · cases e
  · cases e
theorem re_dnin (ha : RE ta fa) (hb : RE tb fb) : RE (tDNotIn ta tb) (opE (notO inDD) fa fb) := fun {B E S σ I H} rr {d S'} e {Q} k => by
  unfold opE at e
  split at e
  · rename_i x S1 q1
    split at e
    · rename_i y S2 q2
      split at e
      · rename_i z q3
        cases e
        unfold notO inDD at q3
        split at q3
        · rename_i b q4
          cases q3
          split at q4
          · rename_i o q5
            cases q4
            exact ha rr q1 fun v1 I1 H1 r1 l1 h1 => hb r1 q2 fun v2 I2 H2 r2 l2 h2 => by
              obtain ⟨p, ov, rfl, g, ho, _⟩ := look_ok r2.st h2 (h1.mono l2) q5
              exact ⟨p, ov, rfl, g, by rw [ho]; exact k _ I2 H2 r2 (l1.trans l2) (.bl _)⟩
          · cases q4
        · cases q3
      · cases e
    · cases e
  · cases e
theorem opE_some {g : Op2} {E : Ev} {S S' : Sm} {d : D} : opE g fa fb E S = some (d, S') ↔ ∃ x S1 y, fa E S = some (x, S1) ∧ fb E S1 = some (y, S') ∧ g x y = some d := by
  constructor
  · intro e
    unfold opE at e
    split at e
    · rename_i x S1 q1
      split at e
      · rename_i y S2 q2
        split at e
        · rename_i z q3
          cases e
          exact ⟨x, S1, y, q1, q2, q3⟩
        · cases e
      · cases e
    · cases e
  · rintro ⟨x, S1, y, q1, q2, q3⟩
    unfold opE
    rw [q1]
    show (match fb E S1 with | some (y, S2) => _ | none => _) = _
    rw [q2]
    show (match g x y with | some z => _ | none => _) = _
    rw [q3]
theorem opE_or {g g' : Op2} {E : Ev} {S S' : Sm} {d : D} (e : opE (orO g g') fa fb E S = some (d, S')) : opE g fa fb E S = some (d, S') ∨ opE g' fa fb E S = some (d, S') := by
  obtain ⟨x, S1, y, q1, q2, q3⟩ := opE_some.mp e
  unfold orO at q3
  split at q3
  · rename_i w q4
    cases q3
    exact .inl (opE_some.mpr ⟨x, S1, y, q1, q2, q4⟩)
  · exact .inr (opE_some.mpr ⟨x, S1, y, q1, q2, q3⟩)
theorem re_or2 {t u : TE} {f : FE} (h : ∀ {E : Ev} {S S' : Sm} {d : D}, f E S = some (d, S') → (∃ g, g E S = some (d, S') ∧ RE t g) ∨ ∃ g, g E S = some (d, S') ∧ RE u g) : RE (fun σ H Q => t σ H Q ∨ u σ H Q) f := fun {B E S σ I H} rr {d S'} e {Q} k => by
  rcases h e with ⟨g, hg, hr⟩ | ⟨g, hg, hr⟩
  · exact .inl (hr rr hg k)
  · exact .inr (hr rr hg k)
/-- x[y]: lists, tuples, texts, dicts -/
def subE (fa fb : FE) : FE := opE (orO ixD getD) fa fb
theorem re_sub {K : PySem.W.Frag} (ha : RE ta fa) (hb : RE tb fb) : RE (fun σ H Q => tOp (rIx K) ta tb σ H Q ∨ tDGet ta tb σ H Q) (subE fa fb) := re_or2 fun e => by
  rcases opE_or e with z | z
  · exact .inl ⟨_, z, re_op rb_ix ha hb⟩
  · exact .inr ⟨_, z, re_dget ha hb⟩
end
/-! ### in -/
def flatD : D → Bool
  | .non => true | .bl _ => true | .int _ => true | .str _ => true
  | _ => false
def eqFD : D → D → Bool
  | .non, .non => true
  | .bl a, .bl b => a == b
  | .bl a, .int b => (if a then 1 else 0) == b
  | .int a, .bl b => a == (if b then 1 else 0)
  | .int a, .int b => a == b
  | .str a, .str b => a == b
  | _, _ => false
def inSq : Op2
  | x, .lst ys => if flatD x && ys.all flatD then some (.bl (ys.any fun y => eqFD y x)) else none
  | x, .tup ys => if flatD x && ys.all flatD then some (.bl (ys.any fun y => eqFD y x)) else none
  | _, _ => none
theorem flat_ok {c : Option Addr} {I : Hp} {v : V} {d : D} (h : Den c I v d) (f : flatD d = true) : flatV v = true := by
  cases h <;> first | rfl | cases f
theorem flats_ok {c : Option Addr} {I : Hp} : ∀ {vs : List V} {ds : List D}, DenL c I vs ds → ds.all flatD = true → vs.all flatV = true
  | _, _, .nil, _ => rfl
  | _, _, .cons h t, f => by
    rw [List.all_cons, Bool.and_eq_true] at f ⊢
    exact ⟨flat_ok h f.1, flats_ok t f.2⟩
theorem eqF_ok {c : Option Addr} {I : Hp} {v w : V} {d e : D} (h : Den c I v d) (h2 : Den c I w e) (f : flatD d = true) (f2 : flatD e = true) : eqV v w = eqFD d e := by
  cases h <;> first | (cases f; done) | (cases h2 <;> first | rfl | (cases f2; done))
theorem ins_ok {c : Option Addr} {I : Hp} {x : V} {a : D} (hx : Den c I x a) (fa : flatD a = true) : ∀ {vs : List V} {ds : List D}, DenL c I vs ds → ds.all flatD = true → inV x vs = ds.any fun y => eqFD y a
  | _, _, .nil, _ => rfl
  | _, _, @Paired.cons _ _ _ v d vs ds h t, f => by
    rw [List.all_cons, Bool.and_eq_true] at f
    have ih := ins_ok hx fa t f.2
    unfold inV at ih ⊢
    rw [List.any_cons, List.any_cons, ih, eqF_ok h hx f.1 fa]
theorem rb_inSq {K : PySem.W.Frag} : RB (rIn K false) inSq := fun {B E S σ I H} r {x y a b c} hx hy e {Q} k => by
  unfold inSq at e
  split at e
  · rename_i ys
    split at e <;> cases e
    rename_i hf
    rw [Bool.and_eq_true] at hf
    obtain ⟨p, vs, rfl, hr, hl⟩ := hy.toL
    refine ⟨p, vs, rfl, .inl (SqL.of (r.st.exL hr)), flat_ok hx hf.1, flats_ok hl hf.2, ?_⟩
    rw [if_neg Bool.false_ne_true, ins_ok hx hf.1 hl hf.2]
    exact k _ I H r le_rfl (.bl _)
  · rename_i ys
    split at e <;> cases e
    rename_i hf
    rw [Bool.and_eq_true] at hf
    obtain ⟨p, vs, rfl, hr, hl⟩ := hy.toT
    refine ⟨p, vs, rfl, .inr (SqT.of (r.st.exT hr)), flat_ok hx hf.1, flats_ok hl hf.2, ?_⟩
    rw [if_neg Bool.false_ne_true, ins_ok hx hf.1 hl hf.2]
    exact k _ I H r le_rfl (.bl _)
  · cases e
theorem rb_ninSq {K : PySem.W.Frag} : RB (rIn K true) (notO inSq) := fun {B E S σ I H} r {x y a b c} hx hy e {Q} k => by
  unfold notO inSq at e
  split at e
  · rename_i b' q
    cases e
    split at q
    · rename_i ys
      split at q <;> cases q
      rename_i hf
      rw [Bool.and_eq_true] at hf
      obtain ⟨p, vs, rfl, hr, hl⟩ := hy.toL
      refine ⟨p, vs, rfl, .inl (SqL.of (r.st.exL hr)), flat_ok hx hf.1, flats_ok hl hf.2, ?_⟩
      rw [if_pos rfl, ins_ok hx hf.1 hl hf.2]
      exact k _ I H r le_rfl (.bl _)
    · rename_i ys
      split at q <;> cases q
      rename_i hf
      rw [Bool.and_eq_true] at hf
      obtain ⟨p, vs, rfl, hr, hl⟩ := hy.toT
      refine ⟨p, vs, rfl, .inr (SqT.of (r.st.exT hr)), flat_ok hx hf.1, flats_ok hl hf.2, ?_⟩
      rw [if_pos rfl, ins_ok hx hf.1 hl hf.2]
      exact k _ I H r le_rfl (.bl _)
    · cases q
  · cases e
def inStr : Op2
  | .str a, .str z => match a.cps.toList with
    | [ch] => some (.bl (decide (ch ∈ z.cps.toList)))
    | _ => none
  | _, _ => none
theorem rb_inStr : RB (fun x y H Q => ∃ (c : Nat) (z : Str), x = .str ⟨#[c]⟩ ∧ y = .str z ∧ Q (.bl (decide (c ∈ z.cps.toList))) H) inStr := fun {B E S σ I H} r {x y a b c} hx hy e {Q} k => by
  unfold inStr at e
  split at e
  · rename_i a z
    split at e
    · rename_i ch q
      cases e
      have ea : a = ⟨#[ch]⟩ := by
        obtain ⟨cps⟩ := a
        have q : cps.toList = [ch] := q
        have : cps = #[ch] := by
          apply Array.toList_inj.mp
          rw [q]
        rw [this]
      subst ea
      exact ⟨ch, z, den_str hx, den_str hy, k _ I H r le_rfl (.bl _)⟩
    · cases e
  · cases e
/-- x in y: lists, tuples of single things; a sign in a text; a key in a dict -/
def inE (fa fb : FE) : FE := opE (orO (orO inSq inStr) inDD) fa fb
theorem re_in {K : PySem.W.Frag} {ta tb : TE} {fa fb : FE} (ha : RE ta fa) (hb : RE tb fb) : RE (fun σ H Q => tOp (fun x y H Q => rIn K false x y H Q ∨ (∃ (c : Nat) (z : Str), x = .str ⟨#[c]⟩ ∧ y = .str z ∧ Q (.bl (decide (c ∈ z.cps.toList))) H)) ta tb σ H Q ∨ tDIn ta tb σ H Q) (inE fa fb) := re_or2 fun e => by
  rcases opE_or e with z | z
  · exact .inl ⟨_, z, re_op (rb_or rb_inSq rb_inStr) ha hb⟩
  · exact .inr ⟨_, z, re_din ha hb⟩
/-! ### fields of instances -/
def fldE (C : Addr) (f : Str) (fa : FE) : FE := fun E S => match fa E S with
  | some (.ins C' fs, S1) => if C' = C then match fs.lookup f with
      | some d => some (d, S1)
      | none => none
    else none
  | _ => none
theorem denP_lookup {c : Option Addr} {I : Hp} {f : Str} : ∀ {kvs : List (Str × V)} {kds : List (Str × D)}, DenP c I kvs kds → ∀ {d : D}, kds.lookup f = some d → ∃ v, kvs.lookup f = some v ∧ Den c I v d
  | _, _, .nil, d, h => by cases h
  | _, _, @Paired.cons _ _ _ (a, v) (b, d0) ps qs h t, d, e => by
    have hab : a = b := h.1
    subst hab
    by_cases q : f = a
    · subst q
      rw [List.lookup_cons_self] at e
      cases e
      exact ⟨v, List.lookup_cons_self, h.2⟩
    · have q' : (f == a) = false := by simpa using q
      rw [List.lookup_cons, q'] at e
      obtain ⟨v', h1, h2⟩ := denP_lookup t e
      exact ⟨v', by rw [List.lookup_cons, q']; exact h1, h2⟩
theorem denP_lookupN {c : Option Addr} {I : Hp} {f : Str} : ∀ {kvs : List (Str × V)} {kds : List (Str × D)}, DenP c I kvs kds → kds.lookup f = none → kvs.lookup f = none
  | _, _, .nil, h => rfl
  | _, _, @Paired.cons _ _ _ (a, v) (b, d0) ps qs h t, e => by
    have hab : a = b := h.1
    subst hab
    by_cases q : f = a
    · subst q
      rw [List.lookup_cons_self] at e
      cases e
    · have q' : (f == a) = false := by simpa using q
      rw [List.lookup_cons, q'] at e ⊢
      exact denP_lookupN t e
theorem re_fld {K : PySem.W.Frag} {C : Addr} {f : Str} {ta : TE} {fa : FE} (cl : Cls K C) (na : NoAttr K C f) (h : RE ta fa) : RE (tFld K ta f) (fldE C f fa) := fun {B E S σ I H} rr {d S'} e {Q} k => by
  unfold fldE at e
  split at e
  · rename_i C' fs S1 q
    split at e
    · rename_i hC
      subst hC
      split at e
      · rename_i d' q2
        cases e
        exact h rr q fun v I1 H1 r1 l1 hd => by
          obtain ⟨a, dx, kvs, rfl, hr, hl⟩ := hd.toI
          obtain ⟨w, h1, h2⟩ := denP_lookup hl q2
          exact ⟨a, C', dx, kvs, w, rfl, r1.st.exI hr, cl, na, h1, k w I1 H1 r1 l1 h2⟩
      · cases e
    · cases e
  · cases e

/-! ### defs of one's own -/
abbrev FM := List D → Sm → Option (D × Sm)
/-- the promise that a mirror is kept -/
def spD (m : FM) (n : Nat) : Sp := fun vs H Q _ => ∃ (B : Bs) (ds : List D) (S : Sm) (d : D) (S' : Sm), B.H = H ∧ Stt B B.I H S ∧ DenL B.c B.I vs ds ∧ ds.length = n ∧ m ds S = some (d, S') ∧ ∀ v I' H', Stt B I' H' S' → Den B.c I' v d → Q v H'
def mE (m : FM) (n : Nat) (f : FA) : FE := fun E S => match f E S with
  | some (ds, S1) => if ds.length = n then m ds S1 else none
  | none => none
theorem spD_use {m : FM} {n : Nat} {B : Bs} {E : Ev} {S S' : Sm} {σ : L2.St} {I H : Hp} (r : R B E S σ I H) {vs : List V} {ds : List D} {d : D} (hv : DenL B.c I vs ds) (hn : ds.length = n) (e : m ds S = some (d, S')) {Q : VK} {X : XK} (k : ∀ v I' H', R B E S' σ I' H' → Le I I' → Den B.c I' v d → Q v H') : spD m n vs H Q X :=
  ⟨⟨B.c, B.l, I, H, fun _ => none⟩, ds, S, d, S', rfl, r.st.refl, hv, hn, e, fun v I' H' s hd => k v I' H' (r.call s) s.le hd⟩
theorem re_fn {m : FM} {n : Nat} {ta : TA} {f : FA} {X : XK} (ha : RA ta f) : RE (tCall (spD m n) [] X ta) (mE m n f) := fun {B E S σ I H} rr {d S'} e {Q} k => by
  unfold mE at e
  split at e
  · rename_i ds S1 q
    split at e
    · rename_i hn
      exact ha rr q fun vs I1 H1 r1 l1 hd => by
        rw [List.append_nil]
        exact spD_use r1 hd hn e fun v I2 H2 r2 l2 h2 => k v I2 H2 r2 (l1.trans l2) h2
    · cases e
  · cases e
/-- o.m(..) of an instance of C -/
def methE (C : Addr) (mn : Str) (m : FM) (n : Nat) (fo : FE) (f : FA) : FE := fun E S => match fo E S with
  | some (.ins C' fs, S1) => if C' = C ∧ fs.lookup mn = none then match f E S1 with
      | some (ds, S2) => if ds.length + 1 = n then m (.ins C' fs :: ds) S2 else none
      | none => none
    else none
  | _ => none
theorem re_meth {C : Addr} {mn : Str} {m : FM} {n : Nat} {to : TE} {fo : FE} {ta : TA} {f : FA} {X : XK} (ho : RE to fo) (ha : RA ta f) : RE (tMeth C mn (spD m n) [] X to ta) (methE C mn m n fo f) := fun {B E S σ I H} rr {d S'} e {Q} k => by
  unfold methE at e
  split at e
  · rename_i C' fs S1 q
    split at e
    · rename_i hC
      obtain ⟨rfl, hn⟩ := hC
      split at e
      · rename_i ds S2 q2
        split at e
        · rename_i hl
          exact ho rr q fun v I1 H1 r1 l1 hd => by
            obtain ⟨a, dx, kvs, rfl, hr, hp⟩ := hd.toI
            exact ⟨a, dx, kvs, rfl, r1.st.exI hr, denP_lookupN hp hn, ha r1 q2 fun vs I2 H2 r2 l2 hd2 => by
              rw [List.append_nil]
              exact spD_use r2 (.cons (hd.mono l2) hd2) (by simpa using hl) e fun v I3 H3 r3 l3 h3 => k v I3 H3 r3 (l1.trans (l2.trans l3)) h3⟩
        · cases e
      · cases e
    · cases e
  · cases e
/-- a body's mirror -/
def runS (n : Nat) (g : FS) : FM := fun ds S => match g (ds.map .v ++ List.replicate (n - ds.length) .no) S with
  | some (.rt d, _, S') => some (d, S')
  | some (.nx, _, S') => some (.non, S')
  | _ => none
theorem start_R {B : Bs} {S : Sm} {H : Hp} {vs : List V} {ds : List D} {N : List Str} (hH : B.H = H) (s : Stt B B.I H S) (h : DenL B.c B.I vs ds) : R B (ds.map .v ++ List.replicate (N.length - ds.length) .no) S (L2.start N vs) B.I H := by
  have hl := Paired.length h
  have no : ∀ (i : Nat) d, (ds.map Sl.v ++ List.replicate (N.length - ds.length) Sl.no)[i]? ≠ some (.o d) := fun i d e => by
    rw [List.getElem?_append] at e
    split at e
    · rw [List.getElem?_map] at e
      cases q : ds[i]? with
      | none => rw [q] at e; cases e
      | some x => rw [q] at e; cases e
    · rw [List.getElem?_replicate] at e
      split at e <;> cases e
  refine ⟨s, by unfold L2.start; simp [hl], fun i d e => ?_, fun i d e => (no i d e).elim, fun i j d e p _ h1 _ _ _ => no i d h1⟩
  rw [List.getElem?_append] at e
  split at e
  · rename_i hi
    rw [List.getElem?_map] at e
    cases q : ds[i]? with
    | none => rw [q] at e; cases e
    | some x =>
      rw [q] at e
      cases e
      obtain ⟨v, h1, h2⟩ := denL_get h q
      refine ⟨v, ?_, h2⟩
      unfold L2.start
      rw [List.getElem?_append_left (by have := (List.getElem?_eq_some_iff.mp h1).1; simpa using this), List.getElem?_map, h1]
      rfl
  · rw [List.getElem?_replicate] at e
    split at e <;> cases e
section
variable {P : Program} {w : World} {K : PySem.W.Frag} {mg : Str → Option Value} {base : Heap}
/-- THE RULE for a def -/
theorem fn_D {x qual : Str} {st : Stmt} {f : Addr} {fd : FuncData} {N ps : List Str} {k : Nat} {g : FS} (F : Fun K x qual st f fd) (S : FnScope N ps (defScope st))
    (hbody : ∀ (cdv : Value) (A : Around) (outer : List Env) (s : Shared) (H : Hp), Room k (A.deeper (envOfC qual (defScope st) s.heap.objs.size f cdv)) →
      ∃ t, PSs (cxOf CX0 P w K mg base N qual (defScope st) f cdv A outer s H E0).nox (defBody st) t ∧ RS t g) : FnOk P w K mg base CX0 (k + 1) f fd ps (spD (runS N.length g) ps.length) := by
  refine F.ok S (fun vs H Q E h => ?_) (fun cdv A outer s H vs Q E hr h => ?_)
  · obtain ⟨B, ds, S0, d, S', _, _, hd, hn, _⟩ := h
    rw [Paired.length hd, hn]
  · obtain ⟨B, ds, S0, d, S', hH, hs, hd, hn, e, kk⟩ := h
    obtain ⟨t, ht, hr⟩ := hbody cdv A outer s H hr
    refine ⟨t, ht, ?_⟩
    unfold runS at e
    have r0 := start_R (N := N) hH hs hd
    split at e
    · rename_i d' E' S1 q
      cases e
      exact hr r0 q fun v I' H' s' _ hd' => kk v I' H' s' hd'
    · rename_i E' S1 q
      cases e
      exact hr r0 q fun σ' I' H' r' l => kk .non I' H' r'.st .non
    · cases e
end
end M

set_option Elab.async false
set_option linter.all false
set_option maxRecDepth 100000
set_option maxHeartbeats 4000000
namespace M
open PySem L2

/-! ### targets -/
abbrev TgD := D → Ev → Option Ev
abbrev TgsD := List D → Ev → Option Ev
def RG (g : TG) (tg : TgD) (own : List Nat) : Prop := ∀ {B : Bs} {E : Ev} {S : Sm} {σ : St} {I H : Hp}, R B E S σ I H → ∀ {x : V} {d : D} {E1 : Ev}, Den B.c I x d → tg d E = some E1 → ∀ {Q : St → Hp → Prop},
  (∀ σ' I' H', R B E1 S σ' I' H' → Le I I' → σ'.length = σ.length → (∀ (i : Nat), i ∉ own → σ'[i]? = σ[i]? ∧ E1[i]? = E[i]?) → Q σ' H') → g x σ H Q
def RGs (g : TGs) (tg : TgsD) (own : List Nat) : Prop := ∀ {B : Bs} {E : Ev} {S : Sm} {σ : St} {I H : Hp}, R B E S σ I H → ∀ {xs : List V} {ds : List D} {E1 : Ev}, DenL B.c I xs ds → tg ds E = some E1 → ∀ {Q : St → Hp → Prop},
  (∀ σ' I' H', R B E1 S σ' I' H' → Le I I' → σ'.length = σ.length → (∀ (i : Nat), i ∉ own → σ'[i]? = σ[i]? ∧ E1[i]? = E[i]?) → Q σ' H') → g xs σ H Q
def tgN (i : Nat) : TgD := fun d E => if i < E.length then some (E.set i (.v d)) else none
def tgNil : TgsD := fun ds E => match ds with
  | [] => some E
  | _ => none
def tgCons (t : TgD) (u : TgsD) : TgsD := fun ds E => match ds with
  | d :: r => match t d E with
    | some E1 => u r E1
    | none => none
  | [] => none
def tgT (n : Nat) (t : TgsD) : TgD := fun d E => match d with
  | .tup ds => if ds.length = n then t ds E else none
  | _ => none
theorem rg_name {i : Nat} {own : List Nat} (h : i ∈ own) : RG (gName i) (tgN i) own := fun {B E S σ I H} r {x d E1} hd e {Q} k => by
  unfold tgN at e
  split at e <;> cases e
  rename_i hi
  refine k _ I H (r.setV hi hd) le_rfl (by rw [List.length_set]) fun j hj => ?_
  have : i ≠ j := fun z => hj (z ▸ h)
  exact ⟨List.getElem?_set_ne this, List.getElem?_set_ne this⟩
theorem rgs_nil {own : List Nat} : RGs gNil tgNil own := fun {B E S σ I H} r {xs ds E1} hd e {Q} k => by
  cases hd with
  | nil => cases e; exact ⟨rfl, k σ I H r le_rfl rfl fun _ _ => ⟨rfl, rfl⟩⟩
  | cons _ _ => cases e
theorem rgs_cons {g : TG} {u : TGs} {t : TgD} {v : TgsD} {own : List Nat} (h1 : RG g t own) (h2 : RGs u v own) : RGs (gCons g u) (tgCons t v) own := fun {B E S σ I H} r {xs ds E1} hd e {Q} k => by
  cases hd with
  | nil => cases e
  | cons hh ht =>
    rename_i x d xs ds
    unfold tgCons at e
    simp only at e
    split at e
    · rename_i E2 q
      exact ⟨x, xs, rfl, h1 r hh q fun σ' I' H' r' l hl hs => h2 r' (DenL.mono l ht) e fun σ2 I2 H2 r2 l2 hl2 hs2 => k σ2 I2 H2 r2 (l.trans l2) (hl2.trans hl) fun i hi => ⟨(hs2 i hi).1.trans (hs i hi).1, (hs2 i hi).2.trans (hs i hi).2⟩⟩
    · cases e
theorem rg_tup {K : PySem.W.Frag} {n : Nat} {u : TGs} {v : TgsD} {own : List Nat} (h : RGs u v own) : RG (gTup K n u) (tgT n v) own := fun {B E S σ I H} r {x d E1} hd e {Q} k => by
  unfold tgT at e
  split at e
  · rename_i ds
    split at e
    · rename_i hn
      obtain ⟨a, vs, rfl, hr, hl⟩ := hd.toT
      exact ⟨a, vs, rfl, SqT.of (r.st.exT hr), (Paired.length hl).trans hn, h r hl e k⟩
    · cases e
  · cases e
/-- an assignment to any target -/
def asgS (f : FE) (tg : TgD) : FS := fun E S => match f E S with
  | some (d, S1) => match tg d E with
    | some E1 => some (.nx, E1, S1)
    | none => none
  | none => none
theorem rs_asg {te : TE} {f : FE} {g : TG} {tg : TgD} {own : List Nat} (h : RE te f) (hg : RG g tg own) : RS (tAsg te g) (asgS f tg) := fun {B E S σ I H} r {o E' S'} e {Dn} k => by
  unfold asgS at e
  split at e
  · rename_i d S1 q
    split at e
    · rename_i E1 q2
      cases e
      exact h r q fun v I' H' r' l hd => hg r' hd q2 fun σ2 I2 H2 r2 l2 _ _ => k σ2 I2 H2 r2 (l.trans l2)
    · cases e
  · cases e

/-! ### what a for walks -/
abbrev FI := Ev → Sm → Option (List D × Sm)
def ItD (c : Option Addr) (J : It) (I0 : Hp) (items : List D) : Prop := ∀ (B : Bs) (E : Ev) (S : Sm) (σ : St) (I H : Hp), B.c = c → R B E S σ I H → Le I0 I → ∀ (i : Nat), (i < items.length → J.go i H) ∧ (items.length ≤ i → J.stop i H) ∧
  ∀ x H' d, items[i]? = some d → J.yld i H x H' → ∃ I', R B E S σ I' H' ∧ Le I I' ∧ Den c I' x d
def RI (wi : TI) (fi : FI) : Prop := ∀ {B : Bs} {E : Ev} {S : Sm} {σ : St} {I H : Hp}, R B E S σ I H → ∀ {items : List D} {S' : Sm}, fi E S = some (items, S') → ∀ {Rq : It → Hp → Prop}, (∀ J I' H', R B E S' σ I' H' → Le I I' → ItD B.c J I' items → Rq J H') → wi σ H Rq
theorem exL {B : Bs} {E : Ev} {S : Sm} {σ : St} {I H : Hp} (r : R B E S σ I H) {a : Addr} {vs : List V} (h : Rd I a (.lst vs)) {K : PySem.W.Frag} : SqL K H a vs := SqL.of (r.st.exL h)
theorem exT {B : Bs} {E : Ev} {S : Sm} {σ : St} {I H : Hp} (r : R B E S σ I H) {a : Addr} {vs : List V} (h : Rd I a (.tup vs)) {K : PySem.W.Frag} : SqT K H a vs := SqT.of (r.st.exT h)
theorem it_list {K : PySem.W.Frag} {c : Option Addr} {I0 : Hp} {a : Addr} {vs : List V} {ds : List D} (hr : Rd I0 a (.lst vs)) (hl : DenL c I0 vs ds) : ItD c (Itl K a) I0 ds := fun B E S σ I H hc r l i => by
  have hs : SqL K H a vs := exL r (l _ _ hr)
  have hn := Paired.length hl
  refine ⟨fun hi => ?_, fun hi => ⟨vs, hs, by omega⟩, fun x H' d hd y => ?_⟩
  · exact ⟨vs, vs[i]'(by omega), hs, List.getElem?_eq_getElem (by omega)⟩
  · obtain ⟨rfl, y⟩ := y
    obtain ⟨v, h1, h2⟩ := denL_get hl hd
    rw [y vs hs] at h1
    cases h1
    exact ⟨I, r, le_rfl, h2.mono l⟩
theorem it_tup {K : PySem.W.Frag} {c : Option Addr} {I0 : Hp} {a : Addr} {vs : List V} {ds : List D} (hr : Rd I0 a (.tup vs)) (hl : DenL c I0 vs ds) : ItD c (Itt K a) I0 ds := fun B E S σ I H hc r l i => by
  have hs : SqT K H a vs := exT r (l _ _ hr)
  have hn := Paired.length hl
  refine ⟨fun hi => ?_, fun hi => ⟨vs, hs, by omega⟩, fun x H' d hd y => ?_⟩
  · exact ⟨vs, vs[i]'(by omega), hs, List.getElem?_eq_getElem (by omega)⟩
  · obtain ⟨rfl, y⟩ := y
    obtain ⟨v, h1, h2⟩ := denL_get hl hd
    rw [y vs hs] at h1
    cases h1
    exact ⟨I, r, le_rfl, h2.mono l⟩
def rngD (lo : Int) (n : Nat) : List D := (List.range n).map fun (i : Nat) => .int (lo + i)
theorem it_rng {c : Option Addr} {I0 : Hp} {lo : Int} {n : Nat} : ItD c (Itr lo n) I0 (rngD lo n) := fun B E S σ I H hc r l i => by
  have hn : (rngD lo n).length = n := by unfold rngD; simp
  refine ⟨fun hi => by rw [hn] at hi; exact hi, fun hi => by rw [hn] at hi; exact hi, fun x H' d hd y => ?_⟩
  obtain ⟨rfl, rfl⟩ := y
  unfold rngD at hd
  rw [List.getElem?_map] at hd
  cases q : (List.range n)[i]? with
  | none => rw [q] at hd; cases hd
  | some j =>
    rw [q] at hd
    cases hd
    have : j = i := by
      have := List.getElem?_eq_some_iff.mp q
      obtain ⟨_, h⟩ := this
      rw [List.getElem_range] at h
      exact h.symm
    subst this
    exact ⟨I, r, le_rfl, .int _⟩
/-- signs of a text -/
def signsD (x : Str) : List D := x.cps.toList.map fun c => .str ⟨#[c]⟩
theorem it_str {c : Option Addr} {I0 : Hp} {x : Str} : ItD c (Its x) I0 (signsD x) := fun B E S σ I H hc r l i => by
  have hn : (signsD x).length = x.cps.size := by unfold signsD; simp
  refine ⟨fun hi => by rw [hn] at hi; exact hi, fun hi => by rw [hn] at hi; exact hi, fun v H' d hd y => ?_⟩
  obtain ⟨rfl, ch, h1, rfl⟩ := y
  unfold signsD at hd
  rw [List.getElem?_map] at hd
  have h2 : x.cps.toList[i]? = some ch := by rw [Array.getElem?_toList]; exact h1
  rw [h2] at hd
  cases hd
  exact ⟨I, r, le_rfl, .str _⟩
def itF (f : FE) : FI := fun E S => match f E S with
  | some (.lst ds, S1) => some (ds, S1)
  | some (.tup ds, S1) => some (ds, S1)
  | some (.str x, S1) => some (signsD x, S1)
  | _ => none
/-- lists, tuples, texts -/
theorem ri_seq {K : PySem.W.Frag} {te : TE} {f : FE} (h : RE te f) : RI (fun σ H R => iList K te σ H R ∨ iTup K te σ H R ∨ iStr te σ H R) (itF f) := fun {B E S σ I H} r {items S'} e {Rq} k => by
  unfold itF at e
  split at e
  · rename_i ds S1 q
    cases e
    refine .inl (h r q fun v I' H' r' l hd => ?_)
    obtain ⟨a, vs, rfl, hr, hl⟩ := hd.toL
    exact ⟨a, rfl, ⟨vs, exL r' hr⟩, k _ I' H' r' l (it_list hr hl)⟩
  · rename_i ds S1 q
    cases e
    refine .inr (.inl (h r q fun v I' H' r' l hd => ?_))
    obtain ⟨a, vs, rfl, hr, hl⟩ := hd.toT
    exact ⟨a, rfl, ⟨vs, exT r' hr⟩, k _ I' H' r' l (it_tup hr hl)⟩
  · rename_i x S1 q
    cases e
    refine .inr (.inr (h r q fun v I' H' r' l hd => ?_))
    exact ⟨x, den_str hd, k _ I' H' r' l it_str⟩
  · cases e
theorem pi_or {X : Cx} {tg iter : Expr} {w1 w2 : TI} (h : PI X tg iter w1) (h' : PI X tg iter w2) : PI X tg iter (fun σ H R => w1 σ H R ∨ w2 σ H R) := ⟨fun pins s σ H R I hw => by
  rcases hw with hw | hw
  · exact h.run pins s σ H R I hw
  · exact h'.run pins s σ H R I hw⟩
def rng1F (f : FA) : FI := fun E S => match f E S with
  | some ([.int j], S1) => if -(2 ^ 60) ≤ j ∧ j < 2 ^ 60 then some (rngD 0 j.toNat, S1) else none
  | _ => none
def rng2F (f : FA) : FI := fun E S => match f E S with
  | some ([.int i, .int j], S1) => if -(2 ^ 60) ≤ i ∧ i < 2 ^ 60 ∧ -(2 ^ 60) ≤ j ∧ j < 2 ^ 60 then some (rngD i (j - i).toNat, S1) else none
  | _ => none
theorem ri_rng1 {ta : TA} {f : FA} (h : RA ta f) : RI (iRng1 ta) (rng1F f) := fun {B E S σ I H} r {items S'} e {Rq} k => by
  unfold rng1F at e
  split at e
  · rename_i j S1 q
    split at e <;> cases e
    rename_i hj
    refine h r q fun vs I' H' r' l hd => ?_
    obtain ⟨v, rfl, hv⟩ := one1 hd
    exact ⟨j, by rw [den_int hv], by omega, by omega, k _ I' H' r' l it_rng⟩
  · cases e
theorem ri_rng2 {ta : TA} {f : FA} (h : RA ta f) : RI (iRng2 ta) (rng2F f) := fun {B E S σ I H} r {items S'} e {Rq} k => by
  unfold rng2F at e
  split at e
  · rename_i i j S1 q
    split at e <;> cases e
    rename_i hj
    refine h r q fun vs I' H' r' l hd => ?_
    obtain ⟨v, w, rfl, hv, hw⟩ := two2 hd
    exact ⟨i, j, by rw [den_int hv, den_int hw], by omega, k _ I' H' r' l it_rng⟩
  · cases e
/-- enumerate of a list -/
def enumD : Nat → List D → List D
  | _, [] => []
  | n, d :: r => .tup [.int n, d] :: enumD (n + 1) r
theorem enumD_len : ∀ (n : Nat) (ds : List D), (enumD n ds).length = ds.length
  | _, [] => rfl
  | n, _ :: r => by rw [enumD, List.length_cons, List.length_cons, enumD_len (n + 1) r]
theorem enumD_get : ∀ (n : Nat) (ds : List D) (i : Nat) (d : D), (enumD n ds)[i]? = some d → ∃ x, ds[i]? = some x ∧ d = .tup [.int ((n + i : Nat) : Int), x]
  | _, [], i, d, h => by simp [enumD] at h
  | n, x :: r, 0, d, h => by simp [enumD] at h; exact ⟨x, rfl, by rw [← h]; rfl⟩
  | n, x :: r, i + 1, d, h => by
    obtain ⟨y, h1, h2⟩ := enumD_get (n + 1) r i d (by simpa [enumD] using h)
    exact ⟨y, by simpa using h1, by rw [h2, show n + 1 + i = n + (i + 1) by omega]⟩
theorem newT {B : Bs} {E : Ev} {S : Sm} {σ : St} {I H : Hp} (r : R B E S σ I H) {T : Addr} {vs : List V} {ds : List D} (hT : H T = none) (hl : DenL B.c I vs ds) : ∃ I', R B E S σ I' (upd H T (.tup vs)) ∧ Le I I' ∧ Den B.c I' (.ref T) (.tup ds) :=
  (r.alloc hT).freeze (r.fresh hT (.tup hl))
theorem it_enum {K : PySem.W.Frag} {c : Option Addr} {I0 : Hp} {a : Addr} {vs : List V} {ds : List D} (hr : Rd I0 a (.lst vs)) (hl : DenL c I0 vs ds) : ItD c (Ite K a) I0 (enumD 0 ds) := fun B E S σ I H hc r l i => by
  have hs : SqL K H a vs := exL r (l _ _ hr)
  have hn := Paired.length hl
  rw [enumD_len]
  refine ⟨fun hi => ?_, fun hi => ⟨vs, hs, by omega⟩, fun x H' d hd y => ?_⟩
  · exact ⟨vs, vs[i]'(by omega), hs, List.getElem?_eq_getElem (by omega)⟩
  · obtain ⟨T, z, rfl, hT, rfl, y⟩ := y
    obtain ⟨dx, h1, rfl⟩ := enumD_get 0 ds i d hd
    obtain ⟨v, h2, h3⟩ := denL_get hl h1
    rw [y vs hs] at h2
    cases h2
    subst hc
    rw [Nat.zero_add]
    exact newT r hT (.cons (.int _) (.cons (h3.mono l) .nil))
def enF (f : FA) : FI := fun E S => match f E S with
  | some ([.lst ds], S1) => some (enumD 0 ds, S1)
  | _ => none
theorem ri_enum {K : PySem.W.Frag} {ta : TA} {f : FA} (h : RA ta f) : RI (iEnum K ta) (enF f) := fun {B E S σ I H} r {items S'} e {Rq} k => by
  unfold enF at e
  split at e
  · rename_i ds S1 q
    cases e
    refine h r q fun vs I' H' r' l hd => ?_
    obtain ⟨v, rfl, hv⟩ := one1 hd
    obtain ⟨a, ws, rfl, hr, hl⟩ := hv.toL
    exact ⟨a, ws, rfl, exL r' hr, k _ I' H' r' l (it_enum hr hl)⟩
  · cases e
/-- zip of two lists -/
def zipD : List D → List D → List D
  | x :: xs, y :: ys => .tup [x, y] :: zipD xs ys
  | _, _ => []
theorem zipD_len : ∀ (xs ys : List D), (zipD xs ys).length = min xs.length ys.length
  | [], _ => by simp [zipD]
  | _ :: _, [] => by simp [zipD]
  | _ :: xs, _ :: ys => by rw [zipD, List.length_cons, List.length_cons, List.length_cons, zipD_len xs ys]; omega
theorem zipD_get : ∀ (xs ys : List D) (i : Nat) (d : D), (zipD xs ys)[i]? = some d → ∃ x y, xs[i]? = some x ∧ ys[i]? = some y ∧ d = .tup [x, y]
  | [], _, i, d, h => by simp [zipD] at h
  | _ :: _, [], i, d, h => by simp [zipD] at h
  | x :: xs, y :: ys, 0, d, h => by simp [zipD] at h; exact ⟨x, y, rfl, rfl, h.symm⟩
  | x :: xs, y :: ys, i + 1, d, h => by
    obtain ⟨a, b, h1, h2, h3⟩ := zipD_get xs ys i d (by simpa [zipD] using h)
    exact ⟨a, b, by simpa using h1, by simpa using h2, h3⟩
theorem it_zip {K : PySem.W.Frag} {c : Option Addr} {I0 : Hp} {a b : Addr} {vs ws : List V} {ds es : List D} (hr : Rd I0 a (.lst vs)) (hl : DenL c I0 vs ds) (hr2 : Rd I0 b (.lst ws)) (hl2 : DenL c I0 ws es) : ItD c (Itz K a b) I0 (zipD ds es) := fun B E S σ I H hc r l i => by
  have hs : SqL K H a vs := exL r (l _ _ hr)
  have hs2 : SqL K H b ws := exL r (l _ _ hr2)
  have hn := Paired.length hl
  have hn2 := Paired.length hl2
  rw [zipD_len]
  refine ⟨fun hi => ?_, fun hi => ⟨vs, ws, hs, hs2, by omega⟩, fun x H' d hd y => ?_⟩
  · exact ⟨vs, ws, vs[i]'(by omega), ws[i]'(by omega), hs, hs2, List.getElem?_eq_getElem (by omega), List.getElem?_eq_getElem (by omega)⟩
  · obtain ⟨T, z1, z2, rfl, hT, rfl, y1, y2⟩ := y
    obtain ⟨d1, d2, h1, h2, rfl⟩ := zipD_get ds es i d hd
    obtain ⟨v1, g1, g1'⟩ := denL_get hl h1
    obtain ⟨v2, g2, g2'⟩ := denL_get hl2 h2
    rw [y1 vs hs] at g1
    rw [y2 ws hs2] at g2
    cases g1
    cases g2
    subst hc
    exact newT r hT (.cons (g1'.mono l) (.cons (g2'.mono l) .nil))
def zipF (f : FA) : FI := fun E S => match f E S with
  | some ([.lst xs, .lst ys], S1) => some (zipD xs ys, S1)
  | _ => none
theorem ri_zip {K : PySem.W.Frag} {ta : TA} {f : FA} (h : RA ta f) : RI (iZip K ta) (zipF f) := fun {B E S σ I H} r {items S'} e {Rq} k => by
  unfold zipF at e
  split at e
  · rename_i xs ys S1 q
    cases e
    refine h r q fun vs I' H' r' l hd => ?_
    obtain ⟨v, w, rfl, hv, hw⟩ := two2 hd
    obtain ⟨a, as, rfl, hr, hl⟩ := hv.toL
    obtain ⟨b, bs, rfl, hr2, hl2⟩ := hw.toL
    exact ⟨a, b, as, bs, rfl, exL r' hr, exL r' hr2, k _ I' H' r' l (it_zip hr hl hr2 hl2)⟩
  · cases e

/-! ### for -/
def forL (tg : TgD) (body : FS) : List D → FS
  | [] => nextS
  | d :: r => fun E S => match tg d E with
    | none => none
    | some E1 => match body E1 S with
      | some (.nx, E2, S2) => forL tg body r E2 S2
      | some (.ct, E2, S2) => forL tg body r E2 S2
      | some (.bk, E2, S2) => some (.nx, E2, S2)
      | some (.rt d, E2, S2) => some (.rt d, E2, S2)
      | none => none
def forS (fi : FI) (tg : TgD) (body : FS) : FS := fun E S => match fi E S with
  | some (items, S1) => forL tg body items E S1
  | none => none
theorem for_at {wi : TI} {fi : FI} {g : TG} {tg : TgD} {own : List Nat} {tb : TS} {body : FS} (hg : RG g tg own) (hb : RS tb body) {B : Bs} {E : Ev} {S : Sm} {σ : St} {I H : Hp} (r : R B E S σ I H)
    (hi : ∀ {items : List D} {S' : Sm}, fi E S = some (items, S') → ∀ {Rq : It → Hp → Prop}, (∀ J I' H', R B E S' σ I' H' → Le I I' → ItD B.c J I' items → Rq J H') → wi σ H Rq)
    {o : Out} {Ef : Ev} {Sf : Sm} (e : forS fi tg body E S = some (o, Ef, Sf)) {Dn : Ends} (k : Post B I Dn Ef Sf o) : tFor wi g tb Dn σ H := by
  unfold forS at e
  split at e
  · rename_i items S1 q
    refine hi q fun J I1 H1 r1 l1 it => ?_
    let W : Nat → Nat → St → Hp → Prop := fun i m σ' H' => ∃ E' S' I', R B E' S' σ' I' H' ∧ Le I1 I' ∧ m = items.length - i ∧ i ≤ items.length ∧ forL tg body (items.drop i) E' S' = some (o, Ef, Sf)
    refine ⟨W, ⟨_, E, S1, I1, r1, le_rfl, rfl, Nat.zero_le _, by rw [List.drop_zero]; exact e⟩, ?_⟩
    rintro i m σ' H' ⟨E', S', I', r', l', rfl, hle, e'⟩
    obtain ⟨go, stop, yld⟩ := it B E' S' σ' I' H' rfl r' l' i
    by_cases hlt : i < items.length
    · right
      refine ⟨go hlt, W (i + 1) (items.length - (i + 1)), fun σ2 H2 w => ⟨_, by omega, w⟩, fun x H2 y => ?_⟩
      rw [List.drop_eq_getElem_cons hlt] at e'
      unfold forL at e'
      split at e'
      · cases e'
      · rename_i E1 q1
        obtain ⟨I2, r2, l2, hd⟩ := yld x H2 _ (List.getElem?_eq_getElem hlt) y
        refine hg r2 hd q1 fun σ3 I3 H3 r3 l3 _ _ => ?_
        split at e'
        · rename_i E2 S2 q2
          exact hb r3 q2 fun σ4 I4 H4 r4 l4 => ⟨E2, S2, I4, r4, l'.trans (l2.trans (l3.trans l4)), rfl, hlt, e'⟩
        · rename_i E2 S2 q2
          exact hb r3 q2 fun σ4 I4 H4 r4 l4 => ⟨E2, S2, I4, r4, l'.trans (l2.trans (l3.trans l4)), rfl, hlt, e'⟩
        · rename_i E2 S2 q2
          cases e'
          exact hb r3 q2 fun σ4 I4 H4 r4 l4 => k σ4 I4 H4 r4 (l1.trans (l'.trans (l2.trans (l3.trans l4))))
        · rename_i d E2 S2 q2
          cases e'
          exact hb r3 q2 fun v I4 H4 s4 l4 hd4 => k v I4 H4 s4 (l1.trans (l'.trans (l2.trans (l3.trans l4)))) hd4
        · cases e'
    · left
      have he : i = items.length := by omega
      subst he
      rw [List.drop_length] at e'
      cases e'
      exact ⟨stop (Nat.le_refl _), k σ' I' H' r' (l1.trans l')⟩
  · cases e
theorem rs_for {wi : TI} {fi : FI} {g : TG} {tg : TgD} {own : List Nat} {tb : TS} {body : FS} (hi : RI wi fi) (hg : RG g tg own) (hb : RS tb body) : RS (tFor wi g tb) (forS fi tg body) :=
  fun {B E S σ I H} r {o Ef Sf} e {Dn} k => for_at hg hb r (fun {items S'} q {Rq} k => hi r q k) e k
end M

set_option Elab.async false
set_option linter.all false
set_option maxRecDepth 100000
set_option maxHeartbeats 4000000
namespace M
open PySem L2

/-! ### comprehensions -/
def wipeE (E : Ev) : List Nat → Ev
  | [] => E
  | v :: vs => (wipeE E vs).set v .no
theorem wipe_get : ∀ (vs : List Nat) (σ : St) (j : Nat), (wipe σ vs)[j]? = if j ∈ vs then (σ[j]?).map (fun _ => none) else σ[j]?
  | [], σ, j => by simp [wipe]
  | v :: vs, σ, j => by
    unfold wipe
    by_cases e : v = j
    · subst e
      rw [if_pos (by simp)]
      by_cases h : v < σ.length
      · rw [List.getElem?_set_self (by rw [wipe_length]; exact h), List.getElem?_eq_getElem h]
        rfl
      · rw [List.getElem?_eq_none (by rw [List.length_set, wipe_length]; omega), List.getElem?_eq_none (by omega)]
        rfl
    · rw [List.getElem?_set_ne e, wipe_get vs σ j]
      by_cases h : j ∈ vs
      · rw [if_pos h, if_pos (by simp [h])]
      · rw [if_neg h, if_neg (by simp [h]; exact fun z => e z.symm)]
theorem wipeE_len : ∀ (vs : List Nat) (E : Ev), (wipeE E vs).length = E.length
  | [], _ => rfl
  | v :: vs, E => by unfold wipeE; rw [List.length_set, wipeE_len vs E]
theorem wipeE_get : ∀ (vs : List Nat) (E : Ev) (j : Nat), (wipeE E vs)[j]? = if j ∈ vs then (E[j]?).map (fun _ => .no) else E[j]?
  | [], E, j => by simp [wipeE]
  | v :: vs, E, j => by
    unfold wipeE
    by_cases e : v = j
    · subst e
      rw [if_pos (by simp)]
      by_cases h : v < E.length
      · rw [List.getElem?_set_self (by rw [wipeE_len]; exact h), List.getElem?_eq_getElem h]
        rfl
      · rw [List.getElem?_eq_none (by rw [List.length_set, wipeE_len]; omega), List.getElem?_eq_none (by omega)]
        rfl
    · rw [List.getElem?_set_ne e, wipeE_get vs E j]
      by_cases h : j ∈ vs
      · rw [if_pos h, if_pos (by simp [h])]
      · rw [if_neg h, if_neg (by simp [h]; exact fun z => e z.symm)]
/-- the block's own names hold nothing of one's own -/
def noOwn (E : Ev) (own : List Nat) : Bool := own.all fun j => match E[j]? with
  | some (.o _) => false
  | _ => true
theorem R.wipe {B : Bs} {E : Ev} {S : Sm} {σ : St} {I H : Hp} (r : R B E S σ I H) (own : List Nat) : R B (wipeE E own) S (L2.wipe σ own) I H := by
  refine ⟨r.st, by rw [wipe_length, wipeE_len]; exact r.len, fun i d h => ?_, fun i d h => ?_, fun i j d e p hij h1 h2 h3 h4 => ?_⟩
  · rw [wipeE_get] at h
    split at h
    · cases q : E[i]? with
      | none => rw [q] at h; cases h
      | some x => rw [q] at h; cases h
    · rename_i hn
      obtain ⟨x, hx, hd⟩ := r.v i d h
      exact ⟨x, by rw [wipe_get, if_neg hn]; exact hx, hd⟩
  · rw [wipeE_get] at h
    split at h
    · cases q : E[i]? with
      | none => rw [q] at h; cases h
      | some x => rw [q] at h; cases h
    · rename_i hn
      obtain ⟨p, u, hx, hd⟩ := r.o i d h
      exact ⟨p, u, by rw [wipe_get, if_neg hn]; exact hx, hd⟩
  · rw [wipeE_get] at h1 h2
    split at h1
    · cases q : E[i]? with
      | none => rw [q] at h1; cases h1
      | some x => rw [q] at h1; cases h1
    · split at h2
      · cases q : E[j]? with
        | none => rw [q] at h2; cases h2
        | some x => rw [q] at h2; cases h2
      · rename_i hn1 hn2
        rw [wipe_get, if_neg hn1] at h3
        rw [wipe_get, if_neg hn2] at h4
        exact r.ne i j d e p hij h1 h2 h3 h4
/-- back from a block -/
theorem R.back {B : Bs} {E E2 : Ev} {S S2 : Sm} {σ σ2 : St} {I H I2 H2 : Hp} (r : R B E S σ I H) (r2 : R B E2 S2 σ2 I2 H2) (l : Le I I2) (h : ∀ (i : Nat) d, E[i]? = some (.o d) → E2[i]? = some (.o d) ∧ σ2[i]? = σ[i]?) : R B E S2 σ I2 H2 := by
  refine ⟨r2.st, r.len, fun i d hi => ?_, fun i d hi => ?_, r.ne⟩
  · obtain ⟨x, hx, hd⟩ := r.v i d hi
    exact ⟨x, hx, hd.mono l⟩
  · obtain ⟨g1, g2⟩ := h i d hi
    obtain ⟨p, u, z1, z⟩ := r2.o i d g1
    exact ⟨p, u, by rw [← g2]; exact z1, z⟩
theorem wipe_ext {σ σ2 : St} {vs : List Nat} (hl : σ2.length = σ.length) (h : ∀ (i : Nat), i ∉ vs → σ2[i]? = (wipe σ vs)[i]?) : wipe σ2 vs = wipe σ vs := by
  apply List.ext_getElem?
  intro i
  rw [wipe_get, wipe_get]
  by_cases hi : i ∈ vs
  · rw [if_pos hi, if_pos hi]
    by_cases g : i < σ.length
    · rw [List.getElem?_eq_getElem g, List.getElem?_eq_getElem (by omega)]
      rfl
    · rw [List.getElem?_eq_none (by omega), List.getElem?_eq_none (by omega)]
  · rw [if_neg hi, if_neg hi, h i hi, wipe_get, if_neg hi]
def lcL (tg : TgD) (c : FT) (fe : FE) : List D → Ev → Sm → Option (List D × Sm)
  | [], _, S => some ([], S)
  | d :: r, E, S => match tg d E with
    | none => none
    | some E1 => match c E1 S with
      | none => none
      | some (false, S1) => lcL tg c fe r E S1
      | some (true, S1) => match fe E1 S1 with
        | none => none
        | some (x, S2) => match lcL tg c fe r E S2 with
          | none => none
          | some (xs, S3) => some (x :: xs, S3)
def lcE (fi : FI) (tg : TgD) (c : FT) (fe : FE) (own : List Nat) : FE := fun E S => match fi E S with
  | some (items, S1) => if items.length ≤ 1000000 ∧ noOwn E own = true then match lcL tg c fe items (wipeE E own) S1 with
      | some (xs, S2) => some (.lst xs, S2)
      | none => none
    else none
  | none => none
def yesT : FT := fun _ S => some (true, S)
theorem rt_yes : RT tYes yesT := fun {B E S σ I H} r {b S'} e {Q} k => by
  cases e
  exact k I H r le_rfl
theorem noOwn_at {E : Ev} {own : List Nat} (h : noOwn E own = true) {i : Nat} {d : D} (e : E[i]? = some (.o d)) : i ∉ own := fun hi => by
  unfold noOwn at h
  rw [List.all_eq_true] at h
  have := h i hi
  rw [e] at this
  cases this
theorem lc_at {wi : TI} {fi : FI} {g : TG} {tg : TgD} {own : List Nat} {tt : TT} {c : FT} {te : TE} {fe : FE} (hg : RG g tg own) (ht : RT tt c) (he : RE te fe) {B : Bs} {E : Ev} {S : Sm} {σ : St} {I H : Hp} (r : R B E S σ I H)
    (hi : ∀ {items : List D} {S' : Sm}, fi E S = some (items, S') → ∀ {Rq : It → Hp → Prop}, (∀ J I' H', R B E S' σ I' H' → Le I I' → ItD B.c J I' items → Rq J H') → wi σ H Rq)
    {dd : D} {Sf : Sm} (e : lcE fi tg c fe own E S = some (dd, Sf)) {Q : VK} (k : ∀ v I' H', R B E Sf σ I' H' → Le I I' → Fresh B E σ I' H' v dd → Q v H') : tLc wi g tt te own σ H Q := by
  unfold lcE at e
  split at e
  · rename_i items S1 q
    split at e
    · rename_i hlen
      obtain ⟨hlen, hown⟩ := hlen
      split at e
      · rename_i xs S2 q2
        cases e
        refine hi q fun J I1 H1 r1 l1 it Dp hD => ?_
        have hfr := r1.st.noFr hD
        let W : Nat → Nat → Hp → Prop := fun i m H' => ∃ S' I' av ad rest, R (B.cell Dp (.lst av)) E S' σ I' H' ∧ Le I1 I' ∧ DenL B.c I' av ad ∧ m = items.length - i ∧ i ≤ items.length ∧ ad.length ≤ i ∧ lcL tg c fe (items.drop i) (wipeE E own) S' = some (rest, Sf) ∧ xs = ad ++ rest
        refine ⟨W, ⟨_, S1, I1, [], [], xs, r1.cell hD (fun _ => nofun), le_rfl, .nil, rfl, Nat.zero_le _, Nat.le_refl _, by rw [List.drop_zero]; exact q2, rfl⟩, ?_⟩
        rintro i m H' ⟨S', I', av, ad, rest, r', l', hav, rfl, hle, hal, e', hx⟩
        have rw' := r'.wipe own
        obtain ⟨go, stop, yld⟩ := it (B.cell Dp (.lst av)) _ _ _ I' H' rfl rw' l' i
        by_cases hlt : i < items.length
        · right
          refine ⟨go hlt, W (i + 1) (items.length - (i + 1)), fun H2 w => ⟨_, by omega, w⟩, fun x H2 y => ?_⟩
          rw [List.drop_eq_getElem_cons hlt] at e'
          unfold lcL at e'
          split at e'
          · cases e'
          · rename_i E1 q1
            obtain ⟨I2, r2, l2, hd⟩ := yld x H2 _ (List.getElem?_eq_getElem hlt) y
            refine hg r2 hd q1 fun σ3 I3 H3 r3 l3 hln hs3 => ⟨?_, ?_⟩
            · exact wipe_ext (hln.trans (wipe_length _ _)) fun j hj => (hs3 j hj).1
            · have bk : ∀ {S4 : Sm} {I4 H4 : Hp} {av4 : List V}, R (B.cell Dp (.lst av4)) E1 S4 σ3 I4 H4 → Le I' I4 → R (B.cell Dp (.lst av4)) E S' σ I' (upd H' Dp (.lst av4)) → R (B.cell Dp (.lst av4)) E S4 σ I4 H4 := fun {S4 I4 H4 av4} r4 l4 r5 => by
                refine R.back r5 r4 l4 fun j d hj => ?_
                have hn := noOwn_at hown hj
                refine ⟨?_, ?_⟩
                · rw [(hs3 j hn).2, wipeE_get, if_neg hn]; exact hj
                · rw [(hs3 j hn).1, wipe_get, if_neg hn]
              have same : R (B.cell Dp (.lst av)) E S' σ I' (upd H' Dp (.lst av)) := r'.cellSet (fun _ => nofun)
              split at e'
              · cases e'
              · rename_i S4 q4
                refine ht r3 q4 fun I4 H4 r4 l4 => ?_
                rw [if_neg Bool.false_ne_true]
                have lA : Le I' I4 := l2.trans (l3.trans l4)
                exact ⟨S4, I4, av, ad, rest, bk r4 lA same, l'.trans lA, DenL.mono lA hav, rfl, hlt, by omega, e', hx⟩
              · rename_i S4 q4
                refine ht r3 q4 fun I4 H4 r4 l4 => ?_
                rw [if_pos rfl]
                split at e'
                · cases e'
                · rename_i x5 S5 q5
                  refine he r4 q5 fun v I5 H5 r5 l5 hd5 => ?_
                  split at e'
                  · cases e'
                  · rename_i xs6 S6 q6
                    cases e'
                    have lA : Le I' I5 := l2.trans (l3.trans (l4.trans l5))
                    have rb := bk r5 lA same
                    obtain ⟨hDv, _, _, _⟩ := rb.cellAt
                    have hlv := Paired.length hav
                    refine ⟨av, hDv, Nat.lt_of_lt_of_le (show av.length < 2000000 by omega) (by decide), S5, I5, av ++ [v], ad ++ [x5], xs6, rb.cellSet (fun _ => nofun), l'.trans lA, ?_, rfl, hlt, by simp; omega, q6, ?_⟩
                    · exact Paired.snoc (DenL.mono lA hav) hd5
                    · rw [hx, List.append_assoc]; rfl
        · left
          have he' : i = items.length := by omega
          subst he'
          rw [List.drop_length] at e'
          cases e'
          rw [List.append_nil] at hx
          subst hx
          exact ⟨stop (Nat.le_refl _), k (.ref Dp) I' H' (r'.uncell hfr) (l1.trans l') (R.uncellF hfr r' (.lst hav))⟩
      · cases e
    · cases e
  · cases e

theorem rf_lc {wi : TI} {fi : FI} {g : TG} {tg : TgD} {own : List Nat} {tt : TT} {c : FT} {te : TE} {fe : FE} (hi : RI wi fi) (hg : RG g tg own) (ht : RT tt c) (he : RE te fe) : RF (tLc wi g tt te own) (lcE fi tg c fe own) :=
  fun {B E S σ I H} r {dd Sf} e {Q} k => lc_at hg ht he r (fun {items S'} q {Rq} k => hi r q k) e k

/-! ### dicts locked while they are walked -/
/-- the base within a lock -/
def Bs.lockd (B : Bs) (d : Addr) (o : Obj) (u : HO) : Bs := { B with I := upd B.I d (.frz o u) }
/-- what is data stays so -/
def Lw (I I' : Hp) : Prop := ∀ a u, (∀ o w, u ≠ .frz o w) → Rd I a u → Rd I' a u
theorem Le.w {I I' : Hp} (e : Le I I') : Lw I I' := fun a u _ h => e a u h
theorem Den.monoW {c : Option Addr} {I I' : Hp} (e : Lw I I') {v : V} {d : D} (h : Den c I v d) : Den c I' v d := by
  induction h with
  | non => exact .non
  | bl b => exact .bl b
  | int i => exact .int i
  | str x => exact .str x
  | strm h => exact .strm h
  | far a => exact .far a
  | lst r l _ ih => exact .lst (e _ _ (fun _ _ => nofun) r) l ih
  | tup r l _ ih => exact .tup (e _ _ (fun _ _ => nofun) r) l ih
  | dic r l _ ih => exact .dic (e _ _ (fun _ _ => nofun) r) l ih
  | dtk r l _ ih => exact .dtk (e _ _ (fun _ _ => nofun) r) l ih
  | ins r l _ ih => exact .ins (e _ _ (fun _ _ => nofun) r) l ih
theorem ObjD.monoW {c : Option Addr} {I I' : Hp} (e : Lw I I') {u : HO} {d : D} (h : ObjD c I u d) : ObjD c I' u d := by
  cases h with
  | lst h => exact .lst (Paired.mapP h fun _ _ q => q.monoW e)
  | tup h => exact .tup (Paired.mapP h fun _ _ q => q.monoW e)
  | dK h => exact .dK (Paired.mapP h fun _ _ q => ⟨q.1, q.2.monoW e⟩)
  | dT h => exact .dT (Paired.mapP h fun _ _ q => ⟨q.1, q.2.monoW e⟩)
abbrev IsDict (u : HO) : Prop := (∃ kvs, u = .dK kvs) ∨ ∃ kvs, u = .dT kvs
theorem IsDict.nf {u : HO} (hu : IsDict u) : ∀ o' w, u ≠ .frz o' w := fun o' w e => by rcases hu with ⟨_, h⟩ | ⟨_, h⟩ <;> rw [h] at e <;> cases e
theorem R.lock {B : Bs} {E : Ev} {S : Sm} {σ : St} {I H : Hp} (r : R B E S σ I H) {d : Addr} {u : HO} (hd : I d = some u) (hu : IsDict u) (o : Obj) : R (B.lockd d o u) E S σ (upd I d (.frz o u)) (upd H d (.frz o u)) ∧ Lw I (upd I d (.frz o u)) := by
  have nf := hu.nf
  have lw : Lw I (upd I d (.frz o u)) := fun a w hw h => by
    by_cases e : a = d
    · subst e
      have : w = u := by
        rcases h with h | ⟨o', h⟩
        · rw [hd] at h; cases h; rfl
        · rw [hd] at h; cases h; exact absurd rfl (nf _ _)
      subst this
      exact .inr ⟨o, upd_same⟩
    · unfold Rd
      rw [upd_ne e]
      exact h
  refine ⟨⟨⟨fun a w h => ?_, ⟨fun a w h => ?_⟩, fun a w h h1 h2 => ?_, fun a w h => ?_, ⟨fun q hc => ?_⟩, fun a o' w h => ?_, r.st.stH, fun a w h => ?_⟩, r.len, fun i x hi => ?_, fun i x hi => ?_, r.ne⟩, lw⟩
  · by_cases e : a = d
    · subst e; rw [upd_same] at h ⊢; exact h
    · rw [upd_ne e] at h ⊢; exact r.st.sub a w h
  · have h : upd B.I d (.frz o u) a = some w := h
    by_cases e : a = d
    · subst e; rw [upd_same] at h ⊢; exact h
    · rw [upd_ne e] at h ⊢; exact r.st.le.ex a w h
  · have h1 : upd B.I d (.frz o u) a = none := h1
    have : a ≠ d := fun e => by subst e; rw [upd_same] at h1; cases h1
    rw [upd_ne this] at h1 ⊢
    exact r.st.keep a w h h1 h2
  · show (∃ o', upd B.I d (.frz o u) a = some o') ∨ _
    by_cases e : a = d
    · subst e; exact .inl ⟨_, upd_same⟩
    · rw [upd_ne e] at h
      rw [upd_ne e]
      exact r.st.new a w h
  · obtain ⟨h0, h1, h2, h3, h4⟩ := r.st.st.at_ q hc
    have n1 : q ≠ d := fun e => by rw [e, hd] at h1; cases h1
    have n2 : B.l ≠ d := fun e => by rw [e, hd] at h2; cases h2
    exact ⟨h0, by rw [upd_ne n1]; exact h1, (by show upd I d _ B.l = none; rw [upd_ne n2]; exact h2), by rw [upd_ne n1]; exact h3, (by show upd H d _ B.l = _; rw [upd_ne n2]; exact h4)⟩
  · show _ ∧ upd B.I d (.frz o u) a = some (.frz o' w)
    by_cases e : a = d
    · subst e; rw [upd_same] at h ⊢; cases h; exact ⟨hu, rfl⟩
    · rw [upd_ne e] at h ⊢; exact r.st.nofr a o' w h
  · obtain ⟨g1, g2, g3⟩ := r.st.fr a w h
    have : a ≠ d := fun e => by rw [e, hd] at g2; cases g2
    exact ⟨by rw [upd_ne this]; exact g1, by rw [upd_ne this]; exact g2, g3⟩
  · obtain ⟨y, hy, hd'⟩ := r.v i x hi
    exact ⟨y, hy, hd'.monoW lw⟩
  · obtain ⟨p, w, z1, z2, z3, z4, z5⟩ := r.o i x hi
    have : p ≠ d := fun e => by rw [e, hd] at z2; cases z2
    exact ⟨p, w, z1, by rw [upd_ne this]; exact z2, z3, by rw [upd_ne this]; exact z4, z5.monoW lw⟩
/-- what is told of the place ahead of the lock -/
def Bs.free (B : Bs) (d : Addr) (u : HO) : Prop := B.I d = some u ∨ (B.I d = none ∧ B.H d = none)
theorem Stt.free {B : Bs} {I H : Hp} {S : Sm} (s : Stt B I H S) {d : Addr} {u : HO} (hd : I d = some u) (hu : IsDict u) : B.free d u := by
  cases q : B.I d with
  | some w =>
    have z := s.le.ex _ _ q
    rw [hd] at z
    cases z
    exact .inl q
  | none =>
    rcases s.new _ _ hd with ⟨o', z⟩ | z | ⟨xs, z⟩
    · rw [q] at z; cases z
    · exact .inr ⟨q, z⟩
    · rcases hu with ⟨_, y⟩ | ⟨_, y⟩ <;> rw [y] at z <;> cases z
theorem lock_stays {B : Bs} {I H : Hp} {S : Sm} (s : Stt B I H S) {d : Addr} {u : HO} {o : Obj} (h : Rd I d (.frz o u)) : I d = some (.frz o u) := by
  rcases h with h | ⟨o', h⟩
  · exact h
  · rcases (s.nofr _ _ _ h).1 with ⟨_, z⟩ | ⟨_, z⟩ <;> cases z
/-- unlocked again: I0 is what was frozen ahead of the lock -/
theorem unlock_le {I I0 : Hp} {d : Addr} {u : HO} {o : Obj} (h0 : I0 d = some u) (l : Le (upd I0 d (.frz o u)) I) : Le I0 (upd I d u) := ⟨fun a w h => by
  by_cases e : a = d
  · subst e
    rw [h0] at h
    cases h
    exact upd_same
  · rw [upd_ne e]
    exact l.ex a w (by rw [upd_ne e]; exact h)⟩
theorem Stt.unlock {B : Bs} {S : Sm} {I H : Hp} {d : Addr} {u : HO} {o : Obj} (r : Stt (B.lockd d o u) I H S) (hd : I d = some (.frz o u)) (hu : IsDict u) (hB : B.free d u) : Stt B (upd I d u) (upd H d u) S := by
  have nf := hu.nf
  have bi : ∀ {a : Addr}, a ≠ d → (B.lockd d o u).I a = B.I a := fun {a} h => by show upd B.I d _ a = _; rw [upd_ne h]
  refine ⟨fun a w h => ?_, ⟨fun a w h => ?_⟩, fun a w h h1 h2 => ?_, fun a w h => ?_, ⟨fun q hc => ?_⟩, fun a o' w h => ?_, r.stH, fun a w h => ?_⟩
  · by_cases e : a = d
    · subst e; rw [upd_same] at h ⊢; exact h
    · rw [upd_ne e] at h ⊢; exact r.sub a w h
  · by_cases e : a = d
    · subst e
      rcases hB with z | ⟨z, _⟩
      · rw [z] at h; cases h; exact upd_same
      · rw [z] at h; cases h
    · rw [upd_ne e]
      exact r.le.ex a w (by rw [bi e]; exact h)
  · have : a ≠ d := fun e => by
      subst e
      rcases hB with z | ⟨_, z⟩
      · rw [h1] at z; cases z
      · rw [h] at z; cases z
    rw [upd_ne this]
    exact r.keep a w h (by rw [bi this]; exact h1) h2
  · by_cases e : a = d
    · subst e
      rcases hB with z | ⟨_, z⟩
      · exact .inl ⟨_, z⟩
      · exact .inr (.inl z)
    · rw [upd_ne e] at h
      have := r.new a w h
      rw [bi e] at this
      exact this
  · obtain ⟨h0, h1, h2, h3, h4⟩ := r.st.at_ q hc
    have n1 : q ≠ d := fun e => by rw [e, hd] at h1; cases h1
    have n2 : B.l ≠ d := fun e => by
      have h2 : I B.l = none := h2
      rw [e, hd] at h2; cases h2
    exact ⟨h0, by rw [upd_ne n1]; exact h1, by rw [upd_ne n2]; exact h2, by rw [upd_ne n1]; exact h3, by rw [upd_ne n2]; exact h4⟩
  · by_cases e : a = d
    · subst e; rw [upd_same] at h; cases h; exact absurd rfl (nf _ _)
    · rw [upd_ne e] at h
      have := r.nofr a o' w h
      rw [bi e] at this
      exact this
  · obtain ⟨g1, g2, g3⟩ := r.fr a w h
    have : a ≠ d := fun e => by rw [e, hd] at g2; cases g2
    exact ⟨by rw [upd_ne this]; exact g1, by rw [upd_ne this]; exact g2, g3⟩
theorem unlock_lw {I : Hp} {d : Addr} {u : HO} {o : Obj} (hd : I d = some (.frz o u)) : Lw I (upd I d u) := fun a w hw h => by
  by_cases e : a = d
  · subst e
    rcases h with h | ⟨o', h⟩
    · rw [hd] at h; cases h; exact absurd rfl (hw _ _)
    · rw [hd] at h; cases h; exact .inl upd_same
  · unfold Rd; rw [upd_ne e]; exact h
theorem R.unlock {B : Bs} {E : Ev} {S : Sm} {σ : St} {I H : Hp} {d : Addr} {u : HO} {o : Obj} (r : R (B.lockd d o u) E S σ I H) (hd : I d = some (.frz o u)) (hu : IsDict u) (hB : B.free d u) : R B E S σ (upd I d u) (upd H d u) := by
  have lw := unlock_lw (o := o) hd
  refine ⟨r.st.unlock hd hu hB, r.len, fun i x hi => ?_, fun i x hi => ?_, r.ne⟩
  · obtain ⟨y, hy, hd'⟩ := r.v i x hi
    exact ⟨y, hy, hd'.monoW lw⟩
  · obtain ⟨p, w, z1, z2, z3, z4, z5⟩ := r.o i x hi
    have : p ≠ d := fun e => by rw [e, hd] at z2; cases z2
    exact ⟨p, w, z1, by rw [upd_ne this]; exact z2, z3, by rw [upd_ne this]; exact z4, z5.monoW lw⟩
/-- a tuple that stands anywhere may be frozen -/
theorem R.frzT {B : Bs} {E : Ev} {S : Sm} {σ : St} {I H : Hp} (r : R B E S σ I H) {q : Addr} {xs : List V} (h : H q = some (.tup xs)) : ∃ I', R B E S σ I' H ∧ Le I I' ∧ Rd I' q (.tup xs) := by
  cases hi : I q with
  | some o =>
    have := r.st.sub _ _ hi
    rw [h] at this
    cases this
    exact ⟨I, r, le_rfl, .inl hi⟩
  | none =>
    have le : Le I (upd I q (.tup xs)) := Le.new hi
    have nst : ¬ B.isSt q := fun ⟨s, hc, z⟩ => by
      obtain ⟨_, _, _, h3, h4⟩ := r.st.st.at_ s hc
      rcases z with rfl | rfl
      · rw [h] at h3; cases h3
      · rw [h] at h4; cases h4
    refine ⟨upd I q (.tup xs), ⟨⟨fun a w ha => ?_, r.st.le.trans le, r.st.keep, fun a w ha => ?_, ⟨fun s hc => ?_⟩, fun a o' w ha => ?_, r.st.stH, fun a w ha => ?_⟩, r.len, fun i x hx => ?_, fun i x hx => ?_, r.ne⟩, le, .inl upd_same⟩
    · by_cases e : a = q
      · subst e; rw [upd_same] at ha; cases ha; exact h
      · rw [upd_ne e] at ha; exact r.st.sub a w ha
    · by_cases e : a = q
      · subst e; rw [upd_same] at ha; cases ha; exact .inr (.inr ⟨_, rfl⟩)
      · rw [upd_ne e] at ha; exact r.st.new a w ha
    · obtain ⟨h0, h1, h2, h3, h4⟩ := r.st.st.at_ s hc
      have n1 : s ≠ q := fun e => nst ⟨s, hc, .inl e.symm⟩
      have n2 : B.l ≠ q := fun e => nst ⟨s, hc, .inr e.symm⟩
      exact ⟨h0, by rw [upd_ne n1]; exact h1, by rw [upd_ne n2]; exact h2, h3, h4⟩
    · by_cases e : a = q
      · subst e; rw [upd_same] at ha; cases ha
      · rw [upd_ne e] at ha; exact r.st.nofr a o' w ha
    · obtain ⟨g1, g2, g3, g4⟩ := r.st.fr a w ha
      have : a ≠ q := fun e => by rw [e, h] at g1; cases g1; exact absurd rfl (g4 _)
      exact ⟨g1, by rw [upd_ne this]; exact g2, g3, g4⟩
    · obtain ⟨y, hy, hd'⟩ := r.v i x hx
      exact ⟨y, hy, hd'.mono le⟩
    · obtain ⟨p, w, z1, z2, z3, z4, z5⟩ := r.o i x hx
      have : p ≠ q := fun e => by rw [e, h] at z4; cases z4; exact absurd rfl (z3.2.2 _)
      exact ⟨p, w, z1, by rw [upd_ne this]; exact z2, z3, z4, z5.mono le⟩
/-! the keys of a dict -/
def kD : Key → D
  | .inl i => .int i
  | .inr x => .str x
theorem den_key {c : Option Addr} {I : Hp} (k : Key) : Den c I (kV k) (kD k) := by
  cases k with
  | inl i => exact .int i
  | inr x => exact .str x
theorem it_keys {c : Option Addr} {I0 : Hp} {d : Addr} {o : Obj} {kvs : List (Key × V)} {kds : List (Key × D)} (hd : I0 d = some (.frz o (.dK kvs))) (hk : kvs.map (·.1) = kds.map (·.1)) : ItD c (Itk d o kvs) I0 (kds.map fun p => kD p.1) := fun B E S σ I H hc r l i => by
  have h1 : I d = some (.frz o (.dK kvs)) := lock_stays r.st (l _ _ (.inl hd))
  have h2 := r.st.sub _ _ h1
  have hn : kvs.length = kds.length := by have := congrArg List.length hk; simpa using this
  refine ⟨fun hi => ⟨h2, by rw [hn]; simpa using hi⟩, fun hi => ⟨h2, by rw [hn]; simpa using hi⟩, fun x H' dd hdd y => ?_⟩
  obtain ⟨rfl, k, v, hkv, rfl⟩ := y
  have e := congrArg (fun l => l[i]?) hk
  simp only [List.getElem?_map, hkv, Option.map_some] at e hdd
  cases q : kds[i]? with
  | none => rw [q] at hdd; cases hdd
  | some p =>
    rw [q] at hdd e
    cases hdd
    cases e
    exact ⟨I, r, le_rfl, den_key _⟩
theorem it_keysT {c : Option Addr} {I0 : Hp} {d : Addr} {o : Obj} {kvs : List (List Key × V)} {kds : List (List Key × D)} (hd : I0 d = some (.frz o (.dT kvs))) (hk : kvs.map (·.1) = kds.map (·.1)) : ItD c (Itkt d o kvs) I0 (kds.map fun p => .tup (p.1.map kD)) := fun B E S σ I H hc r l i => by
  have h1 : I d = some (.frz o (.dT kvs)) := lock_stays r.st (l _ _ (.inl hd))
  have h2 := r.st.sub _ _ h1
  have hn : kvs.length = kds.length := by have := congrArg List.length hk; simpa using this
  refine ⟨fun hi => ⟨h2, by rw [hn]; simpa using hi⟩, fun hi => ⟨h2, by rw [hn]; simpa using hi⟩, fun x H' dd hdd y => ?_⟩
  obtain ⟨rfl, k, v, q0, hkv, rfl, hq⟩ := y
  have e := congrArg (fun l => l[i]?) hk
  simp only [List.getElem?_map, hkv, Option.map_some] at e hdd
  cases q : kds[i]? with
  | none => rw [q] at hdd; cases hdd
  | some p =>
    rw [q] at hdd e
    cases hdd
    cases e
    obtain ⟨I2, r2, l2, hd2⟩ := r.frzT hq
    have : DenL B.c I2 (p.1.map kV) (p.1.map kD) := by
      generalize p.1 = ks
      induction ks with
      | nil => exact .nil
      | cons k ks ih => exact .cons (den_key k) ih
    exact ⟨I2, r2, l2, hc ▸ den_tup hd2 this⟩
end M

set_option Elab.async false
set_option linter.all false
set_option maxRecDepth 100000
set_option maxHeartbeats 4000000
namespace M
open PySem L2

/-! ### paths: names, fields, items at written places: they come to the same value again -/
def RP (td : TE) (fd : FE) : Prop := ∀ {B : Bs} {E : Ev} {S : Sm} {σ : St} {I H : Hp}, R B E S σ I H → ∀ {dd : D} {S' : Sm}, fd E S = some (dd, S') → S' = S ∧ ∃ v, Den B.c I v dd ∧
  ∀ (B2 : Bs) (S2 : Sm) (I2 H2 : Hp), Stt B2 I2 H2 S2 → Lw I I2 → ∀ {Q : VK}, Q v H2 → td σ H2 Q
theorem rp_v {i : Nat} : RP (tVar i) (vE i) := fun {B E S σ I H} r {d S'} e => by
  unfold vE at e
  split at e
  · rename_i d' q
    cases e
    obtain ⟨x, hx, hd⟩ := r.v i d q
    exact ⟨rfl, x, hd, fun _ _ _ H2 _ _ _ k => ⟨x, hx, k⟩⟩
  · cases e
theorem rp_fld {K : PySem.W.Frag} {C : Addr} {f : Str} {ta : TE} {fa : FE} (cl : Cls K C) (na : NoAttr K C f) (h : RP ta fa) : RP (tFld K ta f) (fldE C f fa) := fun {B E S σ I H} r {d S'} e => by
  unfold fldE at e
  split at e
  · rename_i C' fs S1 q
    split at e
    · rename_i hC
      subst hC
      split at e
      · rename_i d' q2
        cases e
        obtain ⟨rfl, v, hd, run⟩ := h r q
        obtain ⟨a, dx, kvs, rfl, hr, hl⟩ := hd.toI
        obtain ⟨w, h1, h2⟩ := denP_lookup hl q2
        exact ⟨rfl, w, h2, fun B2 S2 I2 H2 s2 l2 {Q} k => run B2 S2 I2 H2 s2 l2 ⟨a, C', dx, kvs, w, rfl, s2.exI (l2 _ _ (fun _ _ => nofun) hr), cl, na, h1, k⟩⟩
      · cases e
    · cases e
  · cases e
theorem rp_ix {K : PySem.W.Frag} {ta : TE} {fa : FE} {i : Int} (h : RP ta fa) : RP (fun σ H Q => tOp (rIx K) ta (tC (.int i)) σ H Q ∨ tDGet ta (tC (.int i)) σ H Q) (opE ixD fa (cE (.int i))) := fun {B E S σ I H} r {d S'} e => by
  obtain ⟨x, S1, y, q1, q2, q3⟩ := opE_some.mp e
  cases q2
  obtain ⟨rfl, v, hd, run⟩ := h r q1
  refine ⟨rfl, ?_⟩
  unfold ixD at q3
  split at q3
  · rename_i xs i' hi
    cases hi
    obtain ⟨p, vs, rfl, hr, hl⟩ := hd.toL
    obtain ⟨w, h1, h2⟩ := denL_atI hl q3
    exact ⟨w, h2, fun B2 S2 I2 H2 s2 l2 {Q} k => .inl (run B2 S2 I2 H2 s2 l2 (.inl ⟨p, vs, i, w, rfl, rfl, SqL.of (s2.exL (l2 _ _ (fun _ _ => nofun) hr)), h1, k⟩))⟩
  · rename_i xs i' hi
    cases hi
    obtain ⟨p, vs, rfl, hr, hl⟩ := hd.toT
    obtain ⟨w, h1, h2⟩ := denL_atI hl q3
    exact ⟨w, h2, fun B2 S2 I2 H2 s2 l2 {Q} k => .inl (run B2 S2 I2 H2 s2 l2 (.inr (.inl ⟨p, vs, i, w, rfl, rfl, SqT.of (s2.exT (l2 _ _ (fun _ _ => nofun) hr)), h1, k⟩)))⟩
  · rename_i z i' hi
    cases hi
    split at q3
    · rename_i hz
      cases q : atI z.cps.toList i with
      | none => rw [q] at q3; cases q3
      | some ch =>
        rw [q] at q3
        cases q3
        cases den_str hd
        exact ⟨_, .str _, fun B2 S2 I2 H2 s2 l2 {Q} k => .inl (run B2 S2 I2 H2 s2 l2 (.inr (.inr ⟨z, i, ch, rfl, rfl, Nat.le_trans hz (by decide), q, k⟩)))⟩
    · cases q3
  · cases q3
theorem rp_e {td : TE} {fd : FE} (h : RP td fd) : RE td fd := fun {B E S σ I H} r {d S'} e {Q} k => by
  obtain ⟨rfl, v, hd, run⟩ := h r e
  exact run B S' I H r.st le_rfl.w (k v I H r le_rfl hd)
/-! ### for k in d, [.. for k in d ..] -/
def keysF (fd : FE) : FI := fun E S => match fd E S with
  | some (.dic kds, S1) => some (kds.map fun p => kD p.1, S1)
  | some (.dtk kds, S1) => some (kds.map fun p => .tup (p.1.map kD), S1)
  | _ => none
/-- the dict that a path leads to is locked -/
def Lkd (td : TE) (fd : FE) (B : Bs) (E : Ev) (S : Sm) (σ : St) (I : Hp) : Prop := ∀ dd S', fd E S = some (dd, S') → S' = S ∧ ∃ d o u, I d = some (.frz o u) ∧ Den B.c I (.ref d) dd ∧ ((∃ kvs, u = .dK kvs) ∨ ∃ kvs, u = .dT kvs) ∧
  ∀ {H2 : Hp} {Q : VK}, Stt B I H2 S → Q (.ref d) H2 → td σ H2 Q
theorem keys_at {td : TE} {fd : FE} {B : Bs} {E : Ev} {S : Sm} {σ : St} {I H : Hp} (r : R B E S σ I H) (lk : Lkd td fd B E S σ I) : ∀ {items : List D} {S' : Sm}, keysF fd E S = some (items, S') → ∀ {Rq : It → Hp → Prop}, (∀ J I' H', R B E S' σ I' H' → Le I I' → ItD B.c J I' items → Rq J H') → iKeys td σ H Rq := fun {items S'} e {Rq} k => by
  unfold keysF at e
  split at e
  · rename_i kds S1 q
    cases e
    obtain ⟨rfl, d, o, u, hd, hden, hu, run⟩ := lk _ _ q
    obtain ⟨a, kvs, ea, hr, hl⟩ := hden.toD
    cases ea
    have : u = .dK kvs := by
      rcases hr with h | ⟨o', h⟩ <;> rw [hd] at h <;> cases h
      rfl
    subst this
    exact run r.st ⟨d, o, rfl, .inl ⟨kvs, r.st.sub _ _ hd, k _ I H r le_rfl (it_keys hd hl.keys)⟩⟩
  · rename_i kds S1 q
    cases e
    obtain ⟨rfl, d, o, u, hd, hden, hu, run⟩ := lk _ _ q
    obtain ⟨a, kvs, ea, hr, hl⟩ := hden.toK
    cases ea
    have : u = .dT kvs := by
      rcases hr with h | ⟨o', h⟩ <;> rw [hd] at h <;> cases h
      rfl
    subst this
    exact run r.st ⟨d, o, rfl, .inr ⟨kvs, r.st.sub _ _ hd, k _ I H r le_rfl (it_keysT hd hl.keys)⟩⟩
  · cases e
/-- a path to a dict: locked already, or to be locked -/
theorem lock_or {td : TE} {fd : FE} (h : RP td fd) {B : Bs} {E : Ev} {S : Sm} {σ : St} {I H : Hp} (r : R B E S σ I H) {items : List D} {S' : Sm} (e : keysF fd E S = some (items, S')) :
    Lkd td fd B E S σ I ∨ ∃ d u, I d = some u ∧ ((∃ kvs, u = .dK kvs) ∨ ∃ kvs, u = .dT kvs) ∧ ∀ o, Lkd td fd (B.lockd d o u) E S σ (upd I d (.frz o u)) := by
  have go : ∀ dd S1, fd E S = some (dd, S1) → ∀ (u : HO) (d : Addr), Rd I d u → ((∃ kvs, u = .dK kvs) ∨ ∃ kvs, u = .dT kvs) → S1 = S ∧ Den B.c I (.ref d) dd ∧ (∀ (B2 : Bs) (S2 : Sm) (I2 H2 : Hp), Stt B2 I2 H2 S2 → Lw I I2 → ∀ {Q : VK}, Q (.ref d) H2 → td σ H2 Q) →
      Lkd td fd B E S σ I ∨ ∃ d u, I d = some u ∧ ((∃ kvs, u = .dK kvs) ∨ ∃ kvs, u = .dT kvs) ∧ ∀ o, Lkd td fd (B.lockd d o u) E S σ (upd I d (.frz o u)) := by
    rintro dd S1 q u d hr hu ⟨rfl, hd, run⟩
    rcases hr with hr | ⟨o, hr⟩
    · refine .inr ⟨d, u, hr, hu, fun o dd' S'' q' => ?_⟩
      rw [q] at q'
      cases q'
      have lw : Lw I (upd I d (.frz o u)) := (r.lock hr hu o).2
      exact ⟨rfl, d, o, u, upd_same, hd.monoW lw, hu, fun {H2 Q} s2 k => run (B.lockd d o u) _ _ H2 s2 lw k⟩
    · refine .inl fun dd' S'' q' => ?_
      rw [q] at q'
      cases q'
      exact ⟨rfl, d, o, u, hr, hd, hu, fun {H2 Q} s2 k => run B _ _ H2 s2 le_rfl.w k⟩
  unfold keysF at e
  split at e
  · rename_i kds S1 q
    obtain ⟨h1, v, hd, run⟩ := h r q
    obtain ⟨d, kvs, rfl, hr, hl⟩ := hd.toD
    exact go _ _ q _ d hr (.inl ⟨_, rfl⟩) ⟨h1, hd, run⟩
  · rename_i kds S1 q
    obtain ⟨h1, v, hd, run⟩ := h r q
    obtain ⟨d, kvs, rfl, hr, hl⟩ := hd.toK
    exact go _ _ q _ d hr (.inr ⟨_, rfl⟩) ⟨h1, hd, run⟩
  · cases e
theorem mut_dict {u : HO} (hu : (∃ kvs, u = .dK kvs) ∨ ∃ kvs, u = .dT kvs) : Mut (some u) := by
  rcases hu with ⟨_, rfl⟩ | ⟨_, rfl⟩ <;> exact True.intro
theorem lcE_fi {fi : FI} {tg : TgD} {c : FT} {fe : FE} {own : List Nat} {E : Ev} {S Sf : Sm} {dd : D} (e : lcE fi tg c fe own E S = some (dd, Sf)) : ∃ items S1, fi E S = some (items, S1) := by
  unfold lcE at e
  split at e
  · rename_i items S1 q
    exact ⟨items, S1, q⟩
  · cases e
theorem forS_fi {fi : FI} {tg : TgD} {body : FS} {E : Ev} {S : Sm} {w : Out × Ev × Sm} (e : forS fi tg body E S = some w) : ∃ items S1, fi E S = some (items, S1) := by
  unfold forS at e
  split at e
  · rename_i items S1 q
    exact ⟨items, S1, q⟩
  · cases e
theorem rf_lcK {td : TE} {fd : FE} {g : TG} {tg : TgD} {own : List Nat} {tt : TT} {c : FT} {te : TE} {fe : FE} (hd : RP td fd) (hg : RG g tg own) (ht : RT tt c) (he : RE te fe) :
    RF (fun σ H Q => tLockE (tLc (iKeys td) g tt te own) σ H Q ∨ tLc (iKeys td) g tt te own σ H Q) (lcE (keysF fd) tg c fe own) := fun {B E S σ I H} r {dd Sf} e {Q} k => by
  obtain ⟨items, S1, hf⟩ := lcE_fi e
  rcases lock_or hd r hf with lk | ⟨d, u, hI, hu, lk⟩
  · exact .inr (lc_at hg ht he r (keys_at r lk) e k)
  · refine .inl ⟨d, u, r.st.sub _ _ hI, mut_dict hu, fun od => ?_⟩
    obtain ⟨r1, l1⟩ := r.lock hI hu od
    refine lc_at hg ht he r1 (keys_at r1 (lk od)) e fun v I' H' r' l' fr => ?_
    have hd' : I' d = some (.frz od u) := lock_stays r'.st (l' _ _ (.inl upd_same))
    have r2 := r'.unlock hd' hu (r.st.free hI hu)
    refine ⟨r'.st.sub _ _ hd', k v _ _ r2 (unlock_le hI l') ?_⟩
    obtain ⟨p, w, rfl, h1, h2, h3, h4, h5⟩ := fr
    have : p ≠ d := fun e => by rw [e, hd'] at h1; cases h1
    exact ⟨p, w, rfl, by rw [upd_ne this]; exact h1, h2, by rw [upd_ne this]; exact h3, h4.monoW (unlock_lw hd'), h5⟩
theorem rs_forK {td : TE} {fd : FE} {g : TG} {tg : TgD} {own : List Nat} {tb : TS} {body : FS} (hd : RP td fd) (hg : RG g tg own) (hb : RS tb body) :
    RS (fun Dn σ H => tLock (tFor (iKeys td) g tb) Dn σ H ∨ tFor (iKeys td) g tb Dn σ H) (forS (keysF fd) tg body) := fun {B E S σ I H} r {o Ef Sf} e {Dn} k => by
  obtain ⟨items, S1, hf⟩ := forS_fi e
  rcases lock_or hd r hf with lk | ⟨d, u, hI, hu, lk⟩
  · exact .inr (for_at hg hb r (keys_at r lk) e k)
  · refine .inl ⟨d, u, r.st.sub _ _ hI, mut_dict hu, fun od => ?_⟩
    obtain ⟨r1, l1⟩ := r.lock hI hu od
    refine for_at hg hb r1 (keys_at r1 (lk od)) e ?_
    have un : ∀ {σ' I' H'}, R (B.lockd d od u) Ef Sf σ' I' H' → Le (upd I d (.frz od u)) I' → H' d = some (.frz od u) ∧ R B Ef Sf σ' (upd I' d u) (upd H' d u) ∧ Le I (upd I' d u) := fun {σ' I' H'} r' l' => by
      have hd' : I' d = some (.frz od u) := lock_stays r'.st (l' _ _ (.inl upd_same))
      exact ⟨r'.st.sub _ _ hd', r'.unlock hd' hu (r.st.free hI hu), unlock_le hI l'⟩
    cases o with
    | nx => exact fun σ' I' H' r' l' => ⟨(un r' l').1, k σ' _ _ (un r' l').2.1 (un r' l').2.2⟩
    | bk => exact fun σ' I' H' r' l' => ⟨(un r' l').1, k σ' _ _ (un r' l').2.1 (un r' l').2.2⟩
    | ct => exact fun σ' I' H' r' l' => ⟨(un r' l').1, k σ' _ _ (un r' l').2.1 (un r' l').2.2⟩
    | rt dd =>
      refine fun v I' H' s' l' hden => ?_
      have hd' : I' d = some (.frz od u) := lock_stays s' (l' _ _ (.inl upd_same))
      exact ⟨s'.sub _ _ hd', k v _ _ (s'.unlock hd' hu (r.st.free hI hu)) (unlock_le hI l') (hden.monoW (unlock_lw hd'))⟩
theorem ps_or {X : Cx} {st : Stmt} {t u : TS} (h : PS X st t) (h' : PS X st u) : PS X st (fun D σ H => t D σ H ∨ u D σ H) := ⟨fun pins s σ H D I hw => by
  rcases hw with hw | hw
  · exact h.run pins s σ H D I hw
  · exact h'.run pins s σ H D I hw⟩
theorem pt_or {X : Cx} {e : Expr} {t u : TT} (h : PT X e t) (h' : PT X e u) : PT X e (fun σ H Q => t σ H Q ∨ u σ H Q) := ⟨fun pins s σ H Q I hw => by
  rcases hw with hw | hw
  · exact h.run pins s σ H Q I hw
  · exact h'.run pins s σ H Q I hw⟩
end M

set_option Elab.async false
set_option linter.all false
set_option maxRecDepth 100000
set_option maxHeartbeats 4000000
namespace M
open PySem L2

/-! ### lists: +, *; tuples: + -/
def catL : Op2
  | .lst a, .lst b => if a.length + b.length ≤ 1000000 then some (.lst (a ++ b)) else none
  | _, _ => none
theorem denL_app {c : Option Addr} {I : Hp} {vs ws : List V} {ds es : List D} (h : DenL c I vs ds) (h2 : DenL c I ws es) : DenL c I (vs ++ ws) (ds ++ es) := by
  induction h with
  | nil => exact h2
  | cons r _ ih => exact .cons r ih
theorem rbf_cat : RBF rCat catL := fun {B E S σ I H} r {x y a b c} hx hy e {Q} k => by
  unfold catL at e
  split at e
  · rename_i a b
    split at e <;> cases e
    rename_i hl
    obtain ⟨p, vs, rfl, hr, h1⟩ := hx.toL
    obtain ⟨q, ws, rfl, hr2, h2⟩ := hy.toL
    refine ⟨p, q, vs, ws, rfl, rfl, r.st.exL hr, r.st.exL hr2, ?_, fun p' hp => k _ I _ (r.alloc hp) le_rfl (r.fresh hp (.lst (denL_app h1 h2)))⟩
    rw [Paired.length h1, Paired.length h2]
    exact Nat.le_trans hl (by decide)
  · cases e
def catT : Op2
  | .tup a, .tup b => if a.length + b.length ≤ 1000000 then some (.tup (a ++ b)) else none
  | _, _ => none
theorem rb_catT {K : PySem.W.Frag} : RB (rCatA K) catT := fun {B E S σ I H} r {x y a b c} hx hy e {Q} k => by
  unfold catT at e
  split at e
  · rename_i a b
    split at e <;> cases e
    rename_i hl
    obtain ⟨p, vs, rfl, hr, h1⟩ := hx.toT
    obtain ⟨q, ws, rfl, hr2, h2⟩ := hy.toT
    have hd := denL_app h1 h2
    unfold rCatA
    have hlen : vs.length + ws.length ≤ sizeLine := by
      rw [Paired.length h1, Paired.length h2]
      exact Nat.le_trans hl (by decide)
    refine ⟨p, q, vs, ws, rfl, rfl, exT r hr, exT r hr2, hlen, fun z => ?_, fun _ z => ?_, fun _ _ p' hp => ?_⟩
    · subst z
      cases h1
      exact k _ I H r le_rfl (den_tup hr2 hd)
    · subst z
      cases h2
      refine k _ I H r le_rfl (den_tup hr ?_)
      rw [List.append_nil]
      exact h1
    · obtain ⟨I2, r2, l2, hd2⟩ := newT r hp hd
      exact k _ I2 _ r2 l2 hd2
  · cases e
def repL : Op2
  | .lst a, .int n => if n ≤ 100000 ∧ -100000 ≤ n ∧ a.length * n.toNat ≤ 1000000 then some (.lst (List.replicate n.toNat a).flatten) else none
  | _, _ => none
theorem denL_rep {c : Option Addr} {I : Hp} {vs : List V} {ds : List D} (h : DenL c I vs ds) : ∀ n : Nat, DenL c I (List.replicate n vs).flatten (List.replicate n ds).flatten
  | 0 => .nil
  | n + 1 => by
    rw [List.replicate_succ, List.replicate_succ, List.flatten_cons, List.flatten_cons]
    exact denL_app h (denL_rep h n)
theorem rbf_rep : RBF rRep repL := fun {B E S σ I H} r {x y a b c} hx hy e {Q} k => by
  unfold repL at e
  split at e
  · rename_i a n
    split at e <;> cases e
    rename_i hl
    obtain ⟨p, vs, rfl, hr, h1⟩ := hx.toL
    refine ⟨p, n, vs, rfl, den_int hy, r.st.exL hr, by omega, by omega, ?_, fun p' hp => k _ I _ (r.alloc hp) le_rfl (r.fresh hp (.lst (denL_rep h1 _)))⟩
    rw [Paired.length h1]
    exact Nat.le_trans hl.2.2 (by decide)
  · cases e
/-- + and * of anything met -/
def addA : Op2 := orO addI (orO addS catL)
theorem rb_addA : RB (fun x y H Q => rI0 (fun i j => .int (i + j)) x y H Q ∨ (∃ i j, x = V.str i ∧ y = .str j ∧ i.length + j.length ≤ sizeLine ∧ Q (.str (i ++ j)) H) ∨ rCat x y H Q) addA := rb_or rb_add (rb_or rb_addS rbf_cat.b)
theorem op_addA {X : Cx} : OpR X (binaryOp .Add) (fun x y H Q => rI0 (fun i j => .int (i + j)) x y H Q ∨ (∃ i j, x = V.str i ∧ y = .str j ∧ i.length + j.length ≤ sizeLine ∧ Q (.str (i ++ j)) H) ∨ rCat x y H Q) := OpR.or op_add (OpR.or op_add_str op_cat)
def mulA : Op2 := orO mulI repL
theorem rb_mulA : RB (fun x y H Q => rI CMul (fun i j => .int (i * j)) x y H Q ∨ rRep x y H Q) mulA := rb_or rb_mul rbf_rep.b
theorem op_mulA {X : Cx} : OpR X (binaryOp .Mult) (fun x y H Q => rI CMul (fun i j => .int (i * j)) x y H Q ∨ rRep x y H Q) := OpR.or op_mul op_rep
def ltA : Op2 := orO ltI ltS
theorem rb_ltA : RB (fun x y H Q => rI0 (fun i j => .bl (decide (i < j))) x y H Q ∨ (∃ i j, x = V.str i ∧ y = .str j ∧ Q (.bl (decide (i.cps.toList < j.cps.toList))) H)) ltA := rb_or rb_lt rb_ltS
theorem op_ltA {X : Cx} : OpR X (compareOp .Lt) (fun x y H Q => rI0 (fun i j => .bl (decide (i < j))) x y H Q ∨ (∃ i j, x = V.str i ∧ y = .str j ∧ Q (.bl (decide (i.cps.toList < j.cps.toList))) H)) := OpR.or op_lt op_lt_str
def negU (f : FE) : FE := fun E S => match f E S with
  | some (.int i, S1) => some (.int (-i), S1)
  | _ => none
theorem re_neg {ta : TE} {f : FE} (h : RE ta f) : RE (tUn (rU fun i => .int (-i)) ta) (negU f) := fun {B E S σ I H} r {d S'} e {Q} k => by
  unfold negU at e
  split at e
  · rename_i i S1 q
    cases e
    exact h r q fun v I' H' r' l hd => ⟨i, den_int hd, k _ I' H' r' l (.int _)⟩
  · cases e

/-! ### slices -/
abbrev FO := Ev → Sm → Option (Option Int × Sm)
def RO (t : TO) (f : FO) : Prop := ∀ {B : Bs} {E : Ev} {S : Sm} {σ : St} {I H : Hp}, R B E S σ I H → ∀ {o : Option Int} {S' : Sm}, f E S = some (o, S') → ∀ {Q : Option Int → Hp → Prop}, (∀ I' H', R B E S' σ I' H' → Le I I' → Q o H') → t σ H Q
def noO : FO := fun _ S => some (none, S)
def someO (f : FE) : FO := fun E S => match f E S with
  | some (.int i, S1) => some (some i, S1)
  | _ => none
theorem ro_none : RO tNoPart noO := fun {B E S σ I H} r {o S'} e {Q} k => by
  cases e
  exact k I H r le_rfl
theorem ro_some {ta : TE} {f : FE} (h : RE ta f) : RO (tPart ta) (someO f) := fun {B E S σ I H} r {o S'} e {Q} k => by
  unfold someO at e
  split at e
  · rename_i i S1 q
    cases e
    exact h r q fun v I' H' r' l hd => ⟨i, den_int hd, k I' H' r' l⟩
  · cases e
def cutG {α : Type} (xs : List α) (lo hi : Option Int) : List α := (xs.drop (HT.sIx xs.length 0 lo)).take (HT.sIx xs.length xs.length hi - HT.sIx xs.length 0 lo)
theorem denL_drop {c : Option Addr} {I : Hp} : ∀ {vs : List V} {ds : List D}, DenL c I vs ds → ∀ n : Nat, DenL c I (vs.drop n) (ds.drop n)
  | _, _, h, 0 => h
  | _, _, .nil, _ + 1 => .nil
  | _, _, .cons _ t, n + 1 => denL_drop t n
theorem denL_take {c : Option Addr} {I : Hp} : ∀ {vs : List V} {ds : List D}, DenL c I vs ds → ∀ n : Nat, DenL c I (vs.take n) (ds.take n)
  | _, _, _, 0 => by rw [List.take_zero, List.take_zero]; exact .nil
  | _, _, .nil, _ + 1 => .nil
  | _, _, .cons r t, n + 1 => .cons r (denL_take t n)
theorem denL_cut {c : Option Addr} {I : Hp} {vs : List V} {ds : List D} (h : DenL c I vs ds) (lo hi : Option Int) : DenL c I (cutV vs lo hi) (cutG ds lo hi) := by
  unfold cutV cutG
  rw [Paired.length h]
  exact denL_take (denL_drop h _) _
def slD (d : D) (lo hi : Option Int) : Option D := match d with
  | .lst xs => some (.lst (cutG xs lo hi))
  | .tup xs => some (.tup (cutG xs lo hi))
  | .str z => if z.length ≤ 10000000 then some (.str (cutS z lo hi)) else none
  | _ => none
def slE (f : FE) (fl fh : FO) : FE := fun E S => match f E S with
  | some (d, S1) => match fl E S1 with
    | some (lo, S2) => match fh E S2 with
      | some (hi, S3) => match slD d lo hi with
        | some x => some (x, S3)
        | none => none
      | none => none
    | none => none
  | none => none
def rSlAll (K : PySem.W.Frag) : V → Option Int → Option Int → Hp → VK → Prop := fun x lo hi H Q => rSlL K x lo hi H Q ∨ rSlA K x lo hi H Q ∨ rSlS x lo hi H Q
theorem sl_all {X : Cx} : SlR X (rSlAll X.K) := SlR.or sl_list (SlR.or sl_tupA sl_str)
theorem cut_whole {α : Type} {xs : List α} {lo hi : Option Int} (h : HT.sIx xs.length 0 lo = 0 ∧ HT.sIx xs.length xs.length hi = xs.length) : cutG xs lo hi = xs := by
  unfold cutG
  rw [h.1, h.2]
  simp
theorem re_sl {K : PySem.W.Frag} {ta : TE} {f : FE} {tl th : TO} {fl fh : FO} (ha : RE ta f) (hl : RO tl fl) (hh : RO th fh) : RE (tSl (rSlAll K) ta tl th) (slE f fl fh) := fun {B E S σ I H} r {d S'} e {Q} k => by
  unfold slE at e
  split at e
  · rename_i x S1 q1
    split at e
    · rename_i lo S2 q2
      split at e
      · rename_i hi S3 q3
        split at e
        · rename_i y q4
          cases e
          refine ha r q1 fun v I1 H1 r1 l1 h1 => hl r1 q2 fun I2 H2 r2 l2 => hh r2 q3 fun I3 H3 r3 l3 => ?_
          have hd := h1.mono (l2.trans l3)
          have L := l1.trans (l2.trans l3)
          unfold slD at q4
          split at q4
          · cases q4
            obtain ⟨a, vs, rfl, hr, hv⟩ := hd.toL
            refine .inl ⟨a, vs, rfl, exL r3 hr, fun p hp => ?_⟩
            obtain ⟨I4, r4, l4, hd4⟩ := (r3.alloc hp).freeze (r3.fresh hp (.lst (denL_cut hv lo hi)))
            exact k _ I4 _ r4 (L.trans l4) hd4
          · cases q4
            rename_i xs
            obtain ⟨a, vs, rfl, hr, hv⟩ := hd.toT
            refine .inr (.inl ⟨a, vs, rfl, exT r3 hr, fun hw => ?_, fun _ p hp => ?_⟩)
            · rw [Paired.length hv] at hw
              rw [cut_whole hw] at k
              exact k _ I3 H3 r3 L hd
            · obtain ⟨I4, r4, l4, hd4⟩ := newT r3 hp (denL_cut hv lo hi)
              exact k _ I4 _ r4 (L.trans l4) hd4
          · split at q4 <;> cases q4
            rename_i z hz
            exact .inr (.inr ⟨z, den_str hd, Nat.le_trans hz (by decide), k _ I3 H3 r3 L (.str _)⟩)
          · cases q4
        · cases e
      · cases e
    · cases e
  · cases e

/-! ### isinstance, of built-in classes -/
def kindD : D → Option String
  | .non => some "NoneType"
  | .bl _ => some "bool"
  | .int _ => some "int"
  | .str _ => some "str"
  | .lst _ => some "list"
  | .tup _ => some "tuple"
  | .dic _ => some "dict"
  | _ => none
theorem den_ty {K : PySem.W.Frag} {B : Bs} {I H : Hp} {S : Sm} (s : Stt B I H S) {v : V} {d : D} {t : String} (h : Den B.c I v d) (e : kindD d = some t) : TyX K H v (.type t) := by
  cases d with
  | non => cases e; cases den_non h; exact .base .non
  | bl b => cases e; cases den_bl h; exact .base (.bl b)
  | int b => cases e; cases den_int h; exact .base (.int b)
  | str b => cases e; cases den_str h; exact .base (.str b)
  | lst xs => cases e; obtain ⟨a, vs, rfl, hr, _⟩ := h.toL; exact .base (.lst (s.exL hr))
  | tup xs => cases e; obtain ⟨a, vs, rfl, hr, _⟩ := h.toT; exact .base (.tup (s.exT hr))
  | dic xs =>
    cases e
    obtain ⟨a, vs, rfl, hr, _⟩ := h.toD
    rcases hr with hr | ⟨o, hr⟩
    · exact .base (.dK (s.sub _ _ hr))
    · exact .fDict (s.sub _ _ hr)
  | dtk xs => cases e
  | ins C fs => cases e
  | strm => cases e
  | far a => cases e
/-- what isinstance answers for two built-in types -/
def tyB (a b : String) : Bool := decide (a = b) || (decide (a = "bool") && decide (b = "int"))
def isB (ns : List String) (d : D) : Option D := (kindD d).map fun t => .bl (ns.any fun n => tyB t n)
def kinds : List String := ["NoneType", "bool", "int", "str", "list", "tuple", "dict"]
def classes : List String := ["bool", "int", "str", "list", "tuple", "dict"]
theorem kit_all : kinds.all (fun a => classes.all fun b => decide (kitB a b = some (tyB a b))) = true := by decide +kernel
theorem kit_one {K : PySem.W.Frag} {a b : String} (ha : a ∈ kinds) (hb : b ∈ classes) : PySem.W.kitOne K (.type a) (.type b) = some (tyB a b) := by
  have h := kit_all
  rw [List.all_eq_true] at h
  have h2 := h a ha
  rw [List.all_eq_true] at h2
  exact kit_ty (of_decide_eq_true (h2 b hb))
theorem kind_mem {d : D} {t : String} (e : kindD d = some t) : t ∈ kinds := by
  cases d <;> cases e <;> decide
theorem kit_any {K : PySem.W.Frag} {a : String} (ha : a ∈ kinds) : ∀ {ns : List String}, (∀ n ∈ ns, n ∈ classes) → PySem.W.kitAny K (.type a) (ns.map Value.type) = some (ns.any fun n => tyB a n)
  | [], _ => kitAny_nil
  | n :: ns, h => by
    rw [List.map_cons, List.any_cons]
    refine kitAny_cons (kit_one ha (h n List.mem_cons_self)) (fun e => ?_) fun e => by rw [e, Bool.true_or]
    rw [e, Bool.false_or]
    exact kit_any ha fun m hm => h m (List.mem_cons_of_mem _ hm)
def isE (ns : List String) (f : FE) : FE := fun E S => match f E S with
  | some (d, S1) => match isB ns d with
    | some x => some (x, S1)
    | none => none
  | none => none
theorem re_is1 {K : PySem.W.Frag} {n : String} {ta : TE} {f : FE} (hn : n ∈ classes) (h : RE ta f) : RE (tCB (rIsi K) (tCons ta (tCons (tC (.ty n)) tNil))) (isE [n] f) := fun {B E S σ I H} r {d S'} e {Q} k => by
  unfold isE at e
  split at e
  · rename_i x S1 q
    split at e
    · rename_i y q2
      cases e
      unfold isB at q2
      cases q3 : kindD x with
      | none => rw [q3] at q2; cases q2
      | some t =>
        rw [q3] at q2
        cases q2
        refine h r q fun v I' H' r' l hd => ⟨v, .ty n, .type t, .type n, tyB t n, rfl, .ty n, den_ty r'.st hd q3, kit_one (kind_mem q3) hn, ?_⟩
        have : (tyB t n) = [n].any fun n => tyB t n := by simp
        rw [this]
        exact k _ I' H' r' l (.bl _)
    · cases e
  · cases e
def tTys : List String → TA
  | [] => tNil
  | n :: r => tCons (tC (.ty n)) (tTys r)
theorem tTys_run {σ : St} {H : Hp} {Q : List V → Hp → Prop} : ∀ {ns : List String}, Q (ns.map V.ty) H → tTys ns σ H Q
  | [], h => h
  | n :: r, h => tTys_run (ns := r) (Q := fun xs H2 => Q (V.ty n :: xs) H2) h
theorem clsV_all : ∀ ns : List String, Paired ClsV (ns.map V.ty) (ns.map Value.type)
  | [] => .nil
  | n :: r => .cons (.ty n) (clsV_all r)
theorem re_isT {K : PySem.W.Frag} {ns : List String} {ta : TE} {f : FE} (hn : ∀ n ∈ ns, n ∈ classes) (hl : ns.length ≤ 100) (h : RE ta f) : RE (tCB (rIsiT K) (tCons ta (tCons (tTup (tTys ns)) tNil))) (isE ns f) := fun {B E S σ I H} r {d S'} e {Q} k => by
  unfold isE at e
  split at e
  · rename_i x S1 q
    split at e
    · rename_i y q2
      cases e
      unfold isB at q2
      cases q3 : kindD x with
      | none => rw [q3] at q2; cases q2
      | some t =>
        rw [q3] at q2
        cases q2
        refine h r q fun v I' H' r' l hd => tTys_run ⟨by rw [List.length_map]; exact Nat.le_trans hl (by decide), fun p hp => ?_⟩
        have r2 := r'.alloc (u := .tup (ns.map V.ty)) hp
        exact ⟨v, p, ns.map V.ty, .type t, ns.map Value.type, _, rfl, upd_same, clsV_all ns, den_ty r2.st hd q3, kit_any (kind_mem q3) hn, k _ I' _ r2 l (.bl _)⟩
    · cases e
  · cases e
/-- isinstance of an own class, of its own instances alone -/
def isCE (C : Addr) (f : FE) : FE := fun E S => match f E S with
  | some (.ins C' _, S1) => if C' = C then some (.bl true, S1) else none
  | _ => none
structure OwnC (K : PySem.W.Frag) (C : Addr) : Prop where
  cl : Cls K C
  a : PySem.W.findIn K (.ref C) "__class__" = some (some (.builtin "object.__class__"))
  n : PySem.W.specialIn K (.builtin "object.__class__") "__get__" = some (some (.builtin "getset_descriptor.__get__"))
  tk : PySem.W.takesIn K (.builtin "object.__class__") = some true
  m : PySem.W.mroIn K C (.type "object") = some true
  one : PySem.W.kitOne K (.ref C) (.ref C) = some true
theorem re_isC {K : PySem.W.Frag} {C : Addr} {ta : TE} {f : FE} (O : OwnC K C) (h : RE ta f) : RE (tCB (rIsi K) (tCons ta (tCons (tC (.ref C)) tNil))) (isCE C f) := fun {B E S σ I H} r {d S'} e {Q} k => by
  unfold isCE at e
  split at e
  · rename_i C' fs S1 q
    split at e <;> cases e
    rename_i hC
    subst hC
    refine h r q fun v I' H' r' l hd => ?_
    obtain ⟨a, dx, kvs, rfl, hr, hl⟩ := hd.toI
    exact ⟨.ref a, .ref C', .ref C', .ref C', true, rfl, .own C', .base (.ins (r'.st.exI hr) O.cl O.a O.n O.tk O.m), O.one, k _ I' H' r' l (.bl true)⟩
  · cases e
end M

set_option Elab.async false
set_option linter.all false
set_option maxRecDepth 100000
set_option maxHeartbeats 4000000
namespace M
open PySem L2

/-! ### list(..), tuple(..), sorted(texts), dict(pairs), min, max -/
def listN : OpN
  | [.lst xs] => some (.lst xs)
  | [.tup xs] => some (.lst xs)
  | _ => none
theorem rcf_list {K : PySem.W.Frag} : RCF (fun xs H Q => ∃ p ys, xs = [.ref p] ∧ (SqL K H p ys ∨ SqT K H p ys) ∧ ∀ l, H l = none → Q (.ref l) (upd H l (.lst ys))) listN := fun {B E S σ I H} r {vs ds d} hv e {Q} k => by
  unfold listN at e
  split at e
  · cases e
    obtain ⟨v, rfl, h⟩ := one1 hv
    obtain ⟨a, ws, rfl, hr, hl⟩ := h.toL
    exact ⟨a, ws, rfl, .inl (exL r hr), fun l hp => k _ I _ (r.alloc hp) le_rfl (r.fresh hp (.lst hl))⟩
  · cases e
    obtain ⟨v, rfl, h⟩ := one1 hv
    obtain ⟨a, ws, rfl, hr, hl⟩ := h.toT
    exact ⟨a, ws, rfl, .inr (exT r hr), fun l hp => k _ I _ (r.alloc hp) le_rfl (r.fresh hp (.lst hl))⟩
  · cases e
def tupN : OpN
  | [.lst xs] => some (.tup xs)
  | [.tup xs] => some (.tup xs)
  | _ => none
theorem rc_tuple {K : PySem.W.Frag} : RC (fun xs H Q => ∃ p ys, xs = [.ref p] ∧ ((SqL K H p ys ∧ ∀ l, H l = none → Q (.ref l) (upd H l (.tup ys))) ∨ (SqT K H p ys ∧ Q (.ref p) H))) tupN := fun {B E S σ I H} r {vs ds d} hv e {Q} k => by
  unfold tupN at e
  split at e
  · cases e
    obtain ⟨v, rfl, h⟩ := one1 hv
    obtain ⟨a, ws, rfl, hr, hl⟩ := h.toL
    refine ⟨a, ws, rfl, .inl ⟨exL r hr, fun l hp => ?_⟩⟩
    obtain ⟨I2, r2, l2, hd2⟩ := newT r hp hl
    exact k _ I2 _ r2 l2 hd2
  · cases e
    obtain ⟨v, rfl, h⟩ := one1 hv
    obtain ⟨a, ws, rfl, hr, hl⟩ := h.toT
    exact ⟨a, ws, rfl, .inr ⟨exT r hr, k _ I H r le_rfl (den_tup hr hl)⟩⟩
  · cases e
def min2N : OpN
  | [.int i, .int j] => some (.int (if j < i then j else i))
  | _ => none
def max2N : OpN
  | [.int i, .int j] => some (.int (if j > i then j else i))
  | _ => none
theorem rc_min2 : RC (fun xs H Q => ∃ i j, xs = [.int i, .int j] ∧ Q (.int (if j < i then j else i)) H) min2N := fun {B E S σ I H} r {vs ds d} hv e {Q} k => by
  unfold min2N at e
  split at e
  · cases e
    obtain ⟨v, w, rfl, h1, h2⟩ := two2 hv
    cases den_int h1
    cases den_int h2
    exact ⟨_, _, rfl, k _ I H r le_rfl (.int _)⟩
  · cases e
theorem rc_max2 : RC (fun xs H Q => ∃ i j, xs = [.int i, .int j] ∧ Q (.int (if j > i then j else i)) H) max2N := fun {B E S σ I H} r {vs ds d} hv e {Q} k => by
  unfold max2N at e
  split at e
  · cases e
    obtain ⟨v, w, rfl, h1, h2⟩ := two2 hv
    cases den_int h1
    cases den_int h2
    exact ⟨_, _, rfl, k _ I H r le_rfl (.int _)⟩
  · cases e
/-- the least, the greatest of ints -/
def minI : List Int → Option Int
  | [] => none
  | [x] => some x
  | x :: y :: r => match minI (y :: r) with
    | some m => some (if x ≤ m then x else m)
    | none => none
def maxI : List Int → Option Int
  | [] => none
  | [x] => some x
  | x :: y :: r => match maxI (y :: r) with
    | some m => some (if m ≤ x then x else m)
    | none => none
theorem minI_ok : ∀ {ns : List Int} {m : Int}, minI ns = some m → m ∈ ns ∧ ∀ y ∈ ns, m ≤ y
  | [x], m, e => by cases e; exact ⟨by simp, fun y hy => by simp at hy; omega⟩
  | x :: y :: r, m, e => by
    unfold minI at e
    cases q : minI (y :: r) with
    | none => rw [q] at e; cases e
    | some n =>
      rw [q] at e
      obtain ⟨h1, h2⟩ := minI_ok q
      simp only [Option.some.injEq] at e
      subst e
      split
      · rename_i hx
        refine ⟨List.mem_cons_self, fun z hz => ?_⟩
        rcases List.mem_cons.mp hz with rfl | hz
        · exact Int.le_refl _
        · have := h2 z hz; omega
      · rename_i hx
        refine ⟨List.mem_cons_of_mem _ h1, fun z hz => ?_⟩
        rcases List.mem_cons.mp hz with rfl | hz
        · omega
        · exact h2 z hz
theorem maxI_ok : ∀ {ns : List Int} {m : Int}, maxI ns = some m → m ∈ ns ∧ ∀ y ∈ ns, y ≤ m
  | [x], m, e => by cases e; exact ⟨by simp, fun y hy => by simp at hy; omega⟩
  | x :: y :: r, m, e => by
    unfold maxI at e
    cases q : maxI (y :: r) with
    | none => rw [q] at e; cases e
    | some n =>
      rw [q] at e
      obtain ⟨h1, h2⟩ := maxI_ok q
      simp only [Option.some.injEq] at e
      subst e
      split
      · rename_i hx
        refine ⟨List.mem_cons_self, fun z hz => ?_⟩
        rcases List.mem_cons.mp hz with rfl | hz
        · exact Int.le_refl _
        · have := h2 z hz; omega
      · rename_i hx
        refine ⟨List.mem_cons_of_mem _ h1, fun z hz => ?_⟩
        rcases List.mem_cons.mp hz with rfl | hz
        · omega
        · exact h2 z hz
def minN : OpN
  | [.lst xs] => match ints? xs with
    | some ns => (minI ns).map D.int
    | none => none
  | _ => none
def maxN : OpN
  | [.lst xs] => match ints? xs with
    | some ns => (maxI ns).map D.int
    | none => none
  | _ => none
theorem rc_min {K : PySem.W.Frag} : RC (rMin K) minN := fun {B E S σ I H} r {vs ds d} hv e {Q} k => by
  unfold minN at e
  split at e
  · rename_i xs
    obtain ⟨v, rfl, h⟩ := one1 hv
    obtain ⟨a, ws, rfl, hr, hl⟩ := h.toL
    split at e
    · rename_i ns q
      cases q2 : minI ns with
      | none => rw [q2] at e; cases e
      | some m =>
        rw [q2] at e
        cases e
        obtain ⟨g1, g2⟩ := minI_ok q2
        refine ⟨a, ns, rfl, by rw [← ints_ok hl q]; exact exL r hr, List.length_pos_of_mem g1, fun m' h1 h2 => ?_⟩
        have : m' = m := Int.le_antisymm (h2 m g1) (g2 m' h1)
        subst this
        exact k _ I H r le_rfl (.int _)
    · cases e
  · cases e
theorem rc_max {K : PySem.W.Frag} : RC (rMax K) maxN := fun {B E S σ I H} r {vs ds d} hv e {Q} k => by
  unfold maxN at e
  split at e
  · rename_i xs
    obtain ⟨v, rfl, h⟩ := one1 hv
    obtain ⟨a, ws, rfl, hr, hl⟩ := h.toL
    split at e
    · rename_i ns q
      cases q2 : maxI ns with
      | none => rw [q2] at e; cases e
      | some m =>
        rw [q2] at e
        cases e
        obtain ⟨g1, g2⟩ := maxI_ok q2
        refine ⟨a, ns, rfl, by rw [← ints_ok hl q]; exact exL r hr, List.length_pos_of_mem g1, fun m' h1 h2 => ?_⟩
        have : m' = m := Int.le_antisymm (g2 m' h1) (h2 m g1)
        subst this
        exact k _ I H r le_rfl (.int _)
    · cases e
  · cases e
/-! dict(pairs) -/
def putD {κ : Type} [DecidableEq κ] (kvs : List (κ × D)) (k : κ) (v : D) : List (κ × D) :=
  if (kvs.any fun kv => decide (kv.1 = k)) = true then kvs.map (fun kv => if kv.1 = k then (kv.1, v) else kv) else kvs ++ [(k, v)]
theorem denP_any {κ : Type} [DecidableEq κ] {c : Option Addr} {I : Hp} {k : κ} : ∀ {kvs : List (κ × V)} {kds : List (κ × D)}, DenP c I kvs kds → (kvs.any fun kv => decide (kv.1 = k)) = (kds.any fun kv => decide (kv.1 = k))
  | _, _, .nil => rfl
  | _, _, .cons h t => by rw [List.any_cons, List.any_cons, denP_any t, h.1]
theorem denP_repl {κ : Type} [DecidableEq κ] {c : Option Addr} {I : Hp} (k : κ) {v : V} {d : D} (hv : Den c I v d) : ∀ {kvs : List (κ × V)} {kds : List (κ × D)}, DenP c I kvs kds → DenP c I (kvs.map fun kv => if kv.1 = k then (kv.1, v) else kv) (kds.map fun kv => if kv.1 = k then (kv.1, d) else kv)
  | _, _, .nil => .nil
  | _, _, @Paired.cons _ _ _ p q ps qs r t => by
    rw [List.map_cons, List.map_cons]
    refine .cons ?_ (denP_repl k hv t)
    by_cases e : p.1 = k
    · rw [if_pos e, if_pos (r.1.symm.trans e)]; exact ⟨r.1, hv⟩
    · rw [if_neg e, if_neg (fun z => e (r.1.trans z))]; exact r
theorem denP_put {κ : Type} [DecidableEq κ] {c : Option Addr} {I : Hp} {kvs : List (κ × V)} {kds : List (κ × D)} (h : DenP c I kvs kds) (k : κ) {v : V} {d : D} (hv : Den c I v d) : DenP c I (putK kvs k v) (putD kds k d) := by
  unfold putK putD
  rw [denP_any h]
  split
  · exact denP_repl k hv h
  · exact Paired.snoc h ⟨rfl, hv⟩
def mergeD (kvs more : List (Key × D)) : List (Key × D) := more.foldl (fun acc kv => putD acc kv.1 kv.2) kvs
theorem denP_merge {c : Option Addr} {I : Hp} : ∀ {more : List (Key × V)} {mds : List (Key × D)} {kvs : List (Key × V)} {kds : List (Key × D)}, DenP c I kvs kds → DenP c I more mds → DenP c I (mergeK kvs more) (mergeD kds mds)
  | _, _, _, _, h, .nil => h
  | _, _, kvs, kds, h, @Paired.cons _ _ _ p q ps qs r t => by
    have h2 := denP_put h p.1 r.2
    have := denP_merge h2 t
    unfold mergeK mergeD at this ⊢
    rw [List.foldl_cons, List.foldl_cons, ← r.1]
    exact this
def pairs? : List D → Option (List (Key × D))
  | [] => some []
  | .tup [k, v] :: r => match keyD k, pairs? r with
    | some k', some ps => some ((k', v) :: ps)
    | _, _ => none
  | _ => none
theorem pairs_ok {K : PySem.W.Frag} {B : Bs} {E : Ev} {S : Sm} {σ : St} {I H : Hp} (r : R B E S σ I H) : ∀ {vs : List V} {ds : List D} {kds : List (Key × D)}, DenL B.c I vs ds → pairs? ds = some kds → ∃ (ps : List Addr) (kvs : List (Key × V)), vs = ps.map V.ref ∧ Paired (fun p kv => SqT K H p [kV kv.1, kv.2]) ps kvs ∧ DenP B.c I kvs kds
  | _, _, _, .nil, e => by cases e; exact ⟨[], [], rfl, .nil, .nil⟩
  | _, _, kds, @Paired.cons _ _ _ v d vs ds h t, e => by
    unfold pairs? at e
    split at e
    · rename_i z; cases z
    · rename_i kk vv r' z
      cases z
      split at e
      · rename_i k' ps q1 q2
        cases e
        obtain ⟨p1, kvs1, rfl, g1, g2⟩ := pairs_ok r t q2
        obtain ⟨a, ws, rfl, hr, hl⟩ := h.toT
        obtain ⟨w1, w2, rfl, hw1, hw2⟩ := two2 hl
        cases key_ok hw1 q1
        exact ⟨a :: p1, (k', w2) :: kvs1, rfl, .cons (exT r hr) g1, .cons ⟨rfl, hw2⟩ g2⟩
      · cases e
    · cases e
def dictN : OpN
  | [.lst xs] => match pairs? xs with
    | some ps => some (.dic (mergeD [] ps))
    | none => none
  | _ => none
theorem rcf_dict {K : PySem.W.Frag} : RCF (fun xs H Q => ∃ (a : Addr) (ps : List Addr) (kvs : List (Key × V)), xs = [.ref a] ∧ SqL K H a (ps.map V.ref) ∧ Paired (fun p kv => SqT K H p [kV kv.1, kv.2]) ps kvs ∧ ∀ p, H p = none → Q (.ref p) (upd H p (.dK (mergeK [] kvs)))) dictN := fun {B E S σ I H} r {vs ds d} hv e {Q} k => by
  unfold dictN at e
  split at e
  · rename_i xs
    obtain ⟨v, rfl, h⟩ := one1 hv
    obtain ⟨a, ws, rfl, hr, hl⟩ := h.toL
    split at e
    · rename_i kds q
      cases e
      obtain ⟨ps, kvs, rfl, g1, g2⟩ := pairs_ok (K := K) r hl q
      exact ⟨a, ps, kvs, rfl, exL r hr, g1, fun p hp => k _ I _ (r.alloc hp) le_rfl (r.fresh hp (.dK (denP_merge .nil g2)))⟩
    · cases e
  · cases e

/-! ### one's own lists and dicts -/
def appS (i : Nat) (f : FE) : FS := fun E S => match E[i]? with
  | some (.o (.lst ds)) => match f E S with
    | some (x, S1) => if ds.length < 1000000 then some (.nx, E.set i (.o (.lst (ds ++ [x]))), S1) else none
    | none => none
  | _ => none
theorem own_lst {B : Bs} {E : Ev} {S : Sm} {σ : St} {I H : Hp} (r : R B E S σ I H) {i : Nat} {ds : List D} (h : E[i]? = some (.o (.lst ds))) : ∃ p vs, σ[i]? = some (some (.ref p)) ∧ H p = some (.lst vs) ∧ DenL B.c I vs ds := by
  obtain ⟨p, u, h1, _, _, h4, h5⟩ := r.o i _ h
  cases h5 with
  | lst h => exact ⟨p, _, h1, h4, h⟩
theorem own_dic {B : Bs} {E : Ev} {S : Sm} {σ : St} {I H : Hp} (r : R B E S σ I H) {i : Nat} {ds : List (Key × D)} (h : E[i]? = some (.o (.dic ds))) : ∃ p vs, σ[i]? = some (some (.ref p)) ∧ H p = some (.dK vs) ∧ DenP B.c I vs ds := by
  obtain ⟨p, u, h1, _, _, h4, h5⟩ := r.o i _ h
  cases h5 with
  | dK h => exact ⟨p, _, h1, h4, h⟩
theorem own_dtk {B : Bs} {E : Ev} {S : Sm} {σ : St} {I H : Hp} (r : R B E S σ I H) {i : Nat} {ds : List (List Key × D)} (h : E[i]? = some (.o (.dtk ds))) : ∃ p vs, σ[i]? = some (some (.ref p)) ∧ H p = some (.dT vs) ∧ DenP B.c I vs ds := by
  obtain ⟨p, u, h1, _, _, h4, h5⟩ := r.o i _ h
  cases h5 with
  | dT h => exact ⟨p, _, h1, h4, h⟩
theorem rs_app {K : PySem.W.Frag} {i : Nat} {te : TE} {f : FE} (h : RE te f) : RS (tDrop (tBM K "list" rAppend (tVar i) (tCons te tNil))) (appS i f) := fun {B E S σ I H} r {o E' S'} e {Dn} k => by
  unfold appS at e
  split at e
  · rename_i ds q
    split at e
    · rename_i x S1 q2
      split at e <;> cases e
      rename_i hl
      obtain ⟨p, vs, h1, h2, h3⟩ := own_lst r q
      refine ⟨.ref p, h1, .inl ⟨rfl, vs, SqL.of h2⟩, h r q2 fun v I' H' r' l hd => ?_⟩
      obtain ⟨p', vs', g1, g2, g3⟩ := own_lst r' q
      rw [h1] at g1
      cases g1
      refine ⟨p, vs', v, rfl, rfl, g2, by rw [Paired.length g3]; exact Nat.lt_of_lt_of_le hl (by decide), ?_⟩
      exact k σ I' _ (r'.mut q h1 (.lst (Paired.snoc g3 hd)) (fun _ => nofun)) l
    · cases e
  · cases e
/-- d[y] of one's own -/
def subOE (i : Nat) (f : FE) : FE := fun E S => match E[i]? with
  | some (.o d) => match f E S with
    | some (y, S1) => match orO ixD getD d y with
      | some z => some (z, S1)
      | none => none
    | none => none
  | _ => none
theorem re_subO {K : PySem.W.Frag} {i : Nat} {tb : TE} {fb : FE} (hb : RE tb fb) : RE (fun σ H Q => tOp (rIx K) (tVar i) tb σ H Q ∨ tDGet (tVar i) tb σ H Q) (subOE i fb) := fun {B E S σ I H} r {d S'} e {Q} k => by
  unfold subOE at e
  split at e
  · rename_i dd q
    split at e
    · rename_i y S1 q2
      split at e <;> cases e
      rename_i q3
      unfold orO at q3
      split at q3
      · rename_i z q4
        cases q3
        left
        unfold ixD at q4
        split at q4
        · rename_i xs j
          obtain ⟨p, vs, h1, h2, h3⟩ := own_lst r q
          refine ⟨.ref p, h1, hb r q2 fun v I' H' r' l hd => ?_⟩
          obtain ⟨p', vs', g1, g2, g3⟩ := own_lst r' q
          rw [h1] at g1
          cases g1
          obtain ⟨w, w1, w2⟩ := denL_atI g3 q4
          exact .inl ⟨p, vs', j, w, rfl, den_int hd, SqL.of g2, w1, k w I' H' r' l w2⟩
        · obtain ⟨p, u, h1, _, h3, h4, h5⟩ := r.o i _ q
          cases h5
          exact absurd rfl (h3.2.2 _)
        · obtain ⟨p, u, h1, _, h3, h4, h5⟩ := r.o i _ q
          cases h5
        · cases q4
      · right
        unfold getD at q3
        split at q3
        · rename_i d' q5
          cases q3
          unfold lookD at q5
          split at q5
          · rename_i kds
            split at q5
            · rename_i kk q6
              obtain ⟨p, vs, h1, h2, h3⟩ := own_dic r q
              refine ⟨.ref p, h1, hb r q2 fun v I' H' r' l hd => ?_⟩
              obtain ⟨p', vs', g1, g2, g3⟩ := own_dic r' q
              rw [h1] at g1
              cases g1
              obtain ⟨w, w1, w2⟩ := (denP_val g3).1 _ (Option.some.inj q5)
              exact ⟨p, w, rfl, .inl ⟨vs', kk, .inl g2, key_ok hd q6, w1.symm⟩, k w I' H' r' l w2⟩
            · cases q5
          · rename_i kds es
            split at q5
            · rename_i kk q6
              obtain ⟨p, vs, h1, h2, h3⟩ := own_dtk r q
              refine ⟨.ref p, h1, hb r q2 fun v I' H' r' l hd => ?_⟩
              obtain ⟨p', vs', g1, g2, g3⟩ := own_dtk r' q
              rw [h1] at g1
              cases g1
              obtain ⟨w, w1, w2⟩ := (denP_val g3).1 _ (Option.some.inj q5)
              obtain ⟨b, bs, rfl, hb', hbl⟩ := hd.toT
              exact ⟨p, w, rfl, .inr ⟨vs', kk, b, .inl g2, rfl, by rw [← keys_ok hbl q6]; exact r'.st.exT hb', w1.symm⟩, k w I' H' r' l w2⟩
            · cases q5
          · cases q5
        · cases q3
    · cases e
  · cases e
end M

set_option Elab.async false
set_option linter.all false
set_option maxRecDepth 100000
set_option maxHeartbeats 4000000
namespace M
open PySem L2

/-! ### in, not in -/
def ninE (fa fb : FE) : FE := opE (orO (notO inSq) (orO (notO inStr) (notO inDD))) fa fb
theorem rb_ninStr : RB (fun x y H Q => ∃ (c : Nat) (z : Str), x = .str ⟨#[c]⟩ ∧ y = .str z ∧ Q (.bl (!decide (c ∈ z.cps.toList))) H) (notO inStr) := fun {B E S σ I H} r {x y a b c} hx hy e {Q} k => by
  unfold notO at e
  split at e
  · rename_i b' q
    cases e
    unfold inStr at q
    split at q
    · rename_i a z
      split at q
      · rename_i ch q2
        cases q
        have ea : a = ⟨#[ch]⟩ := by
          obtain ⟨cps⟩ := a
          have q : cps.toList = [ch] := q2
          have : cps = #[ch] := by
            apply Array.toList_inj.mp
            rw [q]
          rw [this]
        subst ea
        exact ⟨ch, z, den_str hx, den_str hy, k _ I H r le_rfl (.bl _)⟩
      · cases q
    · cases q
  · cases e
theorem re_nin {K : PySem.W.Frag} {ta tb : TE} {fa fb : FE} (ha : RE ta fa) (hb : RE tb fb) : RE (fun σ H Q => tOp (fun x y H Q => rIn K true x y H Q ∨ (∃ (c : Nat) (z : Str), x = .str ⟨#[c]⟩ ∧ y = .str z ∧ Q (.bl (!decide (c ∈ z.cps.toList))) H)) ta tb σ H Q ∨ tDNotIn ta tb σ H Q) (ninE fa fb) := re_or2 fun e => by
  rcases opE_or e with z | z
  · exact .inl ⟨_, z, re_op (g := notO inSq) (fun {B E S σ I H} r {x y a b c} hx hy e {Q} k => .inl (rb_ninSq r hx hy e k)) ha hb⟩
  · rcases opE_or z with z | z
    · exact .inl ⟨_, z, re_op (g := notO inStr) (fun {B E S σ I H} r {x y a b c} hx hy e {Q} k => .inr (rb_ninStr r hx hy e k)) ha hb⟩
    · exact .inr ⟨_, z, re_dnin ha hb⟩
/-- a test by such an expression -/
theorem rt_in2 {t u : TE} {f : FE} (h : RE (fun σ H Q => t σ H Q ∨ u σ H Q) f) : RT (fun σ H Q => tTest t σ H Q ∨ tB u σ H Q) (bT f) := fun {B E S σ I H} r {b S'} e {Q} k => by
  unfold bT at e
  split at e
  · rename_i b' S1 q
    cases e
    exact h r q (Q := fun x H1 => ∃ c, x = .bl c ∧ Q c H1) fun v I' H' r' l hd => ⟨_, den_bl hd, k I' H' r' l⟩
  · cases e
/-- x in one's own -/
def inOE (fa : FE) (i : Nat) : FE := fun E S => match fa E S with
  | some (x, S1) => match E[i]? with
    | some (.o d) => match orO (orO inSq inStr) inDD x d with
      | some z => some (z, S1)
      | none => none
    | _ => none
  | none => none
def ninOE (fa : FE) (i : Nat) : FE := fun E S => match inOE fa i E S with
  | some (.bl b, S1) => some (.bl (!b), S1)
  | _ => none
theorem look_own {B : Bs} {E : Ev} {S : Sm} {σ : St} {I H : Hp} (r : R B E S σ I H) {i : Nat} {d b : D} {o : Option D} {y : V} (q : E[i]? = some (.o d)) (hy : Den B.c I y b) (e : lookD d b = some o) :
    ∃ p ov, σ[i]? = some (some (.ref p)) ∧ DGet H p y ov ∧ ov.isSome = o.isSome ∧ ∀ x, o = some x → ∃ v, ov = some v ∧ Den B.c I v x := by
  unfold lookD at e
  split at e
  · rename_i kds _
    split at e
    · rename_i k q2
      cases e
      obtain ⟨p, vs, h1, h2, h3⟩ := own_dic r q
      exact ⟨p, valV vs k, h1, .inl ⟨vs, k, .inl h2, key_ok hy q2, rfl⟩, denP_some h3, fun x hx => (denP_val h3).1 x hx⟩
    · cases e
  · rename_i kds ds
    split at e
    · rename_i k q2
      cases e
      obtain ⟨p, vs, h1, h2, h3⟩ := own_dtk r q
      obtain ⟨b, bs, rfl, hb, hbl⟩ := hy.toT
      exact ⟨p, valV vs k, h1, .inr ⟨vs, k, b, .inl h2, rfl, by rw [← keys_ok hbl q2]; exact r.st.exT hb, rfl⟩, denP_some h3, fun x hx => (denP_val h3).1 x hx⟩
    · cases e
  · cases e
theorem re_inO {K : PySem.W.Frag} {i : Nat} {ta : TE} {fa : FE} (ha : RE ta fa) : RE (fun σ H Q => tOp (fun x y H Q => rIn K false x y H Q ∨ (∃ (c : Nat) (z : Str), x = .str ⟨#[c]⟩ ∧ y = .str z ∧ Q (.bl (decide (c ∈ z.cps.toList))) H)) ta (tVar i) σ H Q ∨ tDIn ta (tVar i) σ H Q) (inOE fa i) := fun {B E S σ I H} r {d S'} e {Q} k => by
  unfold inOE at e
  split at e
  · rename_i x S1 q1
    split at e
    · rename_i dd q2
      split at e <;> cases e
      rename_i q3
      unfold orO at q3
      split at q3
      · rename_i z q4
        cases q3
        left
        split at q4
        · rename_i z2 q5
          cases q4
          refine ha r q1 fun v I' H' r' l hd => ?_
          unfold inSq at q5
          split at q5
          · rename_i ys
            split at q5 <;> cases q5
            rename_i hf
            rw [Bool.and_eq_true] at hf
            obtain ⟨p, vs, h1, h2, h3⟩ := own_lst r' q2
            refine ⟨.ref p, h1, .inl ⟨p, vs, rfl, .inl (SqL.of h2), flat_ok hd hf.1, flats_ok h3 hf.2, ?_⟩⟩
            rw [if_neg Bool.false_ne_true, ins_ok hd hf.1 h3 hf.2]
            exact k _ I' H' r' l (.bl _)
          · obtain ⟨p, u, h1, _, h3, h4, h5⟩ := r.o i _ q2
            cases h5
            exact absurd rfl (h3.2.2 _)
          · cases q5
        · unfold inStr at q4
          split at q4
          · obtain ⟨p, u, h1, _, h3, h4, h5⟩ := r.o i _ q2
            cases h5
          · cases q4
      · right
        unfold inDD at q3
        split at q3
        · rename_i o q5
          cases q3
          refine ha r q1 fun v I' H' r' l hd => ?_
          obtain ⟨p, ov, h1, g, ho, _⟩ := look_own r' q2 hd q5
          exact ⟨.ref p, h1, p, ov, rfl, g, by rw [ho]; exact k _ I' H' r' l (.bl _)⟩
        · cases q3
    · cases e
  · cases e
theorem re_ninO {K : PySem.W.Frag} {i : Nat} {ta : TE} {fa : FE} (ha : RE ta fa) : RE (fun σ H Q => tOp (fun x y H Q => rIn K true x y H Q ∨ (∃ (c : Nat) (z : Str), x = .str ⟨#[c]⟩ ∧ y = .str z ∧ Q (.bl (!decide (c ∈ z.cps.toList))) H)) ta (tVar i) σ H Q ∨ tDNotIn ta (tVar i) σ H Q) (ninOE fa i) := fun {B E S σ I H} r {d S'} e {Q} k => by
  unfold ninOE at e
  split at e
  · rename_i b S1 q0
    cases e
    unfold inOE at q0
    split at q0
    · rename_i x S2 q1
      split at q0
      · rename_i dd q2
        split at q0 <;> cases q0
        rename_i q3
        unfold orO at q3
        split at q3
        · rename_i z q4
          cases q3
          left
          split at q4
          · rename_i z2 q5
            cases q4
            refine ha r q1 fun v I' H' r' l hd => ?_
            unfold inSq at q5
            split at q5
            · rename_i ys
              split at q5 <;> cases q5
              rename_i hf
              rw [Bool.and_eq_true] at hf
              obtain ⟨p, vs, h1, h2, h3⟩ := own_lst r' q2
              refine ⟨.ref p, h1, .inl ⟨p, vs, rfl, .inl (SqL.of h2), flat_ok hd hf.1, flats_ok h3 hf.2, ?_⟩⟩
              rw [if_pos rfl, ins_ok hd hf.1 h3 hf.2]
              exact k _ I' H' r' l (.bl _)
            · obtain ⟨p, u, h1, _, h3, h4, h5⟩ := r.o i _ q2
              cases h5
              exact absurd rfl (h3.2.2 _)
            · cases q5
          · unfold inStr at q4
            split at q4
            · obtain ⟨p, u, h1, _, h3, h4, h5⟩ := r.o i _ q2
              cases h5
            · cases q4
        · right
          unfold inDD at q3
          split at q3
          · rename_i o q5
            cases q3
            refine ha r q1 fun v I' H' r' l hd => ?_
            obtain ⟨p, ov, h1, g, ho, _⟩ := look_own r' q2 hd q5
            exact ⟨.ref p, h1, p, ov, rfl, g, by rw [ho]; exact k _ I' H' r' l (.bl _)⟩
          · cases q3
      · cases q0
    · cases q0
  · cases e
/-! ### d[k] = v of one's own -/
def putOD (d k v : D) : Option D := match d with
  | .dic kds => match keyD k with
    | some k' => if kds.length < 1000000 then some (.dic (putD kds k' v)) else none
    | none => none
  | .dtk kds => match k with
    | .tup ds => match keysD ds with
      | some k' => if kds.length < 1000000 then some (.dtk (putD kds k' v)) else none
      | none => none
    | _ => none
  | _ => none
def dputS (i : Nat) (fk fv : FE) : FS := fun E S => match fv E S with
  | some (v, S1) => match fk E S1 with
    | some (k, S2) => match E[i]? with
      | some (.o d) => match putOD d k v with
        | some d2 => some (.nx, E.set i (.o d2), S2)
        | none => none
      | _ => none
    | none => none
  | none => none
theorem rs_dput {i : Nat} {tk tv : TE} {fk fv : FE} (hk : RE tk fk) (hv : RE tv fv) : RS (sDPut (tVar i) tk tv) (dputS i fk fv) := fun {B E S σ I H} r {o E' S'} e {Dn} kk => by
  unfold dputS at e
  split at e
  · rename_i v S1 q1
    split at e
    · rename_i k S2 q2
      split at e
      · rename_i d q3
        split at e <;> cases e
        rename_i d2 q4
        refine hv r q1 fun xv I1 H1 r1 l1 h1 => ?_
        obtain ⟨p0, u0, g0, _⟩ := r1.o i _ q3
        refine ⟨.ref p0, g0, hk r1 q2 fun xk I2 H2 r2 l2 h2 => ?_⟩
        unfold putOD at q4
        split at q4
        · rename_i kds
          split at q4
          · rename_i k' q5
            split at q4 <;> cases q4
            rename_i hl
            obtain ⟨p, vs, g1, g2, g3⟩ := own_dic r2 q3
            rw [g0] at g1
            cases g1
            refine ⟨p0, _, rfl, .inl ⟨vs, k', g2, key_ok h2 q5, by rw [Paired.length g3]; exact Nat.lt_of_lt_of_le hl (by decide), rfl⟩, ?_⟩
            exact kk σ I2 _ (r2.mut q3 g0 (.dK (denP_put g3 k' (h1.mono l2))) (fun _ => nofun)) (l1.trans l2)
          · cases q4
        · rename_i kds
          split at q4
          · rename_i ds
            split at q4
            · rename_i k' q5
              split at q4 <;> cases q4
              rename_i hl
              obtain ⟨p, vs, g1, g2, g3⟩ := own_dtk r2 q3
              rw [g0] at g1
              cases g1
              obtain ⟨b, bs, rfl, hb, hbl⟩ := h2.toT
              refine ⟨p0, _, rfl, .inr ⟨vs, k', b, g2, rfl, by rw [← keys_ok hbl q5]; exact r2.st.exT hb, by rw [Paired.length g3]; exact Nat.lt_of_lt_of_le hl (by decide), rfl⟩, ?_⟩
              exact kk σ I2 _ (r2.mut q3 g0 (.dT (denP_put g3 k' (h1.mono l2))) (fun _ => nofun)) (l1.trans l2)
            · cases q4
          · cases q4
        · cases q4
      · cases e
    · cases e
  · cases e
/-! ### x, y = a, b -/
/-- by the stack -/
theorem ps_parA {X : Cx} {i j : Nat} {x y : Str} {a b : Expr} {ta : TA} {px py pt : Pos} {kt k2 pt2 pos} (hN : X.N.Nodup) (hi : X.N[i]? = some x) (hj : X.N[j]? = some y) (ha : PA X [a, b] ta) (hc : X.calm = true := by rfl) (hij : i ≠ j := by decide)
    (hx : X.env.scope.names.lookup x = some .local := by rfl) (hy : X.env.scope.names.lookup y = some .local := by rfl)
    (hw : swappedStores [.Tuple [.Name x px, .Name y py] kt pt] (.Tuple [a, b] k2 pt2) X.env = pure (some [x, y]) := by rfl)
    (hs : swapsWithSole [.Tuple [.Name x px, .Name y py] kt pt] (.Tuple [a, b] k2 pt2) pos.line X.env = pure false := by rfl) :
    PS X (.Assign [.Tuple [.Name x px, .Name y py] kt pt] (.Tuple [a, b] k2 pt2) pos) (tPar i j ta) := ps_par hc hN hi hj hij hx hy ha hw hs
def parG (m1 m2 : Bool) (i j : Nat) (fa fb : FE) : FS := fun E S => match fa E S with
  | some (x, S1) => match fb E S1 with
    | some (y, S2) => if i < E.length ∧ j < E.length ∧ (m1 = true → notTup x = true) ∧ (m2 = true → notTup y = true) then some (.nx, (E.set i (if m1 then .o x else .v x)).set j (if m2 then .o y else .v y), S2) else none
    | none => none
  | none => none
def parvvS := parG false false
def parovS := parG true false
def parvoS := parG false true
def parooS := parG true true
theorem set2 {B : Bs} {E : Ev} {S : Sm} {σ : St} {I H : Hp} (r : R B E S σ I H) {i : Nat} {x : V} {d : D} (hi : i < E.length) (hd : Den B.c I x d) : R B (E.set i (.v d)) S (σ.set i (some x)) I H := r.setV hi hd
theorem rs_parvv {i j : Nat} {ta tb : TE} {fa fb : FE} (hij : i ≠ j) (ha : RE ta fa) (hb : RE tb fb) : RS (tPar i j (tCons ta (tCons tb tNil))) (parvvS i j fa fb) := fun {B E S σ I H} r {o E' S'} e {Dn} k => by
  unfold parvvS parG at e
  split at e
  · rename_i x S1 q1
    split at e
    · rename_i y S2 q2
      split at e <;> cases e
      rename_i hc
      refine ha r q1 fun v I1 H1 r1 l1 h1 => hb r1 q2 fun w I2 H2 r2 l2 h2 => ⟨v, w, rfl, ?_⟩
      exact k _ I2 H2 ((r2.setV hc.1 (h1.mono l2)).setV (by rw [List.length_set]; exact hc.2.1) h2) (l1.trans l2)
    · cases e
  · cases e
theorem rs_parvo {i j : Nat} {ta tb : TE} {fa fb : FE} (hij : i ≠ j) (ha : RE ta fa) (hb : RF tb fb) : RS (tPar i j (tCons ta (tCons tb tNil))) (parvoS i j fa fb) := fun {B E S σ I H} r {o E' S'} e {Dn} k => by
  unfold parvoS parG at e
  split at e
  · rename_i x S1 q1
    split at e
    · rename_i y S2 q2
      split at e <;> cases e
      rename_i hc
      refine ha r q1 fun v I1 H1 r1 l1 h1 => hb r1 q2 fun w I2 H2 r2 l2 h2 => ⟨v, w, rfl, ?_⟩
      have r3 := r2.setV hc.1 (h1.mono l2)
      have f3 : Fresh B (E.set i (.v x)) (σ.set i (some v)) I2 H2 w y := by
        obtain ⟨p, u, rfl, g1, g2, g3, g4, g5⟩ := h2
        refine ⟨p, u, rfl, g1, g2, g3, g4, fun m e hm z => ?_⟩
        by_cases h : m = i
        · subst h
          rw [List.getElem?_set_self hc.1] at hm
          cases hm
        · rw [List.getElem?_set_ne (Ne.symm h)] at hm z
          exact g5 m e hm z
      exact k _ I2 H2 (r3.setO (by rw [List.length_set]; exact hc.2.1) (notTup_ok (hc.2.2.2 rfl)) f3) (l1.trans l2)
    · cases e
  · cases e
/-- a new object is held in a frame cell while other things go on -/
theorem R.hold {B : Bs} {E : Ev} {S : Sm} {σ : St} {I H : Hp} (r : R B E S σ I H) {v : V} {d : D} (f : Fresh B E σ I H v d) (ht : notTup d = true) : ∃ p u, v = .ref p ∧ B.fr p = none ∧ ObjD B.c I u d ∧ R (B.cell p u) E S σ I H := by
  obtain ⟨p, u, rfl, g1, g2, g3, g4, g5⟩ := f
  have nt : ∀ xs, u ≠ .tup xs := fun xs e => by subst e; cases g4; cases ht
  refine ⟨p, u, rfl, g2.2, g4, ⟨r.st.sub, r.st.le, r.st.keep, r.st.new, r.st.st, r.st.nofr, r.st.stH, fun a o ha => ?_⟩, r.len, r.v, fun i e hi => ?_, r.ne⟩
  · by_cases h : a = p
    · subst h
      have ha : upd B.fr a u a = some o := ha
      rw [upd_same] at ha
      cases ha
      exact ⟨g3, g1, g2.1, nt⟩
    · have ha : upd B.fr p u a = some o := ha
      rw [upd_ne h] at ha
      exact r.st.fr a o ha
  · obtain ⟨q, w, z1, z2, z3, z4, z5⟩ := r.o i e hi
    have : q ≠ p := fun h => g5 i e hi (h ▸ z1)
    exact ⟨q, w, z1, z2, ⟨z3.1, (show upd B.fr p u q = none by rw [upd_ne this]; exact z3.2.1), z3.2.2⟩, z4, z5⟩
theorem rs_parov {i j : Nat} {ta tb : TE} {fa fb : FE} (hij : i ≠ j) (ha : RF ta fa) (hb : RE tb fb) : RS (tPar i j (tCons ta (tCons tb tNil))) (parovS i j fa fb) := fun {B E S σ I H} r {o E' S'} e {Dn} k => by
  unfold parovS parG at e
  split at e
  · rename_i x S1 q1
    split at e
    · rename_i y S2 q2
      split at e <;> cases e
      rename_i hc
      refine ha r q1 fun v I1 H1 r1 l1 f1 => ?_
      obtain ⟨p, u, rfl, hfr, hob, r1'⟩ := r1.hold f1 (hc.2.2.1 rfl)
      refine hb r1' q2 fun w I2 H2 r2 l2 h2 => ⟨.ref p, w, rfl, ?_⟩
      have r3 := r2.uncell hfr
      have f3 := r2.uncellF hfr (hob.mono l2)
      have r4 := r3.setO hc.1 (notTup_ok (hc.2.2.1 rfl)) f3
      exact k _ I2 H2 (r4.setV (by rw [List.length_set]; exact hc.2.1) h2) (l1.trans l2)
    · cases e
  · cases e
theorem rs_paroo {i j : Nat} {ta tb : TE} {fa fb : FE} (hij : i ≠ j) (ha : RF ta fa) (hb : RF tb fb) : RS (tPar i j (tCons ta (tCons tb tNil))) (parooS i j fa fb) := fun {B E S σ I H} r {o E' S'} e {Dn} k => by
  unfold parooS parG at e
  split at e
  · rename_i x S1 q1
    split at e
    · rename_i y S2 q2
      split at e <;> cases e
      rename_i hc
      refine ha r q1 fun v I1 H1 r1 l1 f1 => ?_
      obtain ⟨p, u, rfl, hfr, hob, r1'⟩ := r1.hold f1 (hc.2.2.1 rfl)
      refine hb r1' q2 fun w I2 H2 r2 l2 h2 => ?_
      obtain ⟨p2, u2, rfl, g1, g2, g3, g4, g5⟩ := h2
      refine ⟨.ref p, .ref p2, rfl, ?_⟩
      have np : p2 ≠ p := fun e => by
        have z : upd B.fr p u p2 = none := g2.2
        rw [e, upd_same] at z
        cases z
      have gf : B.fr p2 = none := by
        have z : upd B.fr p u p2 = none := g2.2
        rw [upd_ne np] at z
        exact z
      have r3 := r2.uncell hfr
      have f3 := r2.uncellF hfr (hob.mono l2)
      have r4 := r3.setO hc.1 (notTup_ok (hc.2.2.1 rfl)) f3
      have f4 : Fresh B (E.set i (.o x)) (σ.set i (some (.ref p))) I2 H2 (.ref p2) y := by
        refine ⟨p2, u2, rfl, g1, ⟨g2.1, gf⟩, g3, g4, fun m e hm z => ?_⟩
        by_cases h : m = i
        · subst h
          rw [List.getElem?_set_self (by rw [r3.len]; exact hc.1)] at z
          cases z
          exact np rfl
        · rw [List.getElem?_set_ne (Ne.symm h)] at hm z
          exact g5 m e hm z
      exact k _ I2 H2 (r4.setO (by rw [List.length_set]; exact hc.2.1) (notTup_ok (hc.2.2.2 rfl)) f4) (l1.trans l2)
    · cases e
  · cases e
end M

set_option Elab.async false
set_option linter.all false
set_option maxRecDepth 100000
set_option maxHeartbeats 4000000
namespace M
open PySem L2 PySem.Spec PyProof.Rows
open PySem.AutoSeq1 (wpAny_loadPart')

/-! ### enumerate of a tuple -/
set_option maxHeartbeats 1000000 in
theorem meets_enum_tup {v : Value} {o : Obj} {Hh : Heap → Prop} (Bg : PySem.Begins v o Hh) :
    Meets (Builtin.«enumerate.__new__» ⟨[.type "enumerate", v], []⟩) (fun _ Rr s => Hh s.heap ∧
      Rr (.ok (.ret (.ref (s.heap.push o).objs.size))) { s with heap := (s.heap.push o).push { cls := .type "enumerate", data := .fields #[.none, .bool false, .ref s.heap.objs.size, rawInt 0, .none, .none] } }) :=
  .of_wp fun prog w A Rr s h => by
    obtain ⟨hp, g, d, tk, os⟩ := s
    obtain ⟨h1, h⟩ := h
    have hsub := sub_enumerate
    have q1 : ∀ {A' : Around} {E : Value → Shared → Prop} {Q : Value → Shared → Prop}, Q (.ref hp.objs.size) ⟨hp.push o, g, d, tk, os⟩ → wpAny (model prog w) A' (pyIter v) Q E ⟨hp, g, d, tk, os⟩ :=
      fun q => Bg.iter prog w _ _ ⟨hp, g, d, tk, os⟩ _ h1 q
    wp_walk using q1
    refine wpAny_stack_any fun st => wpAny_pure ?_
    split
    · rename_i c _ _ _ _ _
      cases (c == Value.type "enumerate")
      · wp_walk using q1
        exact ⟨_, rfl, h⟩
      · wp_walk using q1
        exact ⟨_, rfl, h⟩
    · wp_walk using q1
      exact ⟨_, rfl, h⟩
theorem call_enum_tup {prog : Program} {w : World} {A : Around} {E : Value → Shared → Prop} {s : Shared} {a : Addr} {items : Array Value} {Q : Value → Shared → Prop} (ht : s.heap.IsTuple a items)
    (h : ∀ h', IsEnum h' (s.heap.objs.size + 1) s.heap.objs.size 0 .none → h'.IsTupleIter s.heap.objs.size a 0 → h'.objs.size = s.heap.objs.size + 2 →
      (∀ b o, s.heap.get? b = some o → h'.get? b = some o) → Q (.ref (s.heap.objs.size + 1)) { s with heap := h' }) :
    wpAny (model prog w) A (call (.type "enumerate") [.ref a]) Q E s := by
  refine callType_new F.called_enumerate (by decide) (F.typeCall_enumerate_1 _) (F.newCall_enumerate_1 _) (fun obj => F.args_object_init_2 obj _) F.entry_enumerate_new
    (meets_enum_tup (begins_tuple a items)) ⟨ht, ?_⟩
  have hz : (s.heap.push { cls := .type "tuple_iterator", data := .fields #[.ref a, .int 0 0] }).objs.size = s.heap.objs.size + 1 := Heap.size_push ..
  show _ ∧ _
  rw [hz]
  have he : IsEnum ((s.heap.push { cls := .type "tuple_iterator", data := .fields #[.ref a, .int 0 0] }).push
      { cls := .type "enumerate", data := .fields #[.none, .bool false, .ref s.heap.objs.size, rawInt 0, .none, .none] }) (s.heap.objs.size + 1) s.heap.objs.size 0 .none := by
    have := Heap.get?_push_size (s.heap.push { cls := .type "tuple_iterator", data := .fields #[.ref a, .int 0 0] })
      (o := { cls := .type "enumerate", data := .fields #[.none, .bool false, .ref s.heap.objs.size, rawInt 0, .none, .none] }) rfl
    rw [hz] at this; exact this
  exact ⟨⟨_, he, rfl⟩, h _ he ⟨_, Heap.get?_push_of_some _ (Heap.get?_push_size _ rfl), rfl, rfl⟩ (by rw [Heap.size_push, hz]) fun b o x => Heap.get?_push_of_some _ (Heap.get?_push_of_some _ x)⟩
def IteT (K : PySem.W.Frag) (a : Addr) : It :=
  ⟨fun i H => ∃ (xs : List V) (x : V), SqT K H a xs ∧ xs[i]? = some x, fun i H v H' => ∃ T x, v = .ref T ∧ H T = none ∧ H' = upd H T (.tup [.int (i : Nat), x]) ∧ ∀ xs, SqT K H a xs → xs[i]? = some x, fun i H => ∃ xs : List V, SqT K H a xs ∧ xs.length ≤ i⟩
theorem turn_enumT {P : Program} {w : World} {K : PySem.W.Frag} {elts : List Expr} {kk : Nat} {tpos : Pos} (a e it : Addr) (hai : a ≠ it) (hea : e ≠ a) :
    Turn P w K (.Tuple elts kk tpos) (IteT K a) [e, it] e (fun i h => (∃ old, IsEnum h e it ((i : Nat) : Int) old) ∧ h.IsTupleIter it a i ∧ e ≠ it) where
  mem := by simp
  obj := fun i h st b hb => by
    obtain ⟨⟨old, he⟩, ⟨o, ho, hc, hd⟩, _⟩ := st
    have e' : b = e ∨ b = it := by simpa using hb
    rcases e' with z | z
    · rw [z]; exact ⟨_, he, fun v q => nomatch q⟩
    · rw [z]; exact ⟨o, ho, fun v q => by rw [hd] at q; cases q⟩
  keep := fun i h h' st k => let ⟨⟨old, he⟩, hi, hne⟩ := st; ⟨⟨old, k e (by simp) _ he⟩, hi.at fun o q => k it (by simp) o q, hne⟩
  item := by
    intro X hP hw hK hc i pins s σ H E I hf st hg
    subst hP hw hK
    obtain ⟨⟨old, he⟩, hit, hne⟩ := st
    obtain ⟨xs, x, hq, hx⟩ := hg
    obtain ⟨its, rv, p, hz⟩ := I.tuple hq
    obtain ⟨u, hu, ru⟩ := rv.get hx
    have hel : e < s.heap.objs.size := Heap.lt_size he
    have hil : it < s.heap.objs.size := by obtain ⟨_, q, _⟩ := hit; exact Heap.lt_size q
    have hii : i < its.toArray.size := by
      have := (List.getElem?_eq_some_iff.mp hu).1
      simpa using this
    refine wpAny_pyNext_enum_itemD (Draws.tuple (A := X.A.in1) (I.ok.hd hc) it a hai its.toArray) he ⟨hit, p⟩ hii hne (by simp only [List.mem_cons, List.not_mem_nil, or_false, not_or]; exact ⟨hne, hea⟩) fun y h' tk hy ho hst' hT hsz hk => ?_
    have hit' := hst'.1
    have : y = u := by
      have z : its.toArray[i]? = some u := by simpa using hu
      rw [hy] at z
      exact Option.some.inj z
    subst this
    refine ⟨_, rfl, wpAny_letOwnedTupleGo_enum (s := { s with heap := h', toks := tk + 1 }) ho fun h'' he' sb => ?_⟩
    have hT2 : h''.get? s.heap.objs.size = some { cls := .type "tuple", data := .seq #[.int i tk, y] } := (sb.2 _ (Nat.ne_of_gt hel)).trans hT
    have new : ObjOk X.prog X.w (upd H s.heap.objs.size (.tup [.int (i : Nat), x])) h'' s.heap.objs.size (.tup [.int (i : Nat), x]) :=
      ⟨by show 2 ≤ sizeLine; decide, [.int i tk, y], .cons ⟨_, rfl⟩ (.cons ru .nil), ⟨_, hT2, rfl, _, rfl⟩⟩
    have I1 : Inv X pins σ (upd H s.heap.objs.size (.tup [.int (i : Nat), x])) { s with heap := h'', toks := tk + 1 } :=
      I.turnedNew (ch := [e, it]) (fun b ob hb q => (sb.2 b (fun z => hb (by simp [z]))).trans (hk b ob (fun z => hb (by simp [z])) (fun z => hb (by simp [z])) q)) hf (Nat.le_refl _) new
    refine ⟨.ref s.heap.objs.size, _, I1, rfl, ⟨_, x, rfl, I.hok.fresh (Nat.le_refl _), rfl, fun ys hy => by rw [I.tuple_inj hy hq]; exact hx⟩, ⟨⟨y, ?_⟩, hit'.at fun o q => (sb.2 it (Ne.symm hne)).trans q, hne⟩, fun b hb => ?_⟩
    · have e1 : ((i + 1 : Nat) : Int) = (i : Int) + 1 := by omega
      rw [e1]; exact he'
    · have hb' : b < s.heap.objs.size := by
        have e' : b = e ∨ b = it := by simpa using hb
        rcases e' with z | z
        · rw [z]; exact hel
        · rw [z]; exact hil
      rw [upd_ne (Nat.ne_of_lt hb')]
      exact (hf b hb).1
  done := by
    intro X hP hw hK hc i pins s σ H E I hf st hg
    subst hP hw hK
    obtain ⟨⟨old, he⟩, hit, hne⟩ := st
    obtain ⟨xs, hq, hx⟩ := hg
    obtain ⟨its, rv, p, hz⟩ := I.tuple hq
    obtain ⟨f0, f1, f2, f3, f4, f5⟩ := hf it (by simp)
    have hl := rv.length
    have hh : X.A.in1.handled = none := I.ok.hd hc
    have D2 : Draws X.prog X.w X.A.in1 it [it, a] i (fun _ _ => True) (fun k h => (h.IsTupleIter it a k ∧ h.IsTuple a its.toArray) ∧ i ≤ k) :=
      { live := fun _ _ st => let ⟨o, ho, _⟩ := st.1.1; ⟨o, ho⟩
        frame := fun _ _ _ st hk => ⟨⟨st.1.1.at fun o e => hk it (by simp) o e, st.1.2.at fun o e => hk a (by simp) o e⟩, st.2⟩
        item := fun j s Q E hj st hQ => absurd st.2 (by omega)
        done := fun s Q E st hE => wpAny_nextOf_tuple_end hh st.1.1 st.1.2 (by simp; omega) hE }
    exact wpAny_pyNext_enum_endD D2 he ⟨⟨hit, p⟩, Nat.le_refl _⟩ fun h' eb => ⟨rfl, I.turned (t' := s.toks) (fun b o hb q => eb b o hb q) f0 f1 f3 f4 f5⟩
  self := fun A i s Q E st h => let ⟨⟨_, he⟩, _⟩ := st; wpAny_pyIter_enum he h

def iEnumA (K : PySem.W.Frag) (ta : TA) : TI := fun σ H R => ta σ H fun vs H1 => ∃ a xs, vs = [.ref a] ∧ ((SqL K H1 a xs ∧ R (Ite K a) H1) ∨ (SqT K H1 a xs ∧ R (IteT K a) H1))
theorem pi_enumA {X : Cx} {e : Expr} {ta : TA} {p pos tpos : Pos} {elts : List Expr} {kk : Nat} (hg : Gl X "enumerate") (hm : X.mg "enumerate" = none) (ha : PA X [e] ta) (hs : starEach [e] X.env = [(false, eval e X.env)] := by rfl) :
    PI X (.Tuple elts kk tpos) (.Call (.Name "enumerate" p) [e] [] pos) (iEnumA X.K ta) := by
  refine ⟨fun pins s σ H R I h => ?_⟩
  refine Call_ (ld_blt I hg hm boot_enumerate (PyProof.Rows.callWith_type1 (thn (ha.run pos pins s σ H _ I h) fun us s1 ⟨vs, H1, I1, r1, q1⟩ => ?_) hs rfl))
  obtain ⟨a, xs, ex, q⟩ := q1
  subst ex
  have two : ∀ b, b ∈ [s1.heap.objs.size + 1, s1.heap.objs.size] → s1.heap.objs.size ≤ b := fun b hb => by
    have e' : b = s1.heap.objs.size + 1 ∨ b = s1.heap.objs.size := by simpa using hb
    rcases e' with z | z
    · rw [z]; exact Nat.le_add_right _ _
    · rw [z]; exact Nat.le_refl _
  cases r1 with
  | cons r rr =>
    cases rr
    cases r
    rcases q with ⟨hq, q⟩ | ⟨hq, q⟩
    · obtain ⟨its, rv, p', hz⟩ := I1.list hq
      refine call_enumerate_list p'.isList fun h' he hit hsz hk => wpAny_pyIter_enum he ?_
      have I2 : Inv X pins σ H1 { s1 with heap := h' } := I1.kept (t' := s1.toks) hk
      exact ⟨s1.heap.objs.size + 1, [s1.heap.objs.size + 1, s1.heap.objs.size], _, _, H1, rfl, I2, turn_enum a (s1.heap.objs.size + 1) s1.heap.objs.size, ⟨⟨.none, he⟩, hit, Nat.succ_ne_self _⟩, fun b hb => I1.fpOk (two b hb) (I1.hok.fresh (two b hb)), q⟩
    · obtain ⟨its, rv, p', hz⟩ := I1.tuple hq
      have hal : a < s1.heap.objs.size := by obtain ⟨_, q, _⟩ := p'; exact Heap.lt_size q
      refine call_enum_tup p' fun h' he hit hsz hk => wpAny_pyIter_enum he ?_
      have I2 : Inv X pins σ H1 { s1 with heap := h' } := I1.kept (t' := s1.toks) hk
      exact ⟨s1.heap.objs.size + 1, [s1.heap.objs.size + 1, s1.heap.objs.size], _, _, H1, rfl, I2, turn_enumT a (s1.heap.objs.size + 1) s1.heap.objs.size (Nat.ne_of_lt hal) (Nat.ne_of_gt (Nat.lt_succ_of_lt hal)), ⟨⟨.none, he⟩, hit, Nat.succ_ne_self _⟩, fun b hb => I1.fpOk (two b hb) (I1.hok.fresh (two b hb)), q⟩
theorem it_enumT {K : PySem.W.Frag} {c : Option Addr} {I0 : Hp} {a : Addr} {vs : List V} {ds : List D} (hr : Rd I0 a (.tup vs)) (hl : DenL c I0 vs ds) : ItD c (IteT K a) I0 (enumD 0 ds) := fun B E S σ I H hc r l i => by
  have hs : SqT K H a vs := exT r (l _ _ hr)
  have hn := Paired.length hl
  rw [enumD_len]
  refine ⟨fun hi => ⟨vs, vs[i]'(by omega), hs, List.getElem?_eq_getElem (by omega)⟩, fun hi => ⟨vs, hs, by omega⟩, fun x H' d hd y => ?_⟩
  obtain ⟨T, z, rfl, hT, rfl, y⟩ := y
  obtain ⟨dx, h1, rfl⟩ := enumD_get 0 ds i d hd
  obtain ⟨v, h2, h3⟩ := denL_get hl h1
  rw [y vs hs] at h2
  cases h2
  subst hc
  rw [Nat.zero_add]
  exact newT r hT (.cons (.int _) (.cons (h3.mono l) .nil))
def enA (f : FA) : FI := fun E S => match f E S with
  | some ([.lst ds], S1) => some (enumD 0 ds, S1)
  | some ([.tup ds], S1) => some (enumD 0 ds, S1)
  | _ => none
theorem ri_enumA {K : PySem.W.Frag} {ta : TA} {f : FA} (h : RA ta f) : RI (iEnumA K ta) (enA f) := fun {B E S σ I H} r {items S'} e {Rq} k => by
  unfold enA at e
  split at e
  · rename_i ds S1 q
    cases e
    refine h r q fun vs I' H' r' l hd => ?_
    obtain ⟨v, rfl, hv⟩ := one1 hd
    obtain ⟨a, ws, rfl, hr, hl⟩ := hv.toL
    exact ⟨a, ws, rfl, .inl ⟨exL r' hr, k _ I' H' r' l (it_enum hr hl)⟩⟩
  · rename_i ds S1 q
    cases e
    refine h r q fun vs I' H' r' l hd => ?_
    obtain ⟨v, rfl, hv⟩ := one1 hd
    obtain ⟨a, ws, rfl, hr, hl⟩ := hv.toT
    exact ⟨a, ws, rfl, .inr ⟨exT r' hr, k _ I' H' r' l (it_enumT hr hl)⟩⟩
  · cases e
/-! ### zip of tuples -/
theorem it_zipT {K : PySem.W.Frag} {c : Option Addr} {I0 : Hp} {a b : Addr} {vs ws : List V} {ds es : List D} (hr : Rd I0 a (.tup vs)) (hl : DenL c I0 vs ds) (hr2 : Rd I0 b (.tup ws)) (hl2 : DenL c I0 ws es) : ItD c (RZ.ItzT K a b) I0 (zipD ds es) := fun B E S σ I H hc r l i => by
  have hs : SqT K H a vs := exT r (l _ _ hr)
  have hs2 : SqT K H b ws := exT r (l _ _ hr2)
  have hn := Paired.length hl
  have hn2 := Paired.length hl2
  rw [zipD_len]
  refine ⟨fun hi => ⟨vs, ws, vs[i]'(by omega), ws[i]'(by omega), hs, hs2, List.getElem?_eq_getElem (by omega), List.getElem?_eq_getElem (by omega)⟩, fun hi => ⟨vs, ws, hs, hs2, by omega⟩, fun x H' d hd y => ?_⟩
  obtain ⟨T, z1, z2, rfl, hT, rfl, y1, y2⟩ := y
  obtain ⟨d1, d2, h1, h2, rfl⟩ := zipD_get ds es i d hd
  obtain ⟨v1, g1, g1'⟩ := denL_get hl h1
  obtain ⟨v2, g2, g2'⟩ := denL_get hl2 h2
  rw [y1 vs hs] at g1
  rw [y2 ws hs2] at g2
  cases g1
  cases g2
  subst hc
  exact newT r hT (.cons (g1'.mono l) (.cons (g2'.mono l) .nil))
def zipA (f : FA) : FI := fun E S => match f E S with
  | some ([.lst xs, .lst ys], S1) => some (zipD xs ys, S1)
  | some ([.tup xs, .tup ys], S1) => some (zipD xs ys, S1)
  | _ => none
theorem ri_zipA {K : PySem.W.Frag} {ta : TA} {f : FA} (h : RA ta f) : RI (RZ.iZipA K ta) (zipA f) := fun {B E S σ I H} r {items S'} e {Rq} k => by
  unfold zipA at e
  split at e
  · rename_i xs ys S1 q
    cases e
    refine h r q fun vs I' H' r' l hd => ?_
    obtain ⟨v, w, rfl, hv, hw⟩ := two2 hd
    obtain ⟨a, as, rfl, hr, hl⟩ := hv.toL
    obtain ⟨b, bs, rfl, hr2, hl2⟩ := hw.toL
    exact ⟨a, b, as, bs, rfl, .inl ⟨exL r' hr, exL r' hr2, k _ I' H' r' l (it_zip hr hl hr2 hl2)⟩⟩
  · rename_i xs ys S1 q
    cases e
    refine h r q fun vs I' H' r' l hd => ?_
    obtain ⟨v, w, rfl, hv, hw⟩ := two2 hd
    obtain ⟨a, as, rfl, hr, hl⟩ := hv.toT
    obtain ⟨b, bs, rfl, hr2, hl2⟩ := hw.toT
    exact ⟨a, b, as, bs, rfl, .inr ⟨exT r' hr, exT r' hr2, k _ I' H' r' l (it_zipT hr hl hr2 hl2)⟩⟩
  · cases e
end M

set_option Elab.async false
set_option linter.all false
set_option maxRecDepth 100000
set_option maxHeartbeats 4000000
namespace M
open PySem L2 PySem.Spec PyProof.Rows

/-! ### data as the library reads them -/
def kP : Key → PyData
  | .inl i => .int i
  | .inr x => .str x
mutual
def toP : D → PyData
  | .non => .none
  | .bl b => .bool b
  | .int i => .int i
  | .str x => .str x
  | .lst xs => .list (toPs xs)
  | .tup xs => .tuple (toPs xs)
  | .dic kvs => .dict (toPk kvs)
  | .dtk _ => .none
  | .ins _ _ => .none
  | .strm => .none
  | .far _ => .none
def toPs : List D → List PyData
  | [] => []
  | d :: r => toP d :: toPs r
def toPk : List (Key × D) → List (PyData × PyData)
  | [] => []
  | (k, v) :: r => (kP k, toP v) :: toPk r
end
mutual
def okP : D → Bool
  | .non => true | .bl _ => true | .int _ => true | .str _ => true
  | .lst xs => okPs xs
  | .tup xs => okPs xs
  | .dic kvs => okPk kvs
  | .dtk _ => false
  | .ins _ _ => false
  | .strm => false
  | .far _ => false
def okPs : List D → Bool
  | [] => true
  | d :: r => okP d && okPs r
def okPk : List (Key × D) → Bool
  | [] => true
  | (k, v) :: r => okP v && okPk r
end
theorem toPs_map : ∀ ds : List D, toPs ds = ds.map toP
  | [] => rfl
  | d :: r => by rw [toPs, toPs_map r]; rfl
section
variable {P : Program} {w : World} {B : Bs} {I H : Hp} {S : Sm} {h : Heap}
theorem pairs_keys : ∀ {es : List DictEntry} {kvs : List (Key × Value)}, Pairs (mixKind P w) es kvs → ∃ as, ReadsAll h (es.map (·.key)) (kvs.map fun p => kP p.1) as
  | _, _, .nil => ⟨[], .nil⟩
  | _, _, @Pairs.cons _ _ _ _ _ e kv es kvs h1 h2 t => by
    obtain ⟨as, r⟩ := pairs_keys t
    rcases keyIs_shape h1 with ⟨i, tk, e1, e2⟩ | ⟨x, tk, e1, e2⟩
    · refine ⟨[] ++ as, ?_⟩
      rw [List.map_cons, List.map_cons, e1, e2]
      exact .cons (.int i tk) r
    · refine ⟨[] ++ as, ?_⟩
      rw [List.map_cons, List.map_cons, e1, e2]
      exact .cons (.str x tk) r
theorem pairs_vals {knd : KeyKind P w Key} : ∀ {es : List DictEntry} {kvs : List (Key × Value)}, Pairs knd es kvs → es.map (·.val) = kvs.map (·.2)
  | _, _, .nil => rfl
  | _, _, .cons h1 h2 t => by rw [List.map_cons, List.map_cons, h2, pairs_vals t]
theorem kv_keys {κ : Type} : ∀ {kvs : List (κ × V)} {vs : List (κ × Value)}, KV kvs vs → kvs.map (·.1) = vs.map (·.1)
  | _, _, .nil => rfl
  | _, _, .cons r t => by rw [List.map_cons, List.map_cons, r.1, kv_keys t]
theorem toPk_keys : ∀ (kds : List (Key × D)), (toPk kds).map (·.1) = kds.map fun p => kP p.1
  | [] => rfl
  | (k, v) :: r => by rw [toPk, List.map_cons, List.map_cons, toPk_keys r]
mutual
theorem reads_of (ok : HOk P w H h) (st : Stt B I H S) : ∀ (d : D), okP d = true → ∀ {x : V} {u : Value}, Den B.c I x d → RelV x u → ∃ as, Reads h u (toP d) as
  | .non, _, x, u, hd, hr => by
    cases den_non hd
    cases (show u = Value.none from hr)
    exact ⟨[], .none⟩
  | .bl b, _, x, u, hd, hr => by
    cases den_bl hd
    cases (show u = Value.bool b from hr)
    exact ⟨[], .bool b⟩
  | .int i, _, x, u, hd, hr => by
    cases den_int hd
    obtain ⟨t, rfl⟩ := (show ∃ t, u = Value.int i t from hr)
    exact ⟨[], .int i t⟩
  | .str z, _, x, u, hd, hr => by
    cases den_str hd
    obtain ⟨t, rfl⟩ := (show ∃ t, u = Value.str z t from hr)
    exact ⟨[], .str z t⟩
  | .lst ds, hk, x, u, hd, hr => by
    obtain ⟨a, vs, rfl, hrd, hl⟩ := hd.toL
    cases (show u = Value.ref a from hr)
    obtain ⟨_, its, n, rv, ho⟩ := (show ObjOk P w H h a (.lst vs) from ok a _ (st.exL hrd))
    obtain ⟨as, rs⟩ := reads_all ok st ds (by rw [okP] at hk; exact hk) hl rv
    rw [toP]
    exact ⟨a :: as, .list ho rfl rfl rs⟩
  | .tup ds, hk, x, u, hd, hr => by
    obtain ⟨a, vs, rfl, hrd, hl⟩ := hd.toT
    cases (show u = Value.ref a from hr)
    obtain ⟨_, its, rv, o, ho, hc, n, hdt⟩ := (show ObjOk P w H h a (.tup vs) from ok a _ (st.exT hrd))
    obtain ⟨as, rs⟩ := reads_all ok st ds (by rw [okP] at hk; exact hk) hl rv
    rw [toP]
    exact ⟨as, .tuple ho hc hdt rs⟩
  | .dic kds, hk, x, u, hd, hr => by
    obtain ⟨a, kvs, rfl, hrd, hl⟩ := hd.toD
    cases (show u = Value.ref a from hr)
    obtain ⟨_, _, vs, rel, o, es, ep, ho, hex, hdt, _, hp, _⟩ := dk_rd ok (st.sub.rd hrd)
    obtain ⟨bs, rs⟩ := reads_kvs ok st kds (by rw [okP] at hk; exact hk) hl rel
    obtain ⟨as, rk⟩ := pairs_keys (h := h) hp
    have e1 : vs.map (fun p => kP p.1) = (toPk kds).map (·.1) := by
      rw [toPk_keys]
      have h1 := kv_keys rel
      have h2 := hl.keys
      have h3 := congrArg (List.map kP) (h1.symm.trans h2)
      simpa only [List.map_map, Function.comp_def] using h3
    rw [e1] at rk
    rw [← pairs_vals hp] at rs
    rw [toP]
    exact ⟨a :: as ++ bs, .dict ho hex.1 hdt rk rs⟩
  | .dtk _, hk, _, _, _, _ => by rw [okP] at hk; cases hk
  | .ins _ _, hk, _, _, _, _ => by rw [okP] at hk; cases hk
  | .strm, hk, _, _, _, _ => by rw [okP] at hk; cases hk
  | .far _, hk, _, _, _, _ => by rw [okP] at hk; cases hk
theorem reads_all (ok : HOk P w H h) (st : Stt B I H S) : ∀ (ds : List D), okPs ds = true → ∀ {vs : List V} {us : List Value}, DenL B.c I vs ds → Vals vs us → ∃ as, ReadsAll h us (toPs ds) as
  | [], _, _, _, .nil, .nil => ⟨[], .nil⟩
  | d :: ds, hk, _, _, .cons h1 t1, .cons h2 t2 => by
    rw [okPs, Bool.and_eq_true] at hk
    obtain ⟨as, r⟩ := reads_of ok st d hk.1 h1 h2
    obtain ⟨bs, rs⟩ := reads_all ok st ds hk.2 t1 t2
    rw [toPs]
    exact ⟨as ++ bs, .cons r rs⟩
theorem reads_kvs (ok : HOk P w H h) (st : Stt B I H S) : ∀ (kds : List (Key × D)), okPk kds = true → ∀ {kvs : List (Key × V)} {vs : List (Key × Value)}, DenP B.c I kvs kds → KV kvs vs → ∃ as, ReadsAll h (vs.map (·.2)) ((toPk kds).map (·.2)) as
  | [], _, _, _, .nil, .nil => ⟨[], .nil⟩
  | (k, d) :: kds, hk, _, _, .cons h1 t1, .cons h2 t2 => by
    rw [okPk, Bool.and_eq_true] at hk
    obtain ⟨as, r⟩ := reads_of ok st d hk.1 h1.2 h2.2
    obtain ⟨bs, rs⟩ := reads_kvs ok st kds hk.2 t1 t2
    rw [toPk]
    exact ⟨as ++ bs, .cons r rs⟩
end
end
end M

set_option Elab.async false
set_option linter.all false
set_option maxRecDepth 100000
set_option maxHeartbeats 4000000
namespace M
open PySem L2 PySem.Spec PyProof.Rows

/-! ### sorted, of data that are alike -/
abbrev leV : V × D → V × D → Bool := PySem.W.dataLe false fun b => toP b.2
abbrev leD : D → D → Bool := PySem.W.dataLe false toP
def rSortD (P : Program) (w : World) (K : PySem.W.Frag) : List V → Hp → VK → Prop := fun vs H Q => ∃ (a : Addr) (bs : List (V × D)), vs = [V.ref a] ∧ SqL K H a (bs.map (·.1)) ∧
  (∀ h, HOk P w H h → ∀ b ∈ bs, ∀ u, RelV b.1 u → ∃ as, Reads h u (toP b.2) as) ∧ PySem.W.AllAlike (bs.map fun b => toP b.2) ∧ PySem.W.Sortable (bs.map fun b => toP b.2) ∧ (∀ b ∈ bs, (toP b.2).depth ≤ 40) ∧
  ∀ p, H p = none → Q (.ref p) (upd H p (.lst ((bs.mergeSort leV).map (·.1))))
open PySem.W in
theorem each_rel : ∀ {bs : List (V × D)} {us : List Value}, Vals (bs.map (·.1)) us → EachIs (fun u (b : V × D) => RelV b.1 u) us bs
  | [], _, .nil => .nil
  | _ :: _, _, .cons r t => .cons r (each_rel t)
open PySem.W in
theorem each_with {α β : Type} {F G : α → β → Prop} : ∀ {us : List α} {bs : List β}, EachIs F us bs → (∀ b ∈ bs, ∀ u, F u b → G u b) → EachIs G us bs
  | _, _, .nil, _ => .nil
  | _, _, .cons r t, h => .cons (h _ List.mem_cons_self _ r) (each_with t fun b hb => h b (List.mem_cons_of_mem _ hb))
open PySem.W in
theorem vals_each : ∀ {bs : List (V × D)} {us : List Value}, EachIs (fun u (b : V × D) => RelV b.1 u) us bs → Vals (bs.map (·.1)) us
  | _, _, .nil => .nil
  | _, _, .cons r t => .cons r (vals_each t)
theorem cr_sortA {X : Cx} (hu : X.A.units + 64 < cLine) : CallR X (.builtin "sorted") (rSortD X.prog X.w X.K) := by
  intro pins s σ H vs us Q I r h
  obtain ⟨a, bs, rfl, hs, hrd, hal, hso, hdp, q⟩ := h
  obtain ⟨its, rv, hl, hz⟩ := I.list hs
  rw [Vals.ref1 r]
  have e := each_rel rv
  have er := each_with e (G := fun u (b : V × D) => ∃ as, Reads s.heap u (toP b.2) as) fun b hb u hr => hrd _ I.hok b hb u hr
  refine PySem.W.sorted_data hl.isList e er hal hso (by rw [List.length_map] at hz; exact hz) (fun b hb => by have := hdp b hb; omega) fun out hlen ho => ?_
  obtain ⟨ep, he'⟩ := PyProof.Rows.sortedAll_at s.heap its (List.toArray out)
  have rv2 := vals_each ho
  have hl2 : ((bs.mergeSort leV).map (·.1)).length ≤ sizeLine := by
    rw [List.length_map, List.length_mergeSort]
    rw [List.length_map] at hz
    exact hz
  exact ⟨.ref _, upd H (s.heap.objs.size + 1) (.lst ((bs.mergeSort leV).map (·.1))), I.laid (t' := s.toks) (fun _ _ => PyProof.Rows.sortedAll_old) (Nat.le_succ _) ⟨hl2, out, ep, rv2, he'⟩, rfl, q _ (I.hok.fresh (Nat.le_succ _))⟩
/-- the mirror -/
def alikeB (ds : List D) : Bool := ds.all fun a => ds.all fun b => PySem.W.alike (toP a) (toP b)
def tupB : D → Bool
  | .tup (_ :: _) => true
  | _ => false
def oneB : D → Bool
  | .int _ => true | .str _ => true | .bl _ => true | .lst _ => true
  | _ => false
def sortN : OpN
  | [.lst xs] => if okPs xs = true ∧ alikeB xs = true ∧ (xs.all tupB || xs.all oneB) = true ∧ xs.all (fun d => decide ((toP d).depth ≤ 40)) = true then some (.lst (xs.mergeSort leD)) else none
  | _ => none
theorem okPs_all : ∀ {ds : List D}, okPs ds = true → ∀ d ∈ ds, okP d = true
  | [], _, d, hd => by cases hd
  | x :: r, h, d, hd => by
    rw [okPs, Bool.and_eq_true] at h
    rcases List.mem_cons.mp hd with rfl | hd
    · exact h.1
    · exact okPs_all h.2 d hd
theorem denL_zip {c : Option Addr} {I : Hp} : ∀ {vs : List V} {ds : List D}, DenL c I vs ds → ∃ bs : List (V × D), bs.map (·.1) = vs ∧ bs.map (·.2) = ds ∧ ∀ b ∈ bs, Den c I b.1 b.2
  | _, _, .nil => ⟨[], rfl, rfl, fun b hb => by cases hb⟩
  | _, _, @Paired.cons _ _ _ v d vs ds r t => by
    obtain ⟨bs, h1, h2, h3⟩ := denL_zip t
    refine ⟨(v, d) :: bs, by rw [List.map_cons, h1], by rw [List.map_cons, h2], fun b hb => ?_⟩
    rcases List.mem_cons.mp hb with rfl | hb
    · exact r
    · exact h3 b hb
theorem denL_unzip {c : Option Addr} {I : Hp} : ∀ {bs : List (V × D)}, (∀ b ∈ bs, Den c I b.1 b.2) → DenL c I (bs.map (·.1)) (bs.map (·.2))
  | [], _ => .nil
  | b :: bs, h => .cons (h b List.mem_cons_self) (denL_unzip fun x hx => h x (List.mem_cons_of_mem _ hx))
theorem rcf_sortA {P : Program} {w : World} {K : PySem.W.Frag} : RCF (rSortD P w K) sortN := fun {B E S σ I H} r {vs ds d} hv e {Q} k => by
  unfold sortN at e
  split at e
  · rename_i xs
    split at e <;> cases e
    rename_i hc
    obtain ⟨h1, h2, h3, h4⟩ := hc
    obtain ⟨v, rfl, h⟩ := one1 hv
    obtain ⟨a, ws, rfl, hr, hl⟩ := h.toL
    obtain ⟨bs, rfl, rfl, hb⟩ := denL_zip hl
    have mem : ∀ b ∈ bs, b.2 ∈ bs.map (·.2) := fun b hb => List.mem_map.mpr ⟨b, hb, rfl⟩
    refine ⟨a, bs, rfl, exL r hr, fun hp ok b hbm u hu => reads_of ok r.st b.2 (okPs_all h1 _ (mem b hbm)) (hb b hbm) hu, fun d hd d' hd' => ?_, ?_, fun b hbm => ?_, fun p hp => ?_⟩
    · obtain ⟨b, hb1, rfl⟩ := List.mem_map.mp hd
      obtain ⟨b', hb2, rfl⟩ := List.mem_map.mp hd'
      unfold alikeB at h2
      rw [List.all_eq_true] at h2
      have := h2 _ (mem b hb1)
      rw [List.all_eq_true] at this
      exact this _ (mem b' hb2)
    · rw [Bool.or_eq_true, List.all_eq_true, List.all_eq_true] at h3
      rcases h3 with h3 | h3
      · refine .inl fun d hd => ?_
        obtain ⟨b, hb1, rfl⟩ := List.mem_map.mp hd
        have := h3 _ (mem b hb1)
        unfold tupB at this
        split at this
        · rename_i x y z
          rw [z, toP, toPs]
          exact ⟨_, _, rfl⟩
        · cases this
      · refine .inr fun d hd => ?_
        obtain ⟨b, hb1, rfl⟩ := List.mem_map.mp hd
        have := h3 _ (mem b hb1)
        unfold oneB at this
        split at this
        · rename_i x z; rw [z, toP]; exact ⟨nofun, fun _ => nofun⟩
        · rename_i x z; rw [z, toP]; exact ⟨nofun, fun _ => nofun⟩
        · rename_i x z; rw [z, toP]; exact ⟨nofun, fun _ => nofun⟩
        · rename_i x z; rw [z, toP]; exact ⟨nofun, fun _ => nofun⟩
        · cases this
    · rw [List.all_eq_true] at h4
      exact of_decide_eq_true (h4 _ (mem b hbm))
    · have hs : (bs.mergeSort leV).map (·.2) = (bs.map (·.2)).mergeSort leD := List.map_mergeSort fun _ _ _ _ => rfl
      have hd : DenL B.c I ((bs.mergeSort leV).map (·.1)) ((bs.map (·.2)).mergeSort leD) := by
        rw [← hs]
        exact denL_unzip fun b hbm => hb b (List.mem_mergeSort.mp hbm)
      exact k _ I _ (r.alloc hp) le_rfl (r.fresh hp (.lst hd))
  · cases e

/-! ### min, max of ints, of texts; lists and tuples -/
def minS (z : Str) (zs : List Str) : Str := zs.foldl (fun a y => if y.cps.toList < a.cps.toList then y else a) z
def maxS (z : Str) (zs : List Str) : Str := zs.foldl (fun a y => if a.cps.toList < y.cps.toList then y else a) z
def minZ (z : Int) (zs : List Int) : Int := zs.foldl (fun a y => if y < a then y else a) z
def maxZ (z : Int) (zs : List Int) : Int := zs.foldl (fun a y => if a < y then y else a) z
def rBest (K : PySem.W.Frag) (gi : Int → List Int → Int) (gs : Str → List Str → Str) : List V → Hp → VK → Prop := fun vs H Q => ∃ a, vs = [V.ref a] ∧
  ((∃ n ns, (SqL K H a ((n :: ns).map V.int) ∨ SqT K H a ((n :: ns).map V.int)) ∧ Q (.int (gi n ns)) H) ∨ ∃ z zs, (SqL K H a ((z :: zs).map V.str) ∨ SqT K H a ((z :: zs).map V.str)) ∧ Q (.str (gs z zs)) H)
theorem reads_ints {h : Heap} : ∀ {ns : List Int} {us : List Value}, Vals (ns.map V.int) us → ∃ as, ReadsAll h us (ns.map PyData.int) as
  | [], _, .nil => ⟨[], .nil⟩
  | n :: ns, _, .cons r t => by
    obtain ⟨as, q⟩ := reads_ints t
    obtain ⟨tk, rfl⟩ := (show ∃ t, _ = Value.int n t from r)
    exact ⟨[] ++ as, .cons (.int n tk) q⟩
theorem reads_strs {h : Heap} : ∀ {ns : List Str} {us : List Value}, Vals (ns.map V.str) us → ∃ as, ReadsAll h us (ns.map PyData.str) as
  | [], _, .nil => ⟨[], .nil⟩
  | n :: ns, _, .cons r t => by
    obtain ⟨as, q⟩ := reads_strs t
    obtain ⟨tk, rfl⟩ := (show ∃ t, _ = Value.str n t from r)
    exact ⟨[] ++ as, .cons (.str n tk) q⟩
theorem depth_ints : ∀ ns : List Int, PyData.depthAll (ns.map PyData.int) = 0
  | [] => rfl
  | n :: ns => by rw [List.map_cons, PyData.depthAll, depth_ints ns]; rfl
theorem depth_strs : ∀ ns : List Str, PyData.depthAll (ns.map PyData.str) = 0
  | [] => rfl
  | n :: ns => by rw [List.map_cons, PyData.depthAll, depth_strs ns]; rfl
theorem alike_ints (ns : List Int) : PySem.W.AlikeAll (ns.map PyData.int) := ⟨fun x hx y hy => by
  obtain ⟨i, _, rfl⟩ := List.mem_map.mp hx
  obtain ⟨j, _, rfl⟩ := List.mem_map.mp hy
  rfl, fun x hx => by obtain ⟨i, _, rfl⟩ := List.mem_map.mp hx; nofun⟩
theorem alike_strs (ns : List Str) : PySem.W.AlikeAll (ns.map PyData.str) := ⟨fun x hx y hy => by
  obtain ⟨i, _, rfl⟩ := List.mem_map.mp hx
  obtain ⟨j, _, rfl⟩ := List.mem_map.mp hy
  rfl, fun x hx => by obtain ⟨i, _, rfl⟩ := List.mem_map.mp hx; nofun⟩
theorem minD_strs : ∀ (ns : List Str) (n : Str), PySem.W.minD (.str n) (ns.map PyData.str) = .str (minS n ns)
  | [], n => rfl
  | m :: ns, n => by
    have ih := minD_strs ns
    unfold PySem.W.minD minS at ih ⊢
    rw [List.map_cons, List.foldl_cons, List.foldl_cons, PySem.W.dataLt_str]
    by_cases h : m.cps.toList < n.cps.toList
    · rw [if_pos h, decide_eq_true h, if_pos rfl]; exact ih m
    · rw [if_neg h, decide_eq_false h, if_neg Bool.false_ne_true]; exact ih n
theorem maxD_strs : ∀ (ns : List Str) (n : Str), PySem.W.maxD (.str n) (ns.map PyData.str) = .str (maxS n ns)
  | [], n => rfl
  | m :: ns, n => by
    have ih := maxD_strs ns
    unfold PySem.W.maxD maxS at ih ⊢
    rw [List.map_cons, List.foldl_cons, List.foldl_cons, PySem.W.dataLt_str]
    by_cases h : n.cps.toList < m.cps.toList
    · rw [if_pos h, decide_eq_true h, if_pos rfl]; exact ih m
    · rw [if_neg h, decide_eq_false h, if_neg Bool.false_ne_true]; exact ih n
theorem minD_zs : ∀ (ns : List Int) (n : Int), PySem.W.minD (.int n) (ns.map PyData.int) = .int (minZ n ns)
  | [], n => rfl
  | m :: ns, n => by
    have ih := minD_zs ns
    unfold PySem.W.minD minZ at ih ⊢
    rw [List.map_cons, List.foldl_cons, List.foldl_cons, PySem.W.dataLt_int]
    by_cases h : m < n
    · rw [if_pos h, decide_eq_true h, if_pos rfl]; exact ih m
    · rw [if_neg h, decide_eq_false h, if_neg Bool.false_ne_true]; exact ih n
theorem maxD_zs : ∀ (ns : List Int) (n : Int), PySem.W.maxD (.int n) (ns.map PyData.int) = .int (maxZ n ns)
  | [], n => rfl
  | m :: ns, n => by
    have ih := maxD_zs ns
    unfold PySem.W.maxD maxZ at ih ⊢
    rw [List.map_cons, List.foldl_cons, List.foldl_cons, PySem.W.dataLt_int]
    by_cases h : n < m
    · rw [if_pos h, decide_eq_true h, if_pos rfl]; exact ih m
    · rw [if_neg h, decide_eq_false h, if_neg Bool.false_ne_true]; exact ih n
theorem read_int {h : Heap} {v : Value} {i : Int} {as : List Addr} (r : Reads h v (.int i) as) : ∃ t, v = .int i t := by cases r; exact ⟨_, rfl⟩
theorem read_str {h : Heap} {v : Value} {i : Str} {as : List Addr} (r : Reads h v (.str i) as) : ∃ t, v = .str i t := by cases r; exact ⟨_, rfl⟩
theorem cr_minA {X : Cx} (hc : X.calm = true) (hu : X.A.units + 64 < cLine) : CallR X (.builtin "min") (rBest X.K minZ minS) := by
  intro pins s σ H vs us Q I r h
  obtain ⟨a, rfl, h⟩ := h
  rw [Vals.ref1 r]
  rcases h with ⟨n, ns, hs | hs, q⟩ | ⟨n, ns, hs | hs, q⟩
  · obtain ⟨its, rv, hl, _⟩ := I.list hs
    obtain ⟨as, rd⟩ := reads_ints (h := s.heap) rv
    refine PySem.W.min_list_data (I.ok.hd hc) hl.isList rd (alike_ints (n :: ns)) (by rw [← List.map_cons, depth_ints]; omega) fun i v h' tk bs _ hr hk => ?_
    rw [M.minD_zs] at hr
    obtain ⟨t, rfl⟩ := read_int hr
    exact ⟨.int _, H, I.kept hk, ⟨t, rfl⟩, q⟩
  · obtain ⟨its, rv, hl, _⟩ := I.tuple hs
    obtain ⟨as, rd⟩ := reads_ints (h := s.heap) rv
    refine PySem.W.min_tuple_data (I.ok.hd hc) (show s.heap.IsTuple a its.toArray from hl) rd (alike_ints (n :: ns)) (by rw [← List.map_cons, depth_ints]; omega) fun i v h' tk bs _ hr hk => ?_
    rw [M.minD_zs] at hr
    obtain ⟨t, rfl⟩ := read_int hr
    exact ⟨.int _, H, I.kept hk, ⟨t, rfl⟩, q⟩
  · obtain ⟨its, rv, hl, _⟩ := I.list hs
    obtain ⟨as, rd⟩ := reads_strs (h := s.heap) rv
    refine PySem.W.min_list_data (I.ok.hd hc) hl.isList rd (alike_strs (n :: ns)) (by rw [← List.map_cons, depth_strs]; omega) fun i v h' tk bs _ hr hk => ?_
    rw [minD_strs] at hr
    obtain ⟨t, rfl⟩ := read_str hr
    exact ⟨.str _, H, I.kept hk, ⟨t, rfl⟩, q⟩
  · obtain ⟨its, rv, hl, _⟩ := I.tuple hs
    obtain ⟨as, rd⟩ := reads_strs (h := s.heap) rv
    refine PySem.W.min_tuple_data (I.ok.hd hc) (show s.heap.IsTuple a its.toArray from hl) rd (alike_strs (n :: ns)) (by rw [← List.map_cons, depth_strs]; omega) fun i v h' tk bs _ hr hk => ?_
    rw [minD_strs] at hr
    obtain ⟨t, rfl⟩ := read_str hr
    exact ⟨.str _, H, I.kept hk, ⟨t, rfl⟩, q⟩
theorem cr_maxA {X : Cx} (hc : X.calm = true) (hu : X.A.units + 64 < cLine) : CallR X (.builtin "max") (rBest X.K maxZ maxS) := by
  intro pins s σ H vs us Q I r h
  obtain ⟨a, rfl, h⟩ := h
  rw [Vals.ref1 r]
  rcases h with ⟨n, ns, hs | hs, q⟩ | ⟨n, ns, hs | hs, q⟩
  · obtain ⟨its, rv, hl, _⟩ := I.list hs
    obtain ⟨as, rd⟩ := reads_ints (h := s.heap) rv
    refine PySem.W.max_list_data (I.ok.hd hc) hl.isList rd (alike_ints (n :: ns)) (by rw [← List.map_cons, depth_ints]; omega) fun i v h' tk bs _ hr hk => ?_
    rw [maxD_zs] at hr
    obtain ⟨t, rfl⟩ := read_int hr
    exact ⟨.int _, H, I.kept hk, ⟨t, rfl⟩, q⟩
  · obtain ⟨its, rv, hl, _⟩ := I.tuple hs
    obtain ⟨as, rd⟩ := reads_ints (h := s.heap) rv
    refine PySem.W.max_tuple_data (I.ok.hd hc) (show s.heap.IsTuple a its.toArray from hl) rd (alike_ints (n :: ns)) (by rw [← List.map_cons, depth_ints]; omega) fun i v h' tk bs _ hr hk => ?_
    rw [maxD_zs] at hr
    obtain ⟨t, rfl⟩ := read_int hr
    exact ⟨.int _, H, I.kept hk, ⟨t, rfl⟩, q⟩
  · obtain ⟨its, rv, hl, _⟩ := I.list hs
    obtain ⟨as, rd⟩ := reads_strs (h := s.heap) rv
    refine PySem.W.max_list_data (I.ok.hd hc) hl.isList rd (alike_strs (n :: ns)) (by rw [← List.map_cons, depth_strs]; omega) fun i v h' tk bs _ hr hk => ?_
    rw [maxD_strs] at hr
    obtain ⟨t, rfl⟩ := read_str hr
    exact ⟨.str _, H, I.kept hk, ⟨t, rfl⟩, q⟩
  · obtain ⟨its, rv, hl, _⟩ := I.tuple hs
    obtain ⟨as, rd⟩ := reads_strs (h := s.heap) rv
    refine PySem.W.max_tuple_data (I.ok.hd hc) (show s.heap.IsTuple a its.toArray from hl) rd (alike_strs (n :: ns)) (by rw [← List.map_cons, depth_strs]; omega) fun i v h' tk bs _ hr hk => ?_
    rw [maxD_strs] at hr
    obtain ⟨t, rfl⟩ := read_str hr
    exact ⟨.str _, H, I.kept hk, ⟨t, rfl⟩, q⟩
def seqD : D → Option (List D)
  | .lst xs => some xs
  | .tup xs => some xs
  | _ => none
def bestN (gi : Int → List Int → Int) (gs : Str → List Str → Str) : OpN
  | [x] => match seqD x with
    | some xs => match ints? xs with
      | some (n :: ns) => some (.int (gi n ns))
      | _ => match strs? xs with
        | some (z :: zs) => some (.str (gs z zs))
        | _ => none
    | none => none
  | _ => none
theorem rc_best {K : PySem.W.Frag} {gi : Int → List Int → Int} {gs : Str → List Str → Str} : RC (rBest K gi gs) (bestN gi gs) := fun {B E S σ I H} r {vs ds d} hv e {Q} k => by
  unfold bestN at e
  split at e
  · rename_i x
    obtain ⟨v, rfl, h⟩ := one1 hv
    have sq : ∀ {xs : List D}, seqD x = some xs → ∃ a ws, v = .ref a ∧ (SqL K H a ws ∨ SqT K H a ws) ∧ DenL B.c I ws xs := fun {xs} q => by
      unfold seqD at q
      split at q <;> cases q
      · obtain ⟨a, ws, rfl, hr, hl⟩ := h.toL
        exact ⟨a, ws, rfl, .inl (exL r hr), hl⟩
      · obtain ⟨a, ws, rfl, hr, hl⟩ := h.toT
        exact ⟨a, ws, rfl, .inr (exT r hr), hl⟩
    split at e
    · rename_i xs q
      obtain ⟨a, ws, rfl, hs, hl⟩ := sq q
      split at e
      · rename_i n ns q2
        cases e
        refine ⟨a, rfl, .inl ⟨n, ns, ?_, k _ I H r le_rfl (.int _)⟩⟩
        rw [← ints_ok hl q2]
        exact hs
      · split at e
        · rename_i z zs q2
          cases e
          refine ⟨a, rfl, .inr ⟨z, zs, ?_, k _ I H r le_rfl (.str _)⟩⟩
          rw [← strs_ok hl q2]
          exact hs
        · cases e
    · cases e
  · cases e
end M

set_option Elab.async false
set_option linter.all false
set_option maxRecDepth 100000
set_option maxHeartbeats 4000000
namespace M
open PySem L2 PySem.Spec PyProof.Rows

/-! ### what is never reached -/
theorem pe_no {X : Cx} {e : Expr} : PE X e (fun _ _ _ => False) := ⟨fun _ _ _ _ _ _ h => h.elim⟩
def noE : FE := fun _ _ => none
theorem re_no : RE (fun _ _ _ => False) noE := fun {B E S σ I H} r {d S'} e {Q} k => by cases e
theorem callR_or {X : Cx} {f : Value} {r1 r2 : List V → Hp → VK → Prop} (h1 : CallR X f r1) (h2 : CallR X f r2) : CallR X f (fun xs H Q => r1 xs H Q ∨ r2 xs H Q) := fun pins s σ H xs us Q I r h => by
  rcases h with h | h
  · exact h1 pins s σ H xs us Q I r h
  · exact h2 pins s σ H xs us Q I r h

/-! ### list(..) of dicts, too -/
def keysN : OpN
  | [.dic kds] => some (.lst (kds.map fun p => kD p.1))
  | _ => none
def keysTN : OpN
  | [.dtk kds] => some (.lst (kds.map fun p => .tup (p.1.map kD)))
  | _ => none
theorem denL_keys {c : Option Addr} {I : Hp} : ∀ {kvs : List (Key × V)} {kds : List (Key × D)}, DenP c I kvs kds → DenL c I (kvs.map fun kv => kV kv.1) (kds.map fun p => kD p.1)
  | _, _, .nil => .nil
  | _, _, .cons r t => by
    rw [List.map_cons, List.map_cons, r.1]
    exact .cons (den_key _) (denL_keys t)
theorem rcf_keys : RCF (fun xs H Q => ∃ (a : Addr) (kvs : List (Key × V)), xs = [.ref a] ∧ Rd H a (.dK kvs) ∧ ∀ p, H p = none → Q (.ref p) (upd H p (.lst (kvs.map fun kv => kV kv.1)))) keysN := fun {B E S σ I H} r {vs ds d} hv e {Q} k => by
  unfold keysN at e
  split at e
  · cases e
    obtain ⟨v, rfl, h⟩ := one1 hv
    obtain ⟨a, kvs, rfl, hr, hl⟩ := h.toD
    exact ⟨a, kvs, rfl, r.st.sub.rd hr, fun p hp => k _ I _ (r.alloc hp) le_rfl (r.fresh hp (.lst (denL_keys hl)))⟩
  · cases e
theorem denL_ks {c : Option Addr} {I : Hp} : ∀ ks : List Key, DenL c I (ks.map kV) (ks.map kD)
  | [] => .nil
  | k :: r => .cons (den_key k) (denL_ks r)
theorem frz_keys {B : Bs} {E : Ev} {S : Sm} {σ : L2.St} {H : Hp} : ∀ {kvs : List (List Key × V)} {bs : List Addr}, IsKeys H kvs bs → ∀ {I : Hp}, R B E S σ I H → ∃ I', R B E S σ I' H ∧ Le I I' ∧ DenL B.c I' (bs.map V.ref) (kvs.map fun p => .tup (p.1.map kD))
  | _, _, .nil, I, r => ⟨I, r, le_rfl, .nil⟩
  | _, _, .cons h t, I, r => by
    obtain ⟨I1, r1, l1, h1⟩ := r.frzT h
    obtain ⟨I2, r2, l2, h2⟩ := frz_keys t r1
    exact ⟨I2, r2, l1.trans l2, .cons (den_tup (l2 _ _ h1) (denL_ks _)) h2⟩
theorem rcf_keysT : RCF (fun xs H Q => ∃ d kvs, xs = [V.ref d] ∧ Rd H d (.dT kvs) ∧ ∀ p bs, H p = none → IsKeys H kvs bs → Q (.ref p) (upd H p (.lst (bs.map V.ref)))) keysTN := fun {B E S σ I H} r {vs ds d} hv e {Q} k => by
  unfold keysTN at e
  split at e
  · cases e
    rename_i kds
    obtain ⟨v, rfl, h⟩ := one1 hv
    obtain ⟨a, kvs, rfl, hr, hl⟩ := h.toK
    refine ⟨a, kvs, rfl, r.st.sub.rd hr, fun p bs hp hk => ?_⟩
    obtain ⟨I1, r1, l1, h1⟩ := frz_keys hk r
    have e : (kvs.map fun p => D.tup (p.1.map kD)) = kds.map fun p => D.tup (p.1.map kD) := by
      have h2 := congrArg (List.map fun k : List Key => D.tup (k.map kD)) hl.keys
      simpa only [List.map_map, Function.comp_def] using h2
    rw [e] at h1
    exact k _ I1 _ (r1.alloc hp) l1 (r1.fresh hp (.lst h1))
  · cases e
def listA : OpN := orN listN (orN keysN keysTN)
def rListA (K : PySem.W.Frag) : List V → Hp → VK → Prop := fun xs H Q => (∃ p ys, xs = [.ref p] ∧ (SqL K H p ys ∨ SqT K H p ys) ∧ ∀ l, H l = none → Q (.ref l) (upd H l (.lst ys))) ∨ (∃ (a : Addr) (kvs : List (Key × V)), xs = [.ref a] ∧ Rd H a (.dK kvs) ∧ ∀ p, H p = none → Q (.ref p) (upd H p (.lst (kvs.map fun kv => kV kv.1)))) ∨
  ∃ d kvs, xs = [V.ref d] ∧ Rd H d (.dT kvs) ∧ ∀ p bs, H p = none → IsKeys H kvs bs → Q (.ref p) (upd H p (.lst (bs.map V.ref)))
theorem call_listA {X : Cx} (hc : X.calm = true) : CallR X (.type "list") (rListA X.K) := callR_or call_list_of (callR_or (call_listD hc) (call_list_dT hc))
theorem rcf_listA {K : PySem.W.Frag} : RCF (rListA K) listA := rcf_or rcf_list (rcf_or rcf_keys rcf_keysT)

/-! ### abs, int, ** -/
def absN : OpN
  | [.int i] => some (.int (if i < 0 then -i else i))
  | _ => none
theorem rc_abs : RC (fun xs H Q => ∃ i, xs = [.int i] ∧ Q (.int (if i < 0 then -i else i)) H) absN := fun {B E S σ I H} r {vs ds d} hv e {Q} k => by
  unfold absN at e
  split at e
  · cases e
    obtain ⟨v, rfl, h⟩ := one1 hv
    cases den_int h
    exact ⟨_, rfl, k _ I H r le_rfl (.int _)⟩
  · cases e
def intN : OpN
  | [.int i] => some (.int i)
  | [.bl b] => some (.int (if b then 1 else 0))
  | _ => none
theorem rc_int : RC (fun xs H Q => (∃ i, xs = [.int i] ∧ Q (.int i) H) ∨ ∃ k, xs = [.bl k] ∧ Q (.int (if k then 1 else 0)) H) intN := fun {B E S σ I H} r {vs ds d} hv e {Q} k => by
  unfold intN at e
  split at e
  · cases e
    obtain ⟨v, rfl, h⟩ := one1 hv
    cases den_int h
    exact .inl ⟨_, rfl, k _ I H r le_rfl (.int _)⟩
  · cases e
    obtain ⟨v, rfl, h⟩ := one1 hv
    cases den_bl h
    exact .inr ⟨_, rfl, k _ I H r le_rfl (.int _)⟩
  · cases e
def CPowB (i j : Int) : Prop := 0 ≤ j ∧ j ≤ 100 ∧ i.natAbs < 2 ^ 1000
theorem op_powB {X : Cx} : OpR X (binaryOp .Pow) (rI CPowB fun i j => .int (i ^ j.toNat)) := opI fun i j _ _ _ _ _ hc q => pow_int hc.1 (by
  have h : Builtin.Int.intBits i ≤ 1000 := PyProof.Rows.intBits_le hc.2.2
  have h2 := hc.2.1
  have h1 := hc.1
  have : (Builtin.Int.intBits i : Int) * j ≤ 1000 * 100 := Int.mul_le_mul (by omega) h2 h1 (by decide)
  omega) q
def powI : Op2
  | .int i, .int j => if 0 ≤ j ∧ j ≤ 100 ∧ i.natAbs < 2 ^ 1000 then some (.int (i ^ j.toNat)) else none
  | _, _ => none
theorem rb_pow : RB (rI CPowB fun i j => .int (i ^ j.toNat)) powI := rb_I fun a b c e => by
  unfold powI at e
  split at e
  · split at e <;> cases e
    rename_i h
    exact ⟨_, _, rfl, rfl, h, fun _ _ => .int _⟩
  · cases e

/-! ### join of texts -/
def joinN (d : D) (e : D) : Option D := match d, e with
  | .str a, .lst xs => match strs? xs with
    | some ys => if (ys.map (·.length)).sum + ys.length * a.length ≤ 1000000 then some (.str (Txt.join a ys)) else none
    | none => none
  | _, _ => none
def joinE (fa fb : FE) : FE := opE joinN fa fb
theorem re_join {K : PySem.W.Frag} {ta tb : TE} {fa fb : FE} (ha : RE ta fa) (hb : RE tb fb) : RE (tM1 (fun x xs H Q => ∃ a p, ∃ ys : List Str, x = .str a ∧ xs = [.ref p] ∧ (SqL K H p (ys.map V.str) ∨ SqT K H p (ys.map V.str)) ∧
      (ys.map (·.length)).sum + ys.length * a.length ≤ 16777216 ∧ Q (.str (Txt.join a ys)) H) ta tb) (joinE fa fb) := fun {B E S σ I H} rr {d S'} e {Q} k => by
  obtain ⟨x, S1, y, q1, q2, q3⟩ := opE_some.mp e
  unfold joinN at q3
  split at q3
  · rename_i a xs
    split at q3
    · rename_i ys q4
      split at q3 <;> cases q3
      rename_i hz
      refine ha rr q1 fun v1 I1 H1 r1 l1 h1 => ⟨⟨a, den_str h1⟩, hb r1 q2 fun v2 I2 H2 r2 l2 h2 => ?_⟩
      obtain ⟨p, vs, rfl, hr, hl⟩ := h2.toL
      exact ⟨a, p, ys, den_str h1, rfl, .inl (by rw [← strs_ok hl q4]; exact exL r2 hr), Nat.le_trans hz (by decide), k _ I2 H2 r2 (l1.trans l2) (.str _)⟩
    · cases q3
  · cases q3

/-! ### while -/
def whN (c : FT) (body : FS) : Nat → FS
  | 0 => fun _ _ => none
  | n + 1 => fun E S => match c E S with
    | none => none
    | some (false, S1) => some (.nx, E, S1)
    | some (true, S1) => match body E S1 with
      | some (.nx, E2, S2) => whN c body n E2 S2
      | some (.ct, E2, S2) => whN c body n E2 S2
      | some (.bk, E2, S2) => some (.nx, E2, S2)
      | some (.rt d, E2, S2) => some (.rt d, E2, S2)
      | none => none
open Classical in
noncomputable def whS (c : FT) (body : FS) : FS := fun E S => if h : ∃ n w, whN c body n E S = some w then some h.choose_spec.choose else none
theorem whN_mono {c : FT} {body : FS} : ∀ {n : Nat} {E : Ev} {S : Sm} {w : Out × Ev × Sm}, whN c body n E S = some w → ∀ m, whN c body (n + m) E S = some w
  | 0, E, S, w, e, m => by cases e
  | n + 1, E, S, w, e, m => by
    rw [show n + 1 + m = (n + m) + 1 by omega]
    unfold whN at e ⊢
    split at e
    · cases e
    · exact e
    · rename_i S1 q
      split at e
      · exact whN_mono e m
      · exact whN_mono e m
      · exact e
      · exact e
      · cases e
theorem whS_at {c : FT} {body : FS} {E : Ev} {S : Sm} {n : Nat} {w : Out × Ev × Sm} (e : whN c body n E S = some w) : whS c body E S = some w := by
  unfold whS
  have h : ∃ n w, whN c body n E S = some w := ⟨n, w, e⟩
  rw [dif_pos h]
  have e2 := h.choose_spec.choose_spec
  have e3 := whN_mono e h.choose
  have e4 := whN_mono e2 n
  rw [Nat.add_comm] at e4
  rw [e3] at e4
  exact e4.symm
theorem whS_of {c : FT} {body : FS} {E : Ev} {S : Sm} {w : Out × Ev × Sm} (e : whS c body E S = some w) : ∃ n, whN c body n E S = some w := by
  unfold whS at e
  split at e
  · rename_i h
    cases e
    exact ⟨h.choose, h.choose_spec.choose_spec⟩
  · cases e
theorem rs_while {tc : TT} {c : FT} {tb : TS} {body : FS} (hc : RT tc c) (hb : RS tb body) : RS (tWhile tc tb) (whS c body) := fun {B E S σ I H} r {o E' S'} e {Dn} k => by
  obtain ⟨n0, e0⟩ := whS_of e
  refine ⟨fun m σ1 H1 => ∃ E1 S1 I1, R B E1 S1 σ1 I1 H1 ∧ Le I I1 ∧ whN c body m E1 S1 = some (o, E', S'), ⟨n0, E, S, I, r, le_rfl, e0⟩, ?_⟩
  rintro m σ1 H1 ⟨E1, S1, I1, r1, l1, e1⟩
  cases m with
  | zero => cases e1
  | succ m =>
    unfold whN at e1
    split at e1
    · cases e1
    · rename_i S2 q
      cases e1
      refine hc r1 q fun I2 H2 r2 l2 => ?_
      rw [if_neg Bool.false_ne_true]
      exact k σ1 I2 H2 r2 (l1.trans l2)
    · rename_i S2 q
      refine hc r1 q fun I2 H2 r2 l2 => ?_
      rw [if_pos rfl]
      refine ⟨fun σ3 H3 => ∃ E3 S3 I3, R B E3 S3 σ3 I3 H3 ∧ Le I I3 ∧ whN c body m E3 S3 = some (o, E', S'), fun σ3 H3 h3 => ⟨m, Nat.lt_succ_self m, h3⟩, ?_⟩
      split at e1
      · rename_i E3 S3 q3
        exact hb r2 q3 fun σ3 I3 H3 r3 l3 => ⟨E3, S3, I3, r3, l1.trans (l2.trans l3), e1⟩
      · rename_i E3 S3 q3
        exact hb r2 q3 fun σ3 I3 H3 r3 l3 => ⟨E3, S3, I3, r3, l1.trans (l2.trans l3), e1⟩
      · rename_i E3 S3 q3
        cases e1
        exact hb r2 q3 fun σ3 I3 H3 r3 l3 => k σ3 I3 H3 r3 (l1.trans (l2.trans l3))
      · rename_i d E3 S3 q3
        cases e1
        exact hb r2 q3 fun v I3 H3 s3 l3 hd => k v I3 H3 s3 (l1.trans (l2.trans l3)) hd
      · cases e1

/-! ### calls -/
structure Cal (P : Program) (w : World) (K : PySem.W.Frag) (mg : Str → Option Value) (base : Heap) (k : Nat) (x : Str) (sp : Sp) : Prop where
  ex : ∃ (f : Addr) (fd : FuncData) (ps : List Str), FnOk P w K mg base CX0 k f fd ps sp ∧ mg x = some (.ref f) ∧ PySem.W.keepIn K (.ref f) = true ∧ Binds K fd ps []
structure Met (P : Program) (w : World) (K : PySem.W.Frag) (mg : Str → Option Value) (base : Heap) (k : Nat) (C : Addr) (m : Str) (sp : Sp) : Prop where
  ex : ∃ (f : Addr) (fd : FuncData) (ps : List Str), Cls K C ∧ Meth K C m f ∧ FnOk P w K mg base CX0 k f fd ps sp ∧ Binds K fd ps []
structure Mak (P : Program) (w : World) (K : PySem.W.Frag) (mg : Str → Option Value) (base : Heap) (k : Nat) (x : Str) (C : Addr) (sp : Sp) : Prop where
  ex : ∃ (f : Addr) (fd : FuncData) (ps : List Str), Mk K C f ∧ FnOk P w K mg base CX0 k f fd ps sp ∧ mg x = some (.ref C) ∧ Binds K fd ps []
section
variable {X : Cx} {k j : Nat} {C : Addr} {sp : Sp} {x m : Str} {p pos apos : Pos} {e o : Expr} {es : List Expr} {ta : TE} {t : TA}
theorem pe_c (c : Cal X.prog X.w X.K X.mg X.base k x sp) (hr : Room j X.A) (hk : k ≤ j) (hg : Gl X x) (ha : PA X (e :: es) t)
    (hdb : (x == ("__debug__" : Str)) = false := by decide) (he : starEach (e :: es) X.env = (false, eval e X.env) :: starEach es X.env := by rfl) (hpl : (backTo pos (starEach es X.env)).any (·.1) = false := by rfl) :
    PE X (.Call (.Name x p) (e :: es) [] pos) (tCall sp [] E0 t) := by
  obtain ⟨f, fd, ps, F, hm, kp, b⟩ := c.ex
  exact pe_call F (hr.mono hk) hg hm kp b .nil pass0 ha hdb he hpl
theorem pe_mk (c : Mak X.prog X.w X.K X.mg X.base k x C sp) (hr : Room j X.A) (hk : k + 1 ≤ j) (hg : Gl X x) (ha : PA X (e :: es) t)
    (hdb : (x == ("__debug__" : Str)) = false := by decide) (he : starEach (e :: es) X.env = (false, eval e X.env) :: starEach es X.env := by rfl) (hpl : (backTo pos (starEach es X.env)).any (·.1) = false := by rfl) :
    PE X (.Call (.Name x p) (e :: es) [] pos) (tMake C sp [] E0 t) := by
  obtain ⟨f, fd, ps, M, F, hm, b⟩ := c.ex
  exact pe_make M F (hr.mono hk) hg hm b .nil pass0 ha hdb he hpl
theorem pe_mt {pl : Sem Bool} (c : Met X.prog X.w X.K X.mg X.base k C m sp) (hr : Room j X.A) (hk : k ≤ j) (he : PE X o ta) (ha : PA X (e :: es) t)
    (hst : starEach (e :: es) X.env = (false, eval e X.env) :: starEach es X.env := by rfl) (hpl : (backTo pos (starEach es X.env)).any (·.1) = false := by rfl)
    (ht : eval (.Call (.Attribute o m apos) (e :: es) [] pos) X.env = (do
      let ov ← eval o X.env
      standAt apos.atName
      let (f, first) ← holding [ov] (getMethod ov m pl)
      callWith pos f first (backTo pos (starEach (e :: es) X.env)) (backToKw pos (keywordEach [] X.env))) := by rfl) :
    PE X (.Call (.Attribute o m apos) (e :: es) [] pos) (tMeth C m sp [] E0 ta t) := by
  obtain ⟨f, fd, ps, hc, hm, F, b⟩ := c.ex
  exact pe_meth (pl := pl) he hc hm F (hr.mono hk) b .nil pass0 ha hst hpl ht
theorem pe_mt0 {pl : Sem Bool} (c : Met X.prog X.w X.K X.mg X.base k C m sp) (hr : Room j X.A) (hk : k ≤ j) (he : PE X o ta)
    (ht : eval (.Call (.Attribute o m apos) [] [] pos) X.env = (do
      let ov ← eval o X.env
      standAt apos.atName
      let (f, first) ← holding [ov] (getMethod ov m pl)
      callWith pos f first (backTo pos (starEach [] X.env)) (backToKw pos (keywordEach [] X.env))) := by rfl) :
    PE X (.Call (.Attribute o m apos) [] [] pos) (tMeth C m sp [] E0 ta tNil) := by
  obtain ⟨f, fd, ps, hc, hm, F, b⟩ := c.ex
  exact pe_meth0 (pl := pl) he hc hm F (hr.mono hk) b .nil pass0 ht
end
/-! ### calls by keywords alone -/
def permL {α : Type} (ix : List Nat) (l : List α) : List α := ix.filterMap (l[·]?)
theorem permL_vals {vs : List V} {us : List Value} (h : Vals vs us) : ∀ ix : List Nat, Vals (permL ix vs) (permL ix us)
  | [] => .nil
  | i :: r => by
    have ih := permL_vals h r
    unfold permL at ih ⊢
    rw [List.filterMap_cons, List.filterMap_cons]
    have hl : vs.length = us.length := h.length
    by_cases hi : i < vs.length
    · obtain ⟨u, hu, ru⟩ := h.get (List.getElem?_eq_getElem hi)
      rw [hu, List.getElem?_eq_getElem hi]
      exact .cons ru ih
    · rw [List.getElem?_eq_none (by omega), List.getElem?_eq_none (by omega)]
      exact ih
theorem permL_den {c : Option Addr} {I : Hp} {vs : List V} {ds : List D} (h : DenL c I vs ds) : ∀ ix : List Nat, DenL c I (permL ix vs) (permL ix ds)
  | [] => .nil
  | i :: r => by
    have ih := permL_den h r
    unfold permL at ih ⊢
    rw [List.filterMap_cons, List.filterMap_cons]
    have hl : vs.length = ds.length := Paired.length h
    by_cases hi : i < vs.length
    · have h2 := paired_at h i _ _ (List.getElem?_eq_getElem hi) (List.getElem?_eq_getElem (by omega))
      rw [List.getElem?_eq_getElem hi, List.getElem?_eq_getElem (by omega)]
      exact .cons h2 ih
    · rw [List.getElem?_eq_none (by omega), List.getElem?_eq_none (by omega)]
      exact ih
structure KCal (P : Program) (w : World) (K : PySem.W.Frag) (mg : Str → Option Value) (base : Heap) (k : Nat) (x : Str) (sp : Sp) (ks : List Str) (ix : List Nat) : Prop where
  ex : ∃ (f : Addr) (fd : FuncData) (ps : List Str), FnOk P w K mg base CX0 k f fd ps sp ∧ mg x = some (.ref f) ∧ PySem.W.keepIn K (.ref f) = true ∧ KBn K fd ps 0 ks (fun _ ws => permL ix ws) (fun _ zs => permL ix zs)
def tCallP (n : Nat) (sp : Sp) (ix : List Nat) (E : XK) (tk : TA) : TE := fun σ H Q => tk σ H fun zs H2 => zs.length = n ∧ sp (permL ix zs) H2 Q E
theorem pe_kw0 {X : Cx} {j k : Nat} {sp : Sp} {x : Str} {p pos : Pos} {kws : List Keyword} {tk : TA} {ks : List Str} {ix : List Nat} (c : KCal X.prog X.w X.K X.mg X.base k x sp ks ix) (hr : Room j X.A) (hk : k ≤ j) (hg : Gl X x) (hkw : PK X kws tk)
    (hall : (backToKw pos (keywordEach kws X.env)).all (·.1.isSome) = true := by rfl) (hks : (backToKw pos (keywordEach kws X.env)).filterMap (·.1) = ks := by rfl) (hdb : (x == ("__debug__" : Str)) = false := by decide)
    (hpl : ((backTo pos (starEach [] X.env)).any (·.1) || (backToKw pos (keywordEach kws X.env)).any (·.1.isNone)) = false := by rfl) :
    PE X (.Call (.Name x p) [] kws pos) (tCallP ks.length sp ix E0 tk) := by
  obtain ⟨f, fd, ps, F, hm, kp, b⟩ := c.ex
  refine ⟨fun pins s σ H Q I h => ?_⟩
  refine wpAny_Call_Name_kw (ld_glob I hg hm ?_ hdb)
  refine PySem.W.callWith_KW0 (h₀ := X.base) I.ok.mod.kin kp hall ?_ hpl
  refine thn (hkw.run pos pins s σ H _ I h) fun ws s2 ⟨zs, H2, I2, rz, l2, q2⟩ => ⟨I2.kIn, ?_⟩
  rw [hks]
  exact run_fnN (us := []) (vs := []) F (hr.mono hk) b pass0 I2 .nil rz rfl l2 q2
def kwE (m : FM) (n nk : Nat) (ix : List Nat) (f : FA) : FE := fun E S => match f E S with
    | some (ds, S1) => if ds.length = nk ∧ (permL ix ds).length = n then m (permL ix ds) S1 else none
    | none => none
theorem re_kw {m : FM} {n nk : Nat} {ta : TA} {f : FA} {ix : List Nat} {X : XK} (ha : RA ta f) : RE (tCallP nk (spD m n) ix X ta) (kwE m n nk ix f) := fun {B E S σ I H} rr {d S'} e {Q} k => by
  unfold kwE at e
  split at e
  · rename_i ds S1 q
    split at e
    · rename_i hn
      exact ha rr q fun vs I1 H1 r1 l1 hd => ⟨(Paired.length hd).trans hn.1, spD_use r1 (permL_den hd ix) hn.2 e fun v I2 H2 r2 l2 h2 => k v I2 H2 r2 (l1.trans l2) h2⟩
    · cases e
  · cases e
theorem kcal_of {P : Program} {w : World} {K : PySem.W.Frag} {mg : Str → Option Value} {base : Heap} {k : Nat} {x qual : Str} {st : Stmt} {f : Addr} {fd : FuncData} {ps ks : List Str} {ix : List Nat} {sp : Sp} (F : Fun K x qual st f fd) (hm : mg x = some (.ref f)) (ok : FnOk P w K mg base CX0 k f fd ps sp)
    (h : ∀ (kV doc pm : Value) (an : Option Addr) (cdv ct : Value) (ws : List Value), ws.length = ks.length → bindArgs (PySem.W.fnOf x qual (defArgs st) (defBody st) (defScope st) .none kV doc pm an cdv ct) ⟨[], ks.zip ws⟩ = pure (ps.zip (permL ix ws))) : KCal P w K mg base k x sp ks ix := by
  have kp := F.kp
  obtain ⟨oc, od, kV, doc, pm, an, cdv, ct, osl, rfl, lk, hcd⟩ := F.ex
  refine ⟨f, _, ps, ok, hm, kp, ⟨fun s us ws _ hu hw => ?_, fun _ rz => permL_vals rz ix⟩⟩
  cases us with
  | nil => exact .of_eq (h kV doc pm an cdv ct ws hw)
  | cons _ _ => cases hu

/-! ### instances made -/
abbrev FI1 := List D → Sm → Option (List (Str × D) × Sm)
/-- the promise of an __init__ -/
def spI (C : Addr) (m : FI1) (n : Nat) : Sp := fun vs H Q _ => ∃ (B : Bs) (ds : List D) (S : Sm) (fs : List (Str × D)) (S' : Sm) (x dx : Addr) (vs' : List V) (H0 : Hp), vs = .ref x :: vs' ∧ H0 x = none ∧ H0 dx = none ∧ dx ≠ x ∧ H = upd (upd H0 dx (.own x)) x (.ins C dx []) ∧
  B.H = H0 ∧ Stt B B.I H0 S ∧ DenL B.c B.I vs' ds ∧ ds.length = n ∧ m ds S = some (fs, S') ∧ ∀ I' H', Stt B I' H' S' → Den B.c I' (.ref x) (.ins C fs) → Q .non H'
def mkE (C : Addr) (m : FI1) (n : Nat) (f : FA) : FE := fun E S => match f E S with
  | some (ds, S1) => if ds.length = n then match m ds S1 with
      | some (fs, S2) => some (.ins C fs, S2)
      | none => none
    else none
  | none => none
theorem re_mk {C : Addr} {m : FI1} {n : Nat} {ta : TA} {f : FA} {X : XK} (ha : RA ta f) : RE (tMake C (spI C m n) [] X ta) (mkE C m n f) := fun {B E S σ I H} rr {d S'} e {Q} k => by
  unfold mkE at e
  split at e
  · rename_i ds S1 q
    split at e
    · rename_i hn
      split at e
      · rename_i fs S2 q2
        cases e
        refine ha rr q fun vs I1 H1 r1 l1 hd x dx hx hdx hne => ?_
        rw [List.append_nil]
        exact ⟨⟨B.c, B.l, I1, H1, fun _ => none⟩, ds, S1, fs, S', x, dx, vs, H1, rfl, hx, hdx, hne, rfl, rfl, r1.st.refl, hd, hn, q2, fun I' H' s hden => ⟨rfl, k _ I' H' (r1.call s) (l1.trans s.le) hden⟩⟩
      · cases e
    · cases e
  · cases e
end M

set_option Elab.async false
set_option linter.all false
set_option maxRecDepth 100000
set_option maxHeartbeats 4000000
namespace M
open PySem L2 PySem.Spec PyProof.Rows

theorem ps_no {X : Cx} {st : Stmt} : PS X st (fun _ _ _ => False) := ⟨fun _ _ _ _ _ _ h => h.elim⟩
theorem rs_no : RS (fun _ _ _ => False) neverS := fun {B E S σ I H} r {o E' S'} e {Dn} k => by cases e
/-- len of a list of one's own -/
def lenOE (i : Nat) : FE := fun E S => match E[i]? with
  | some (.o (.lst ds)) => some (.int ds.length, S)
  | _ => none
theorem re_lenO {K : PySem.W.Frag} {i : Nat} : RE (tCB (fun xs H Q => ∃ x n, xs = [x] ∧ LenV K x H n ∧ Q (.int n) H) (tCons (tVar i) tNil)) (lenOE i) := fun {B E S σ I H} r {d S'} e {Q} k => by
  unfold lenOE at e
  split at e
  · rename_i ds q
    cases e
    obtain ⟨p, vs, h1, h2, h3⟩ := own_lst r q
    refine ⟨.ref p, h1, .ref p, vs.length, rfl, .inl ⟨vs, SqL.of h2, rfl⟩, ?_⟩
    rw [Paired.length h3]
    exact k _ I H r le_rfl (.int _)
  · cases e
/-- x.append(y.pop(e)) -/
def appPopS (i j : Nat) (f : FE) : FS := fun E S => match E[i]?, E[j]? with
  | some (.o (.lst fs)), some (.o (.lst ls)) => match f E S with
    | some (.int n, S1) => if 0 ≤ n ∧ fs.length < 1000000 ∧ n < 1000000 then match ls[n.toNat]? with
        | some d => some (.nx, (E.set j (.o (.lst (ls.eraseIdx n.toNat)))).set i (.o (.lst (fs ++ [d]))), S1)
        | none => none
      else none
    | _ => none
  | _, _ => none
theorem denL_erase {c : Option Addr} {I : Hp} {vs : List V} {ds : List D} (h : DenL c I vs ds) : ∀ n : Nat, DenL c I (vs.eraseIdx n) (ds.eraseIdx n) := by
  induction h with
  | nil => intro n; exact .nil
  | cons r t ih =>
    intro n
    cases n with
    | zero => exact t
    | succ n => exact .cons r (ih n)
theorem seqIx {n : Int} {m : Nat} (h0 : 0 ≤ n) (h : n.toNat < m) : seqIndex? n m = some n.toNat := by
  unfold seqIndex?
  have h1 : ¬ n < 0 := by omega
  have h2 : n < (m : Int) := by omega
  simp [h1, h2, h0]
theorem rs_appPop {K : PySem.W.Frag} {i j : Nat} {te : TE} {f : FE} (hij : i ≠ j) (h : RE te f) : RS (tDrop (tBM K "list" rAppend (tVar i) (tCons (tBM K "list" rPopAt (tVar j) (tCons te tNil)) tNil))) (appPopS i j f) := fun {B E S σ I H} r {o E' S'} e {Dn} k => by
  unfold appPopS at e
  split at e
  · rename_i fs ls q1 q2
    split at e
    · rename_i n S1 q3
      split at e
      · rename_i hn
        split at e <;> cases e
        rename_i d q4
        obtain ⟨p, vs, h1, h2, h3⟩ := own_lst r q1
        obtain ⟨p2, vs2, h4, h5, h6⟩ := own_lst r q2
        refine ⟨.ref p, h1, .inl ⟨rfl, vs, SqL.of h2⟩, .ref p2, h4, .inl ⟨rfl, vs2, SqL.of h5⟩, h r q3 fun v I' H' r' l hd => ?_⟩
        cases den_int hd
        obtain ⟨p', vs', g1, g2, g3⟩ := own_lst r' q1
        obtain ⟨p2', vs2', g4, g5, g6⟩ := own_lst r' q2
        rw [h1] at g1
        cases g1
        rw [h4] at g4
        cases g4
        have hne : p ≠ p2 := fun z => by subst z; exact r'.ne i j _ _ p hij q1 q2 h1 h4
        have hl2 := Paired.length g6
        have hlt : n.toNat < ls.length := (List.getElem?_eq_some_iff.mp q4).1
        obtain ⟨y, hy, hyd⟩ := denL_get g6 q4
        refine ⟨p2, vs2', n, n.toNat, y, rfl, rfl, g5, by omega, by omega, seqIx hn.1 (by omega), hy, ?_⟩
        have r2 := r'.mut q2 h4 (.lst (denL_erase g6 n.toNat)) (fun _ => nofun)
        have q1' : (E.set j (.o (.lst (ls.eraseIdx n.toNat))))[i]? = some (.o (.lst fs)) := by
          rw [List.getElem?_set_ne (Ne.symm hij)]; exact q1
        refine ⟨p, vs', y, rfl, rfl, by rw [upd_ne hne]; exact g2, by rw [Paired.length g3]; exact Nat.lt_of_lt_of_le hn.2.1 (by decide), ?_⟩
        exact k σ I' _ (r2.mut q1' h1 (.lst (Paired.snoc g3 hyd)) (fun _ => nofun)) l
      · cases e
    · cases e
  · cases e
end M
namespace M
open PySem L2 PySem.Spec PyProof.Rows
theorem pg_tupK {X : Cx} {K : PySem.W.Frag} {es : List Expr} {k : Nat} {pos : Pos} {t : TGs} {n : Nat} (hK : X.K = K) (hc : X.calm = true) (h : PGs X es t)
    (hn : (assignEach es X.env).length = n := by rfl) (hst : (assignEach es X.env).findIdx? (·.1) = none := by rfl) : PG X (.Tuple es k pos) (gTup K n t) := by
  subst hK
  exact pg_tup hc h hn hst
end M
namespace M
open PySem L2 PySem.Spec PyProof.Rows
/-! ### x, y = a, b where a name is a cell: by a tuple -/
abbrev tParT (K : PySem.W.Frag) (i j : Nat) (ta tb : TE) : TS := tAsg (tTup (tCons ta (tCons tb tNil))) (gTup K 2 (gCons (gName i) (gCons (gName j) gNil)))
theorem Fresh.alloc {B : Bs} {E : Ev} {σ : L2.St} {I H : Hp} {v : V} {d : D} (f : Fresh B E σ I H v d) {T : Addr} {u : HO} (hT : H T = none) : Fresh B E σ I (upd H T u) v d := by
  obtain ⟨p, w, rfl, g1, g2, g3, g4, g5⟩ := f
  exact ⟨p, w, rfl, g1, g2, by rw [upd_ne (ne_of_none g3 hT)]; exact g3, g4, g5⟩
theorem two_le : 2 ≤ sizeLine := by decide
theorem par_end {K : PySem.W.Frag} {i j : Nat} {v w : V} {σ : L2.St} {H : Hp} {T : Addr} {Q : L2.St → Hp → Prop} (h : Q ((σ.set i (some v)).set j (some w)) (upd H T (.tup [v, w]))) : gTup K 2 (gCons (gName i) (gCons (gName j) gNil)) (.ref T) σ (upd H T (.tup [v, w])) Q :=
  ⟨T, [v, w], rfl, SqT.of upd_same, rfl, v, [w], rfl, w, [], rfl, rfl, h⟩
theorem rs_parvoT {K : PySem.W.Frag} {i j : Nat} {ta tb : TE} {fa fb : FE} (hij : i ≠ j) (ha : RE ta fa) (hb : RF tb fb) : RS (tParT K i j ta tb) (parvoS i j fa fb) := fun {B E S σ I H} r {o E' S'} e {Dn} k => by
  unfold parvoS parG at e
  split at e
  · rename_i x S1 q1
    split at e
    · rename_i y S2 q2
      split at e <;> cases e
      rename_i hc
      refine ha r q1 fun v I1 H1 r1 l1 h1 => hb r1 q2 fun w I2 H2 r2 l2 h2 => ⟨two_le, fun T hT => par_end ?_⟩
      have r2' := r2.alloc (u := .tup [v, w]) hT
      have h2' := h2.alloc (u := .tup [v, w]) hT
      have r3 := r2'.setV hc.1 (h1.mono l2)
      have f3 : Fresh B (E.set i (.v x)) (σ.set i (some v)) I2 (upd H2 T (.tup [v, w])) w y := by
        obtain ⟨p, u, rfl, g1, g2, g3, g4, g5⟩ := h2'
        refine ⟨p, u, rfl, g1, g2, g3, g4, fun m e hm z => ?_⟩
        by_cases h : m = i
        · subst h
          rw [List.getElem?_set_self hc.1] at hm
          cases hm
        · rw [List.getElem?_set_ne (Ne.symm h)] at hm z
          exact g5 m e hm z
      exact k _ I2 _ (r3.setO (by rw [List.length_set]; exact hc.2.1) (notTup_ok (hc.2.2.2 rfl)) f3) (l1.trans l2)
    · cases e
  · cases e
theorem rs_parovT {K : PySem.W.Frag} {i j : Nat} {ta tb : TE} {fa fb : FE} (hij : i ≠ j) (ha : RF ta fa) (hb : RE tb fb) : RS (tParT K i j ta tb) (parovS i j fa fb) := fun {B E S σ I H} r {o E' S'} e {Dn} k => by
  unfold parovS parG at e
  split at e
  · rename_i x S1 q1
    split at e
    · rename_i y S2 q2
      split at e <;> cases e
      rename_i hc
      refine ha r q1 fun v I1 H1 r1 l1 f1 => ?_
      obtain ⟨p, u, rfl, hfr, hob, r1'⟩ := r1.hold f1 (hc.2.2.1 rfl)
      refine hb r1' q2 fun w I2 H2 r2 l2 h2 => ⟨two_le, fun T hT => par_end ?_⟩
      have r2' := r2.alloc (u := .tup [.ref p, w]) hT
      have r3 := r2'.uncell hfr
      have f3 := r2'.uncellF hfr (hob.mono l2)
      have r4 := r3.setO hc.1 (notTup_ok (hc.2.2.1 rfl)) f3
      exact k _ I2 _ (r4.setV (by rw [List.length_set]; exact hc.2.1) h2) (l1.trans l2)
    · cases e
  · cases e
theorem rs_parvvT {K : PySem.W.Frag} {i j : Nat} {ta tb : TE} {fa fb : FE} (hij : i ≠ j) (ha : RE ta fa) (hb : RE tb fb) : RS (tParT K i j ta tb) (parvvS i j fa fb) := fun {B E S σ I H} r {o E' S'} e {Dn} k => by
  unfold parvvS parG at e
  split at e
  · rename_i x S1 q1
    split at e
    · rename_i y S2 q2
      split at e <;> cases e
      rename_i hc
      refine ha r q1 fun v I1 H1 r1 l1 h1 => hb r1 q2 fun w I2 H2 r2 l2 h2 => ⟨two_le, fun T hT => par_end ?_⟩
      exact k _ I2 _ (((r2.alloc (u := .tup [v, w]) hT).setV hc.1 (h1.mono l2)).setV (by rw [List.length_set]; exact hc.2.1) h2) (l1.trans l2)
    · cases e
  · cases e
end M

set_option Elab.async false
set_option linter.all false
set_option maxRecDepth 100000
set_option maxHeartbeats 4000000
namespace M
open PySem L2 PySem.Spec PyProof.Rows

/-! ### the stream -/
section
variable {B : Bs} {I H : Hp} {S : Sm} {s : Addr} {E : Ev} {σ : L2.St}
theorem Stt.frNo (st : Stt B I H S) {a : Addr} (h : B.isSt a) : B.fr a = none := by
  cases q : B.fr a with
  | none => rfl
  | some o =>
    have z := (st.fr a o q).2.2.1
    obtain ⟨o', y⟩ := st.stH a h
    rw [z] at y
    cases y
theorem Stt.setS (st : Stt B I H S) (hc : B.c = some s) (cur cnt mix : Int) : Stt B I (upd H s (.lst [.ref B.l, .int cur, .int cnt, .int mix])) { S with cur := cur, cnt := cnt, mix := mix } := by
  obtain ⟨h0, h1, h2, h3, h4⟩ := st.st.at_ s hc
  have is : B.isSt s := ⟨s, hc, .inl rfl⟩
  refine ⟨fun a o h => ?_, st.le, fun a o h hi hn => ?_, st.new, ⟨fun q hq => ?_⟩, st.nofr, st.stH, fun a o h => ?_⟩
  · have : a ≠ s := fun e => by rw [e, h1] at h; cases h
    rw [upd_ne this]
    exact st.sub a o h
  · have : a ≠ s := fun e => hn (e ▸ is)
    rw [upd_ne this]
    exact st.keep a o h hi hn
  · rw [hc] at hq
    cases hq
    exact ⟨h0, h1, h2, upd_same, by rw [upd_ne (Ne.symm h0)]; exact h4⟩
  · have : a ≠ s := fun e => by rw [e, st.frNo is] at h; cases h
    rw [upd_ne this]
    exact st.fr a o h
theorem Stt.setL (st : Stt B I H S) (hc : B.c = some s) (cells : List Int) : Stt B I (upd H B.l (.lst (cells.map V.int))) { S with cells := cells } := by
  obtain ⟨h0, h1, h2, h3, h4⟩ := st.st.at_ s hc
  have is : B.isSt B.l := ⟨s, hc, .inr rfl⟩
  refine ⟨fun a o h => ?_, st.le, fun a o h hi hn => ?_, st.new, ⟨fun q hq => ?_⟩, st.nofr, st.stH, fun a o h => ?_⟩
  · have : a ≠ B.l := fun e => by rw [e, h2] at h; cases h
    rw [upd_ne this]
    exact st.sub a o h
  · have : a ≠ B.l := fun e => hn (e ▸ is)
    rw [upd_ne this]
    exact st.keep a o h hi hn
  · rw [hc] at hq
    cases hq
    exact ⟨h0, h1, h2, by rw [upd_ne h0]; exact h3, upd_same⟩
  · have : a ≠ B.l := fun e => by rw [e, st.frNo is] at h; cases h
    rw [upd_ne this]
    exact st.fr a o h
theorem R.stream (r : R B E S σ I H) {H' : Hp} {S' : Sm} (st : Stt B I H' S') (h : ∀ a, ¬ B.isSt a → H' a = H a) : R B E S' σ I H' := by
  refine ⟨st, r.len, r.v, fun i d hi => ?_, r.ne⟩
  obtain ⟨p, u, h1, h2, h3, h4, h5⟩ := r.o i d hi
  have : ¬ B.isSt p := fun z => by
    obtain ⟨o, y⟩ := r.st.stH p z
    rw [h3.1] at y
    cases y
  exact ⟨p, u, h1, h2, h3, by rw [h p this]; exact h4, h5⟩
theorem R.strm (r : R B E S σ I H) {i : Nat} (h : E[i]? = some (.v .strm)) : ∃ s, σ[i]? = some (some (.ref s)) ∧ B.c = some s ∧ s ≠ B.l ∧ H s = some (.lst [.ref B.l, .int S.cur, .int S.cnt, .int S.mix]) ∧ H B.l = some (.lst (S.cells.map V.int)) := by
  obtain ⟨x, h1, h2⟩ := r.v i _ h
  cases h2 with
  | strm hc =>
    obtain ⟨a1, a2, a3, a4, a5⟩ := r.st.st.at_ _ hc
    exact ⟨_, h1, hc, a1, a4, a5⟩
end
def isStrm (E : Ev) (i : Nat) : Bool := match E[i]? with
  | some (.v .strm) => true
  | _ => false
theorem isStrm_ok {E : Ev} {i : Nat} (h : isStrm E i = true) : E[i]? = some (.v .strm) := by
  unfold isStrm at h
  split at h
  · assumption
  · cases h
def stGet (S : Sm) : Int → Option Int
  | 1 => some S.cur
  | 2 => some S.cnt
  | 3 => some S.mix
  | _ => none
def stPut (S : Sm) (v : Int) : Int → Option Sm
  | 1 => some { S with cur := v }
  | 2 => some { S with cnt := v }
  | 3 => some { S with mix := v }
  | _ => none
def stE (i : Nat) (k : Int) : FE := fun E S => if isStrm E i = true then (stGet S k).map fun n => (.int n, S) else none
theorem re_st {K : PySem.W.Frag} {i : Nat} {k : Int} : RE (tOp (rIx K) (tVar i) (tC (.int k))) (stE i k) := fun {B E S σ I H} r {d S'} e {Q} kk => by
  unfold stE at e
  split at e
  · rename_i hs
    obtain ⟨s, h1, hc, hne, h2, h3⟩ := r.strm (isStrm_ok hs)
    refine ⟨.ref s, h1, ?_⟩
    unfold stGet at e
    split at e
    · cases e
      exact .inl ⟨s, _, 1, .int S.cur, rfl, rfl, SqL.of h2, rfl, kk _ I H r le_rfl (.int _)⟩
    · cases e
      exact .inl ⟨s, _, 2, .int S.cnt, rfl, rfl, SqL.of h2, rfl, kk _ I H r le_rfl (.int _)⟩
    · cases e
      exact .inl ⟨s, _, 3, .int S.mix, rfl, rfl, SqL.of h2, rfl, kk _ I H r le_rfl (.int _)⟩
    · cases e
  · cases e
def stS (i : Nat) (k : Int) (f : FE) : FS := fun E S => match f E S with
  | some (.int v, S1) => if isStrm E i = true then (stPut S1 v k).map fun S2 => (.nx, E, S2) else none
  | _ => none
theorem rs_st {i : Nat} {k : Int} {te : TE} {f : FE} (h : RE te f) : RS (tAsg te (gSub (tVar i) (tC (.int k)) rSetL)) (stS i k f) := fun {B E S σ I H} r {o E' S'} e {Dn} kk => by
  unfold stS at e
  split at e
  · rename_i v S1 q
    split at e
    · rename_i hs
      refine h r q fun w I1 H1 r1 l1 hd => ?_
      cases den_int hd
      obtain ⟨s, h1, hc, hne, h2, h3⟩ := r1.strm (isStrm_ok hs)
      refine ⟨.ref s, h1, ?_⟩
      have off : ∀ {u : HO} (a : Addr), ¬ B.isSt a → upd H1 s u a = H1 a := fun {u} a ha => upd_ne fun z => ha ⟨s, hc, .inl z⟩
      unfold stPut at e
      split at e
      · cases e
        exact ⟨s, _, 1, 1, rfl, rfl, h2, rfl, kk σ I1 _ (r1.stream (r1.st.setS hc v S1.cnt S1.mix) off) l1⟩
      · cases e
        exact ⟨s, _, 2, 2, rfl, rfl, h2, rfl, kk σ I1 _ (r1.stream (r1.st.setS hc S1.cur v S1.mix) off) l1⟩
      · cases e
        exact ⟨s, _, 3, 3, rfl, rfl, h2, rfl, kk σ I1 _ (r1.stream (r1.st.setS hc S1.cur S1.cnt v) off) l1⟩
      · cases e
    · cases e
  · cases e
def popE (i : Nat) : FE := fun E S => if isStrm E i = true then match S.cells with
    | c :: r => some (.int c, { S with cells := r })
    | [] => none
  else none
theorem re_pop {K : PySem.W.Frag} {i : Nat} : RE (tBM K "list" rPopAt (tOp (rIx K) (tVar i) (tC (.int 0))) (tCons (tC (.int 0)) tNil)) (popE i) := fun {B E S σ I H} r {d S'} e {Q} kk => by
  unfold popE at e
  split at e
  · rename_i hs
    obtain ⟨s, h1, hc, hne, h2, h3⟩ := r.strm (isStrm_ok hs)
    split at e
    · rename_i c rest q
      cases e
      rw [q] at h3
      have off : ∀ {u : HO} (a : Addr), ¬ B.isSt a → upd H B.l u a = H a := fun {u} a ha => upd_ne fun z => ha ⟨s, hc, .inr z⟩
      refine ⟨.ref s, h1, .inl ⟨s, _, 0, .ref B.l, rfl, rfl, SqL.of h2, rfl, ?_⟩⟩
      refine ⟨.inl ⟨rfl, _, SqL.of h3⟩, B.l, (c :: rest).map V.int, 0, 0, .int c, rfl, rfl, h3, by decide, by decide, ?_, rfl, ?_⟩
      · exact seqIx (by decide) (by simp)
      · exact kk _ I _ (r.stream (r.st.setL hc rest) off) le_rfl (.int _)
    · cases e
  · cases e
/-- stream[0] != [] -/
def rNeNil : R2 := fun x y H Q => ∃ a b ns, x = .ref a ∧ y = .ref b ∧ H a = some (.lst (List.map V.int ns)) ∧ H b = some (.lst []) ∧ Q (.bl (decide (ns ≠ []))) H
theorem op_neNil {X : Cx} (hu : X.A.units + 64 < cLine) : OpR X (compareOp .NotEq) rNeNil := by
  intro pins s σ H x y v u Q I rx ry h
  obtain ⟨a, b, ns, rfl, rfl, ha, hb, q⟩ := h
  cases (show v = Value.ref a from rx)
  cases (show u = Value.ref b from ry)
  obtain ⟨_, its, n, rv, ho⟩ := (show ObjOk X.prog X.w H s.heap a (.lst (ns.map V.int)) from I.hok a _ ha)
  obtain ⟨_, its2, n2, rv2, ho2⟩ := (show ObjOk X.prog X.w H s.heap b (.lst []) from I.hok b _ hb)
  cases rv2
  obtain ⟨as, rd⟩ := reads_ints (h := s.heap) rv
  have r1 : Reads s.heap (.ref a) (.list (ns.map PyData.int)) (a :: as) := .list ho rfl rfl rd
  have r2 : Reads s.heap (.ref b) (.list []) (b :: []) := .list ho2 rfl rfl .nil
  have pl : ∀ ns : List Int, PyData.plainAll (ns.map PyData.int) = true := fun ns => by
    induction ns with
    | nil => rfl
    | cons n ns ih => rw [List.map_cons, PyData.plainAll, ih]; rfl
  refine PySem.SeqAt.ne_plain r1 r2 (by rw [PyData.plain]; exact pl ns) rfl ?_ ?_
  · show X.A.units + _ < cLine
    simp only [PyData.depth, depth_ints, PyData.depthAll]
    omega
  · have : (!PyData.eqv (.list (ns.map PyData.int)) (.list [])) = decide (ns ≠ []) := by
      cases ns with
      | nil => rfl
      | cons n ns => rfl
    rw [this]
    exact ⟨.bl _, H, I, rfl, q⟩
def neNilE (i : Nat) : FE := fun E S => if isStrm E i = true then some (.bl (decide (S.cells ≠ [])), S) else none
theorem re_neNil {K : PySem.W.Frag} {i : Nat} : RE (tOp rNeNil (tOp (rIx K) (tVar i) (tC (.int 0))) (tLst tNil)) (neNilE i) := fun {B E S σ I H} r {d S'} e {Q} kk => by
  unfold neNilE at e
  split at e
  · rename_i hs
    cases e
    obtain ⟨s, h1, hc, hne, h2, h3⟩ := r.strm (isStrm_ok hs)
    refine ⟨.ref s, h1, .inl ⟨s, _, 0, .ref B.l, rfl, rfl, SqL.of h2, rfl, ?_⟩⟩
    refine ⟨Nat.zero_le _, fun p hp => ⟨B.l, p, S.cells, rfl, rfl, ?_, upd_same, ?_⟩⟩
    · rw [upd_ne (ne_of_none h3 hp)]; exact h3
    · exact kk _ I _ (r.alloc hp) le_rfl (.bl _)
  · cases e
end M

set_option Elab.async false
set_option linter.all false
set_option maxRecDepth 100000
set_option maxHeartbeats 4000000
namespace M
open PySem L2 PySem.Spec PyProof.Rows

/-! ### dict comprehensions -/
def dcL (tg : TgD) (c : FT) (fk fv : FE) : List D → List (Key × D) → Ev → Sm → Option (List (Key × D) × Sm)
  | [], acc, _, S => some (acc, S)
  | d :: r, acc, E, S => match tg d E with
    | none => none
    | some E1 => match c E1 S with
      | none => none
      | some (false, S1) => dcL tg c fk fv r acc E S1
      | some (true, S1) => match fk E1 S1 with
        | none => none
        | some (kd, S2) => match fv E1 S2 with
          | none => none
          | some (v, S3) => match keyD kd with
            | none => none
            | some k => dcL tg c fk fv r (putD acc k v) E S3
def dcE (fi : FI) (tg : TgD) (c : FT) (fk fv : FE) (own : List Nat) : FE := fun E S => match fi E S with
  | some (items, S1) => if items.length ≤ 1000000 ∧ noOwn E own = true then match dcL tg c fk fv items [] (wipeE E own) S1 with
      | some (xs, S2) => some (.dic xs, S2)
      | none => none
    else none
  | none => none
theorem putD_len {kvs : List (Key × D)} {k : Key} {v : D} : (putD kvs k v).length ≤ kvs.length + 1 := by
  unfold putD
  split
  · rw [List.length_map]; omega
  · rw [List.length_append]; simp
theorem dc_at {wi : TI} {fi : FI} {g : TG} {tg : TgD} {own : List Nat} {tt : TT} {c : FT} {tk tv : TE} {fk fv : FE} (hg : RG g tg own) (ht : RT tt c) (hk : RE tk fk) (hv : RE tv fv) {B : Bs} {E : Ev} {S : Sm} {σ : L2.St} {I H : Hp} (r : R B E S σ I H)
    (hi : ∀ {items : List D} {S' : Sm}, fi E S = some (items, S') → ∀ {Rq : It → Hp → Prop}, (∀ J I' H', R B E S' σ I' H' → Le I I' → ItD B.c J I' items → Rq J H') → wi σ H Rq)
    {dd : D} {Sf : Sm} (e : dcE fi tg c fk fv own E S = some (dd, Sf)) {Q : VK} (k : ∀ v I' H', R B E Sf σ I' H' → Le I I' → Fresh B E σ I' H' v dd → Q v H') : tDc wi g tt tk tv own σ H Q := by
  unfold dcE at e
  split at e
  · rename_i items S1 q
    split at e
    · rename_i hlen
      obtain ⟨hlen, hown⟩ := hlen
      split at e
      · rename_i xs S2 q2
        cases e
        refine hi q fun J I1 H1 r1 l1 it Dp hD => ?_
        have hfr := r1.st.noFr hD
        let W : Nat → Nat → Hp → Prop := fun i m H' => ∃ S' I' av ad, R (B.cell Dp (.dK av)) E S' σ I' H' ∧ Le I1 I' ∧ DenP B.c I' av ad ∧ m = items.length - i ∧ i ≤ items.length ∧ ad.length ≤ i ∧ dcL tg c fk fv (items.drop i) ad (wipeE E own) S' = some (xs, Sf)
        refine ⟨W, ⟨_, S1, I1, [], [], r1.cell hD (fun _ => nofun), le_rfl, .nil, rfl, Nat.zero_le _, Nat.le_refl _, by rw [List.drop_zero]; exact q2⟩, ?_⟩
        rintro i m H' ⟨S', I', av, ad, r', l', hav, rfl, hle, hal, e'⟩
        have rw' := r'.wipe own
        obtain ⟨go, stop, yld⟩ := it (B.cell Dp (.dK av)) _ _ _ I' H' rfl rw' l' i
        by_cases hlt : i < items.length
        · right
          refine ⟨go hlt, W (i + 1) (items.length - (i + 1)), fun H2 w => ⟨_, by omega, w⟩, fun x H2 y => ?_⟩
          rw [List.drop_eq_getElem_cons hlt] at e'
          unfold dcL at e'
          split at e'
          · cases e'
          · rename_i E1 q1
            obtain ⟨I2, r2, l2, hd⟩ := yld x H2 _ (List.getElem?_eq_getElem hlt) y
            refine hg r2 hd q1 fun σ3 I3 H3 r3 l3 hln hs3 => ⟨?_, ?_⟩
            · exact wipe_ext (hln.trans (wipe_length _ _)) fun j hj => (hs3 j hj).1
            · have bk : ∀ {S4 : Sm} {I4 H4 : Hp} {av4 : List (Key × V)}, R (B.cell Dp (.dK av4)) E1 S4 σ3 I4 H4 → Le I' I4 → R (B.cell Dp (.dK av4)) E S' σ I' (upd H' Dp (.dK av4)) → R (B.cell Dp (.dK av4)) E S4 σ I4 H4 := fun {S4 I4 H4 av4} r4 l4 r5 => by
                refine R.back r5 r4 l4 fun j d hj => ?_
                have hn := noOwn_at hown hj
                refine ⟨?_, ?_⟩
                · rw [(hs3 j hn).2, wipeE_get, if_neg hn]; exact hj
                · rw [(hs3 j hn).1, wipe_get, if_neg hn]
              have same : R (B.cell Dp (.dK av)) E S' σ I' (upd H' Dp (.dK av)) := r'.cellSet (fun _ => nofun)
              split at e'
              · cases e'
              · rename_i S4 q4
                refine ht r3 q4 fun I4 H4 r4 l4 => ?_
                rw [if_neg Bool.false_ne_true]
                have lA : Le I' I4 := l2.trans (l3.trans l4)
                exact ⟨S4, I4, av, ad, bk r4 lA same, l'.trans lA, DenP.mono lA hav, rfl, hlt, by omega, e'⟩
              · rename_i S4 q4
                refine ht r3 q4 fun I4 H4 r4 l4 => ?_
                rw [if_pos rfl]
                split at e'
                · cases e'
                · rename_i kd S5 q5
                  refine hk r4 q5 fun kv I5 H5 r5 l5 hdk => ?_
                  split at e'
                  · cases e'
                  · rename_i vd S6 q6
                    refine hv r5 q6 fun vv I6 H6 r6 l6 hdv => ?_
                    split at e'
                    · cases e'
                    · rename_i kk q7
                      have lA : Le I' I6 := l2.trans (l3.trans (l4.trans (l5.trans l6)))
                      have rb := bk r6 lA same
                      obtain ⟨hDv, _, _, _⟩ := rb.cellAt
                      have hlv := Paired.length hav
                      have hkk := key_ok (hdk.mono l6) q7
                      refine ⟨av, kk, hkk, hDv, Nat.lt_of_lt_of_le (show av.length < 2000000 by omega) (by decide), S6, I6, putK av kk vv, putD ad kk vd, rb.cellSet (fun _ => nofun), l'.trans lA, ?_, rfl, hlt, ?_, e'⟩
                      · exact denP_put (DenP.mono lA hav) kk hdv
                      · have := putD_len (kvs := ad) (k := kk) (v := vd)
                        omega
        · left
          have he' : i = items.length := by omega
          subst he'
          rw [List.drop_length] at e'
          cases e'
          exact ⟨stop (Nat.le_refl _), k (.ref Dp) I' H' (r'.uncell hfr) (l1.trans l') (R.uncellF hfr r' (.dK hav))⟩
      · cases e
    · cases e
  · cases e
theorem rf_dc {wi : TI} {fi : FI} {g : TG} {tg : TgD} {own : List Nat} {tt : TT} {c : FT} {tk tv : TE} {fk fv : FE} (hi : RI wi fi) (hg : RG g tg own) (ht : RT tt c) (hk : RE tk fk) (hv : RE tv fv) : RF (tDc wi g tt tk tv own) (dcE fi tg c fk fv own) :=
  fun {B E S σ I H} r {dd Sf} e {Q} k => dc_at hg ht hk hv r (hi r) e k

/-! ### a for of tests alone: what is known of the other slots stays -/
theorem for_test {wi : TI} {fi : FI} {g : TG} {tg : TgD} {own : List Nat} {tt : TT} {c : FT} (hi : RI wi fi) (hg : RG g tg own) (ht : RT tt c) (Pv : L2.St → Prop) (hP : ∀ σ σ' : L2.St, σ'.length = σ.length → (∀ i, i ∉ own → σ'[i]? = σ[i]?) → Pv σ → Pv σ') {B : Bs} {E : Ev} {S : Sm} {σ : L2.St} {I H : Hp} (r : R B E S σ I H) (hp : Pv σ)
    {Ef : Ev} {Sf : Sm} (e : forS fi tg (ifS c neverS nextS) E S = some (.nx, Ef, Sf)) {Dn : Ends} (k : ∀ σ' I' H', R B Ef Sf σ' I' H' → Le I I' → Pv σ' → Dn.nx σ' H') : tFor wi g (tIfS tt tNever tNext) Dn σ H := by
  unfold forS at e
  split at e
  · rename_i items S1 q
    refine hi r q fun J I1 H1 r1 l1 it => ?_
    let W : Nat → Nat → L2.St → Hp → Prop := fun i m σ' H' => ∃ E' S' I', R B E' S' σ' I' H' ∧ Pv σ' ∧ Le I1 I' ∧ m = items.length - i ∧ i ≤ items.length ∧ forL tg (ifS c neverS nextS) (items.drop i) E' S' = some (.nx, Ef, Sf)
    refine ⟨W, ⟨_, E, S1, I1, r1, hp, le_rfl, rfl, Nat.zero_le _, by rw [List.drop_zero]; exact e⟩, ?_⟩
    rintro i m σ' H' ⟨E', S', I', r', hp', l', rfl, hle, e'⟩
    obtain ⟨go, stop, yld⟩ := it B E' S' σ' I' H' rfl r' l' i
    by_cases hlt : i < items.length
    · right
      refine ⟨go hlt, W (i + 1) (items.length - (i + 1)), fun σ2 H2 w => ⟨_, by omega, w⟩, fun x H2 y => ?_⟩
      rw [List.drop_eq_getElem_cons hlt] at e'
      unfold forL at e'
      split at e'
      · cases e'
      · rename_i E1 q1
        obtain ⟨I2, r2, l2, hd⟩ := yld x H2 _ (List.getElem?_eq_getElem hlt) y
        refine hg r2 hd q1 fun σ3 I3 H3 r3 l3 hl hs => ?_
        have hp3 := hP _ _ hl (fun j hj => (hs j hj).1) hp'
        cases q2 : c E1 S' with
        | none =>
          have z : ifS c neverS nextS E1 S' = none := by unfold ifS; rw [q2]
          rw [z] at e'
          cases e'
        | some w =>
          obtain ⟨b, S2⟩ := w
          refine ht r3 q2 fun I4 H4 r4 l4 => ?_
          cases b with
          | true =>
            have z : ifS c neverS nextS E1 S' = none := by unfold ifS; rw [q2]; rfl
            rw [z] at e'
            cases e'
          | false =>
            have z : ifS c neverS nextS E1 S' = some (.nx, E1, S2) := by unfold ifS; rw [q2]; rfl
            rw [z] at e'
            rw [if_neg Bool.false_ne_true]
            exact ⟨E1, S2, I4, r4, hp3, l'.trans (l2.trans (l3.trans l4)), rfl, hlt, e'⟩
    · left
      have he : i = items.length := by omega
      subst he
      rw [List.drop_length] at e'
      cases e'
      exact ⟨stop (Nat.le_refl _), k σ' I' H' r' (l1.trans l') hp'⟩
  · cases e

/-! ### what is frozen, thawed -/
def delI (I : Hp) (p : Addr) : Hp := fun a => if a = p then none else I a
theorem delI_same {I : Hp} {p : Addr} : delI I p p = none := by unfold delI; rw [if_pos rfl]
theorem delI_ne {I : Hp} {p a : Addr} (h : a ≠ p) : delI I p a = I a := by unfold delI; rw [if_neg h]
theorem le_del {I0 I : Hp} {p : Addr} (h : I0 p = none) (l : Le I0 I) : Le I0 (delI I p) := ⟨fun a u r => by
  have hne : a ≠ p := fun e => by rw [e, h] at r; cases r
  rw [delI_ne hne]
  exact l.ex a u r⟩
theorem Stt.thaw {B : Bs} {I H : Hp} {S : Sm} (st : Stt B I H S) {p : Addr} (h : B.I p = none) : Stt B (delI I p) H S := by
  have sb : ∀ a o, delI I p a = some o → I a = some o := fun a o e => by
    unfold delI at e
    split at e
    · cases e
    · exact e
  refine ⟨fun a o e => st.sub a o (sb a o e), le_del h st.le, st.keep, fun a o e => st.new a o (sb a o e), ⟨fun q hc => ?_⟩, fun a o u e => st.nofr a o u (sb a _ e), st.stH, fun a o e => ?_⟩
  · obtain ⟨h0, h1, h2, h3, h4⟩ := st.st.at_ q hc
    refine ⟨h0, ?_, ?_, h3, h4⟩
    · unfold delI; split
      · rfl
      · exact h1
    · unfold delI; split
      · rfl
      · exact h2
  · obtain ⟨g1, g2, g3⟩ := st.fr a o e
    refine ⟨g1, ?_, g3⟩
    unfold delI; split
    · rfl
    · exact g2
theorem Stt.pin {B : Bs} {I H : Hp} {S : Sm} (st : Stt B I H S) {p : Addr} {u : HO} (h1 : H p = some u) (h2 : I p = none) (h3 : B.H p = none) (h4 : ∀ xs, u ≠ .tup xs) : Stt (B.cell p u) I H S := by
  refine ⟨st.sub, st.le, st.keep, st.new, st.st, st.nofr, st.stH, fun a o ha => ?_⟩
  by_cases h : a = p
  · subst h
    have ha : upd B.fr a u a = some o := ha
    rw [upd_same] at ha
    cases ha
    exact ⟨h1, h2, h3, h4⟩
  · have ha : upd B.fr p u a = some o := ha
    rw [upd_ne h] at ha
    exact st.fr a o ha
end M

set_option Elab.async false
set_option linter.all false
set_option maxRecDepth 100000
set_option maxHeartbeats 4000000
namespace M
open PySem L2 PySem.Spec PyProof.Rows

/-! ### d.update([((k, ..), v), ..]) -/
structure UP where
  t : Addr
  b : Addr
  k : List Key
  v : V
def rUpdT (K : PySem.W.Frag) : V → List V → Hp → VK → Prop := fun x vs H Q => ∃ (a l : Addr) (kvs : List (List Key × V)) (ps : List UP), x = .ref a ∧ vs = [.ref l] ∧ H a = some (.dT kvs) ∧ H l = some (.lst (ps.map fun p => V.ref p.t)) ∧
  (∀ p ∈ ps, H p.t = some (.tup [.ref p.b, p.v]) ∧ H p.b = some (.tup (p.k.map kV))) ∧ kvs.length + ps.length ≤ 1000000 ∧ Q .non (upd H a (.dT (ps.foldl (fun acc p => putK acc p.k p.v) kvs)))
structure UX where
  t : Addr
  b : Addr
  k : List Key
  v : Value
theorem up_vals {X : Cx} {pins : List (Addr × Obj)} {σ : L2.St} {H : Hp} {s : Shared} (I : L2.Inv X pins σ H s) : ∀ {ps : List UP}, (∀ p ∈ ps, H p.t = some (.tup [.ref p.b, p.v]) ∧ H p.b = some (.tup (p.k.map kV))) →
    ∃ xs : List UX, Paired (fun (p : UP) (x : UX) => x.t = p.t ∧ x.b = p.b ∧ x.k = p.k ∧ RelV p.v x.v ∧ IsTup s.heap x.t #[.ref x.b, x.v] ∧ H x.b = some (.tup (x.k.map kV))) ps xs
  | [], _ => ⟨[], .nil⟩
  | p :: ps, h => by
    obtain ⟨xs, hx⟩ := up_vals I (ps := ps) fun q hq => h q (List.mem_cons_of_mem _ hq)
    obtain ⟨h1, h2⟩ := h p List.mem_cons_self
    obtain ⟨_, its, rv, ht⟩ := (show ObjOk X.prog X.w H s.heap p.t (.tup [.ref p.b, p.v]) from I.hok _ _ h1)
    obtain ⟨u1, u2, rfl, r1, r2⟩ := vals2 rv
    cases (show u1 = Value.ref p.b from r1)
    exact ⟨⟨p.t, p.b, p.k, u2⟩ :: xs, .cons ⟨rfl, rfl, rfl, r2, ht, h2⟩ hx⟩
theorem up_fold {H : Hp} : ∀ {ps : List UP} {xs : List UX}, Paired (fun (p : UP) (x : UX) => x.t = p.t ∧ x.b = p.b ∧ x.k = p.k ∧ RelV p.v x.v ∧ H x.b = some (.tup (x.k.map kV))) ps xs → ∀ {kvs : List (List Key × V)} {ys : List (List Key × Addr × Value)}, KT H kvs ys →
    KT H (ps.foldl (fun acc p => putK acc p.k p.v) kvs) (storedAllH ys (xs.map fun x => (x.k, x.b, x.v)))
  | _, _, .nil, _, _, r => r
  | _, _, @Paired.cons _ _ _ p x ps xs h t, kvs, ys, r => by
    obtain ⟨h1, h2, h3, h4, h5⟩ := h
    have r2 := r.put p.k (b := x.b) (y := p.v) (u := x.v) (by rw [← h3]; exact h5) h4
    have := up_fold t r2
    rw [List.foldl_cons, List.map_cons]
    unfold storedAllH at this ⊢
    rw [List.foldl_cons, h3]
    exact this
theorem up_len (ps : List UP) : ∀ kvs : List (List Key × V), (ps.foldl (fun acc p => putK acc p.k p.v) kvs).length ≤ kvs.length + ps.length := by
  induction ps with
  | nil => intro kvs; exact Nat.le_refl _
  | cons p ps ih =>
    intro kvs
    rw [List.foldl_cons, List.length_cons]
    have h1 := ih (putK kvs p.k p.v)
    have h2 := length_putK kvs p.k p.v
    omega
theorem mt_updT {X : Cx} (hc : X.calm = true) (hu : X.A.units + 64 < cLine) : MtR X "dict.update" (rUpdT X.K) := by
  intro pins s σ H x vs v us Q I rx rv h
  obtain ⟨a, l, kvs, ps, rfl, rfl, hH, hl, hps, hz, q⟩ := h
  cases (show v = Value.ref a from rx)
  obtain ⟨u, rfl, ru⟩ := rv.one
  cases (show u = Value.ref l from ru)
  obtain ⟨z, hd, ys, rel, dd⟩ := dt_of I.hok hH
  obtain ⟨_, its, n, rvl, hol⟩ := (show ObjOk X.prog X.w H s.heap l (.lst (ps.map fun p => V.ref p.t)) from I.hok l _ hl)
  obtain ⟨xs, hx⟩ := up_vals I hps
  have hlen : ps.length = xs.length := Paired.length hx
  have hal : a ≠ l := fun e => by rw [e, hl] at hH; cases hH
  let Ts : Nat → Addr := fun j => match xs[j]? with
    | some x => x.t
    | none => 0
  let pv : List (Value × Value) := xs.map fun x => (.ref x.b, x.v)
  have hpv : pv.length = ps.length := by show (xs.map _).length = _; rw [List.length_map]; exact hlen.symm
  have items : ∀ (j : Nat) (x : UX), xs[j]? = some x → its[j]? = some (.ref x.t) ∧ IsTup s.heap x.t #[.ref x.b, x.v] ∧ H x.t ≠ none ∧ H x.b = some (.tup (x.k.map kV)) := fun j x hj => by
    have hjp : j < ps.length := by rw [hlen]; exact (List.getElem?_eq_some_iff.mp hj).1
    have h2 := paired_at hx j _ _ (List.getElem?_eq_getElem hjp) hj
    have h3 := hps _ (List.getElem_mem hjp)
    refine ⟨?_, h2.2.2.2.2.1, by rw [h2.1, h3.1]; simp, h2.2.2.2.2.2⟩
    obtain ⟨u, hu, hr⟩ := rvl.get (i := j) (x := V.ref ps[j].t) (by rw [List.getElem?_map, List.getElem?_eq_getElem hjp]; rfl)
    rw [hu]
    cases (show u = Value.ref ps[j].t from hr)
    rw [h2.1]
  have P := PairArg.list (prog := X.prog) (w := X.w) l its.toArray Ts pv
  have notA : ∀ x ∈ xs, x.t ≠ a := fun x hxm e => by
    obtain ⟨j, hj, rfl⟩ := List.getElem_of_mem hxm
    have hjp : j < ps.length := by rw [hlen]; exact hj
    have h2 := paired_at hx j _ _ (List.getElem?_eq_getElem hjp) (List.getElem?_eq_getElem hj)
    have h3 := (hps _ (List.getElem_mem hjp)).1
    rw [← h2.1, e, hH] at h3
    cases h3
  have ra : KT H kvs ys := rel
  have keyIs' : ∀ y ∈ ys ++ (xs.map fun x => (x.k, x.b, x.v)), H y.2.1 = some (.tup (y.1.map kV)) := fun y hy => by
    rcases List.mem_append.mp hy with hy | hy
    · have : ∀ {kvs : List (List Key × V)} {ys : List (List Key × Addr × Value)}, KT H kvs ys → ∀ y ∈ ys, H y.2.1 = some (.tup (y.1.map kV)) := by
        intro kvs ys r
        induction r with
        | nil => intro y hy; cases hy
        | cons r _ ih =>
          intro y hy
          rcases List.mem_cons.mp hy with rfl | hy
          · rw [← r.1]; exact r.2.1
          · exact ih y hy
      exact this ra y hy
    · obtain ⟨x, hxm, rfl⟩ := List.mem_map.mp hy
      obtain ⟨j, hj, rfl⟩ := List.getElem_of_mem hxm
      exact (items j _ (List.getElem?_eq_getElem hj)).2.2.2
  refine call_update_pairsH (knd := tupleKind (mixKind X.prog X.w)) (acc := ys) (ps := xs.map fun x => (x.k, x.b, x.v)) (n := pv.length) P (I.ok.hd hc) (tupleKind_room_in1 (by omega)) ⟨⟨_, n, hol, rfl, rfl, rfl⟩, ?_, fun j k v hj => ?_⟩ ?_ ⟨?_, fun i key v hi => ?_⟩ ?_ dd ?_ fun h' tk dd' hk => ?_
  · show its.toArray.size = pv.length
    rw [List.size_toArray, hpv, ← rvl.length, List.length_map]
  · have hj' : (xs.map fun x => (Value.ref x.b, x.v))[j]? = some (k, v) := hj
    rw [List.getElem?_map] at hj'
    cases hx' : xs[j]? with
    | none => rw [hx'] at hj'; cases hj'
    | some x =>
      rw [hx'] at hj'
      cases hj'
      obtain ⟨g1, g2, _, _⟩ := items j x hx'
      have e : Ts j = x.t := by show (match xs[j]? with | some x => x.t | none => 0) = _; rw [hx']
      rw [e]
      exact ⟨by simpa using g1, .inl g2⟩
  · intro hm
    rcases List.mem_cons.mp hm with e | hm
    · exact hal e
    · obtain ⟨j, hj, e⟩ := List.mem_map.mp hm
      have hj2 : j < xs.length := by rw [← hlen, ← hpv]; exact List.mem_range.mp hj
      have e2 : Ts j = xs[j].t := by show (match xs[j]? with | some x => x.t | none => 0) = _; rw [List.getElem?_eq_getElem hj2]
      rw [e2] at e
      exact notA _ (List.getElem_mem hj2) e
  · rw [List.length_map]
    exact hlen.symm.trans hpv.symm
  · have hi' : (xs.map fun x => (Value.ref x.b, x.v))[i]? = some (key, v) := hi
    rw [List.getElem?_map] at hi'
    cases hx' : xs[i]? with
    | none => rw [hx'] at hi'; cases hi'
    | some x =>
      rw [hx'] at hi'
      cases hi'
      exact ⟨x.k, x.b, by rw [List.getElem?_map, hx']; rfl, rfl⟩
  · intro h' hk y hy
    have e := keyIs' y hy
    obtain ⟨o, xs', n', h1, h2, h3, h4⟩ := key_of I.hok e
    refine ⟨o, xs', n', hk _ _ (fun z => ?_) (by simp) h1, h2, h3, h4⟩
    rw [z, hH] at e
    cases e
  · have : ys.length = kvs.length := (Paired.length ra).symm
    rw [this, hpv, sizeLine_eq]
    omega
  · have hl2 := up_len ps kvs
    have rel2 := up_fold (H := H) (Paired.mapP hx fun p x h => ⟨h.1, h.2.1, h.2.2.1, h.2.2.2.1, h.2.2.2.2.2⟩) ra
    obtain ⟨ob, es, ep, hq, h2, h3, h4, _, h5⟩ := dd'
    refine ⟨.non, upd H a (.dT (ps.foldl (fun acc p => putK acc p.k p.v) kvs)), I.write (x := a) (e := a) (o := .dT (ps.foldl (fun acc p => putK acc p.k p.v) kvs)) (t' := tk) (by rw [hH]; exact True.intro) (.inl rfl) (fun b o hb e => hk b o hb (by simp) e) ⟨ob, hq⟩ ⟨by rw [sizeLine_eq]; omega, hd, _, rel2.keeps fun c ys' ec => ?_, ob, es, ep, hq, h2, h3, h4, h5⟩, rfl, q⟩
    rw [upd_ne (fun z => by rw [z, hH] at ec; cases ec)]
    exact ec

/-- its mirror, for a dict of one's own -/
def upPairs : List D → Option (List (List Key × D))
  | [] => some []
  | .tup [.tup ks, v] :: r => match keysD ks, upPairs r with
    | some k, some ps => some ((k, v) :: ps)
    | _, _ => none
  | _ => none
def updTS (i : Nat) (f : FE) : FS := fun E S => match E[i]? with
  | some (.o (.dtk kds)) => match f E S with
    | some (.lst xs, S1) => match upPairs xs with
      | some ps => if kds.length + ps.length ≤ 1000000 then some (.nx, E.set i (.o (.dtk (ps.foldl (fun acc p => putD acc p.1 p.2) kds))), S1) else none
      | none => none
    | _ => none
  | _ => none
theorem up_den {B : Bs} {E : Ev} {S : Sm} {σ : L2.St} {I H : Hp} (r : R B E S σ I H) : ∀ {vs : List V} {ds : List D} {kds : List (List Key × D)}, DenL B.c I vs ds → upPairs ds = some kds → ∃ ps : List UP, vs = ps.map (fun p => V.ref p.t) ∧ ps.length = kds.length ∧
    (∀ p ∈ ps, H p.t = some (.tup [.ref p.b, p.v]) ∧ H p.b = some (.tup (p.k.map kV))) ∧ Paired (fun (p : UP) q => p.k = q.1 ∧ Den B.c I p.v q.2) ps kds
  | _, _, _, .nil, e => by
    cases e
    exact ⟨[], rfl, rfl, (fun p hp => by cases hp), Paired.nil⟩
  | _, _, kds, @Paired.cons _ _ _ v d vs ds h t, e => by
    unfold upPairs at e
    split at e
    · rename_i z; cases z
    · rename_i kk vv r' z
      cases z
      split at e
      · rename_i k' ps q1 q2
        cases e
        obtain ⟨p1, g0, g1, g2, g3⟩ := up_den r t q2
        obtain ⟨a, ws, rfl, hr, hl⟩ := h.toT
        obtain ⟨w1, w2, rfl, hw1, hw2⟩ := two2 hl
        obtain ⟨b, bs, rfl, hb, hbl⟩ := hw1.toT
        refine ⟨⟨a, b, k', w2⟩ :: p1, by rw [g0]; rfl, by rw [List.length_cons, List.length_cons, g1], fun p hp => ?_, .cons ⟨rfl, hw2⟩ g3⟩
        rcases List.mem_cons.mp hp with rfl | hp
        · exact ⟨r.st.exT hr, by rw [← keys_ok hbl q1]; exact r.st.exT hb⟩
        · exact g2 p hp
      · cases e
    · cases e
theorem up_foldD {c : Option Addr} {I : Hp} : ∀ {ps : List UP} {kds : List (List Key × D)}, Paired (fun (p : UP) q => p.k = q.1 ∧ Den c I p.v q.2) ps kds → ∀ {kvs : List (List Key × V)} {acc : List (List Key × D)}, DenP c I kvs acc →
    DenP c I (ps.foldl (fun acc p => putK acc p.k p.v) kvs) (kds.foldl (fun acc p => putD acc p.1 p.2) acc)
  | _, _, .nil, _, _, r => r
  | _, _, @Paired.cons _ _ _ p q ps qs h t, kvs, acc, r => by
    rw [List.foldl_cons, List.foldl_cons, ← h.1]
    exact up_foldD t (denP_put r p.k h.2)
theorem rs_updT {K : PySem.W.Frag} {i : Nat} {te : TE} {f : FE} (h : RE te f) : RS (tDrop (tBM K "dict" (rUpdT K) (tVar i) (tCons te tNil))) (updTS i f) := fun {B E S σ I H} r {o E' S'} e {Dn} k => by
  unfold updTS at e
  split at e
  · rename_i kds q
    split at e
    · rename_i xs S1 q2
      split at e
      · rename_i ps q3
        split at e <;> cases e
        rename_i hl
        obtain ⟨p, vs, h1, h2, h3⟩ := own_dtk r q
        refine ⟨.ref p, h1, ?_, h r q2 fun v I' H' r' l hd => ?_⟩
        · exact .inr (.inr (.inl ⟨rfl, .inr ⟨vs, h2⟩⟩))
        obtain ⟨p', vs', g1, g2, g3⟩ := own_dtk r' q
        rw [h1] at g1
        cases g1
        obtain ⟨a, ws, rfl, hr, hdl⟩ := hd.toL
        obtain ⟨us, e1, e2, e3, e4⟩ := up_den r' hdl q3
        refine ⟨p, a, vs', us, rfl, rfl, g2, by rw [← e1]; exact r'.st.exL hr, e3, by rw [Paired.length g3, e2]; exact hl, ?_⟩
        exact k σ I' _ (r'.mut q h1 (.dT (up_foldD e4 g3)) (fun _ => nofun)) l
      · cases e
    · cases e
  · cases e
end M

set_option Elab.async false
set_option linter.all false
set_option maxRecDepth 100000
set_option maxHeartbeats 4000000
namespace M
open PySem L2 PySem.Spec PyProof.Rows

/-! ### repr of a tuple of lists, tuples, and dicts of single things -/
mutual
def noDict : D → Bool
  | .lst xs => noDicts xs
  | .tup xs => noDicts xs
  | .dic _ => false
  | .dtk _ => false
  | .ins _ _ => false
  | .strm => false
  | .far _ => false
  | .non => true | .bl _ => true | .int _ => true | .str _ => true
def noDicts : List D → Bool
  | [] => true
  | d :: r => noDict d && noDicts r
end
def itemOk : D → Bool
  | .dic kds => kds.all fun p => flatD p.2
  | d => noDict d
mutual
theorem noDict_has : ∀ d : D, noDict d = true → (toP d).hasDict = false
  | .non, _ => rfl
  | .bl _, _ => rfl
  | .int _, _ => rfl
  | .str _, _ => rfl
  | .lst xs, h => by rw [toP, PyData.hasDict]; exact noDicts_has xs (by rw [noDict] at h; exact h)
  | .tup xs, h => by rw [toP, PyData.hasDict]; exact noDicts_has xs (by rw [noDict] at h; exact h)
  | .dic _, h => by rw [noDict] at h; cases h
  | .dtk _, h => by rw [noDict] at h; cases h
  | .ins _ _, h => by rw [noDict] at h; cases h
  | .strm, h => by rw [noDict] at h; cases h
theorem noDicts_has : ∀ ds : List D, noDicts ds = true → PyData.hasDictAll (toPs ds) = false
  | [], _ => rfl
  | d :: r, h => by
    rw [noDicts, Bool.and_eq_true] at h
    rw [toPs, PyData.hasDictAll, noDict_has d h.1, noDicts_has r h.2]
    rfl
end
def flatP : PyData → Bool
  | .none => true | .bool _ => true | .int _ => true | .str _ => true
  | _ => false
theorem flat_as {h : Heap} {v : Value} {d : PyData} {as : List Addr} (r : Reads h v d as) (f : flatP d = true) : as = [] := by
  cases r <;> first | rfl | cases f
theorem flats_as {h : Heap} : ∀ {vs : List Value} {ds : List PyData} {as : List Addr}, ReadsAll h vs ds as → ds.all flatP = true → as = []
  | _, _, _, .nil, _ => rfl
  | _, _, _, .cons r rs, f => by
    rw [List.all_cons, Bool.and_eq_true] at f
    rw [flat_as r f.1, flats_as rs f.2]
    rfl
theorem flat_keys : ∀ kds : List (Key × D), ((toPk kds).map (·.1)).all flatP = true
  | [] => rfl
  | (k, v) :: r => by
    rw [toPk, List.map_cons, List.all_cons, flat_keys r]
    cases k <;> rfl
theorem flat_toP {d : D} (h : flatD d = true) : flatP (toP d) = true := by
  cases d <;> first | rfl | cases h
theorem flat_vals : ∀ kds : List (Key × D), (kds.all fun p => flatD p.2) = true → ((toPk kds).map (·.2)).all flatP = true
  | [], _ => rfl
  | (k, v) :: r, h => by
    rw [List.all_cons, Bool.and_eq_true] at h
    rw [toPk, List.map_cons, List.all_cons, flat_vals r h.2, flat_toP h.1]
    rfl
section
variable {P : Program} {w : World} {B : Bs} {I H : Hp} {S : Sm} {h : Heap}
theorem item_repr (ok : HOk P w H h) (st : Stt B I H S) {d : D} (hk : okP d = true) (hi : itemOk d = true) (hs : (toP d).showable = true) (hz : (toP d).shown.length ≤ sizeLine) {x : V} {u : Value} (hd : Den B.c I x d) (hr : RelV x u) :
    ∃ bs, ReadAtMost h (toP d).depth bs ∧ ReprK P w bs h (toP d).depth u (toP d).shown := by
  have byNo : ∀ {d : D}, okP d = true → noDict d = true → (toP d).showable = true → (toP d).shown.length ≤ sizeLine → ∀ {x : V}, Den B.c I x d → RelV x u → ∃ bs, ReadAtMost h (toP d).depth bs ∧ ReprK P w bs h (toP d).depth u (toP d).shown := fun {d} hk hn hs hz {x} hd hr => by
    obtain ⟨as, r⟩ := reads_of ok st d hk hd hr
    exact ReprK.of_reads r hs (fun z => by rw [noDict_has d hn] at z; cases z) hz
  cases d with
  | dic kds =>
    obtain ⟨as, r⟩ := reads_of ok st (.dic kds) hk hd hr
    obtain ⟨a, kvs, rfl, hrd, hl⟩ := hd.toD
    cases (show u = Value.ref a from hr)
    obtain ⟨_, hsm, _⟩ := dk_rd ok (st.sub.rd hrd)
    refine ReprK.of_reads r hs (fun _ => ?_) hz
    rw [toP] at r
    cases r with
    | dict h1 h2 h3 h4 h5 =>
      have e1 := flats_as h4 (flat_keys kds)
      have e2 := flats_as h5 (flat_vals kds hi)
      subst e1 e2
      intro hm
      have e : sysModules = a := by simpa using hm
      rw [← e] at hsm
      simp at hsm
  | lst xs => exact byNo hk hi hs hz hd hr
  | tup xs => exact byNo hk hi hs hz hd hr
  | non => exact byNo hk hi hs hz hd hr
  | bl b => exact byNo hk hi hs hz hd hr
  | int i => exact byNo hk hi hs hz hd hr
  | str z => exact byNo hk hi hs hz hd hr
  | dtk _ => cases hk
  | ins _ _ => cases hk
  | strm => cases hk
  | far _ => cases hk
theorem items_repr (ok : HOk P w H h) (st : Stt B I H S) : ∀ {ds : List D}, okPs ds = true → ds.all itemOk = true → PyData.showableAll (toPs ds) = true → (∀ t ∈ PyData.shownAll (toPs ds), t.length ≤ sizeLine) → ∀ {vs : List V} {us : List Value}, DenL B.c I vs ds → Vals vs us →
    ∃ bs, ReadAtMost h (PyData.depthAll (toPs ds)) bs ∧ ReprAllK P w bs h (PyData.depthAll (toPs ds)) us (PyData.shownAll (toPs ds))
  | [], _, _, _, _, _, _, .nil, .nil => ⟨[], (fun _ z => by cases z), by rw [toPs, PyData.shownAll]; exact .nil⟩
  | d :: ds, hk, hi, hs, hz, _, _, .cons hd td, .cons hr tr => by
    rw [okPs, Bool.and_eq_true] at hk
    rw [List.all_cons, Bool.and_eq_true] at hi
    rw [toPs, PyData.showableAll, Bool.and_eq_true] at hs
    rw [toPs, PyData.shownAll] at hz
    obtain ⟨b1, m1, k1⟩ := item_repr ok st hk.1 hi.1 hs.1 (hz _ List.mem_cons_self) hd hr
    obtain ⟨b2, m2, k2⟩ := items_repr ok st hk.2 hi.2 hs.2 (fun t ht => hz t (List.mem_cons_of_mem _ ht)) td tr
    rw [toPs, PyData.depthAll, PyData.shownAll]
    refine ⟨b1 ++ b2, fun b hb => ?_, .cons ((k1.more fun c hc => List.mem_append_left _ hc).level_le (Nat.le_max_left _ _)) (k2.more_le (fun c hc => List.mem_append_right _ hc) (Nat.le_max_right _ _))⟩
    rcases List.mem_append.mp hb with hb | hb
    · obtain ⟨x, as, r, hl⟩ := m1 b hb
      exact ⟨x, as, r, Nat.le_trans hl (Nat.le_max_left _ _)⟩
    · obtain ⟨x, as, r, hl⟩ := m2 b hb
      exact ⟨x, as, r, Nat.le_trans hl (Nat.le_max_right _ _)⟩
end
def reprOk (ds : List D) : Bool := okPs ds && ds.all itemOk && PyData.showableAll (toPs ds) && decide ((toP (.tup ds)).shown.length ≤ 10000000) && decide (PyData.depthAll (toPs ds) ≤ 40)
def rRepr : List V → Hp → VK → Prop := fun vs H Q => ∃ (a : Addr) (ws : List V) (ds : List D) (B : Bs) (I : Hp) (S : Sm), vs = [.ref a] ∧ H a = some (.tup ws) ∧ Stt B I H S ∧ DenL B.c I ws ds ∧ reprOk ds = true ∧ Q (.str (toP (.tup ds)).shown) H
theorem cr_repr {X : Cx} (hg : X.A.guards = some []) (hu : X.A.units + 64 < cLine) : CallR X (.builtin "repr") rRepr := by
  intro pins s σ H xs us Q I r h
  obtain ⟨a, ws, ds, B, I0, S, rfl, ha, st, hd, hok, q⟩ := h
  rw [Vals.ref1 r]
  unfold reprOk at hok
  simp only [Bool.and_eq_true, decide_eq_true_eq] at hok
  obtain ⟨⟨⟨⟨h1, h2⟩, h3⟩, h4⟩, h5⟩ := hok
  have hz : (tupleText (PyData.shownAll (toPs ds))).length ≤ sizeLine := by
    have : (toP (.tup ds)).shown = tupleText (PyData.shownAll (toPs ds)) := by rw [toP, PyData.shown]
    rw [← this, sizeLine_eq]
    omega
  obtain ⟨_, its, rv, o, ho, hc, n, hdt⟩ := (show ObjOk X.prog X.w H s.heap a (.tup ws) from I.hok a _ ha)
  obtain ⟨bs, hb, hk⟩ := items_repr I.hok st h1 h2 h3 (fun t ht => Nat.le_trans (tupleText_mem_le ht) hz) hd rv
  obtain ⟨as, rs⟩ := reads_all I.hok st ds h1 hd rv
  have rt : Reads s.heap (.ref a) (.tuple (toPs ds)) as := .tuple ho hc hdt (by simpa using rs)
  have hna : a ∉ bs := not_mem_of_deeper rt (by rw [PyData.depth]; omega) hb
  refine PySem.call_repr_slot (by omega) (T := "tuple") ⟨o, ho, hc⟩ PySem.F.slot_tuple_repr ?_
  refine call_tuple_reprK ho hc hdt hna (by simpa using hk) (A := X.A.in1) hg (fun b _ => Clear.nil b) (by show X.A.units + 1 + _ < cLine; omega) (fun _ _ e => e) (fun h' u tk hk => ?_) hz
  refine ⟨_, u, rfl, ?_⟩
  have e : (toP (.tup ds)).shown = tupleText (PyData.shownAll (toPs ds)) := by rw [toP, PyData.shown]
  rw [e] at q
  exact ⟨.str _, H, I.kept hk, ⟨u, rfl⟩, q⟩
def reprN : OpN
  | [.tup ds] => if reprOk ds = true then some (.str (toP (.tup ds)).shown) else none
  | _ => none
theorem rc_repr : RC rRepr reprN := fun {B E S σ I H} r {vs ds d} hv e {Q} k => by
  unfold reprN at e
  split at e
  · split at e <;> cases e
    rename_i ds hok
    obtain ⟨v, rfl, h⟩ := one1 hv
    obtain ⟨a, ws, rfl, hr, hl⟩ := h.toT
    exact ⟨a, ws, ds, B, I, S, rfl, r.st.exT hr, r.st, hl, hok, k _ I H r le_rfl (.str _)⟩
  · cases e
end M

set_option Elab.async false
set_option linter.all false
set_option maxRecDepth 100000
set_option maxHeartbeats 4000000
namespace M
open PySem L2

/-! ### promises that tell more of what is returned -/
abbrev WR := Bs → Hp → Hp → V → D → Prop
def spW (W : WR) (m : FM) (n : Nat) : Sp := fun vs H Q _ => ∃ (B : Bs) (ds : List D) (S : Sm) (d : D) (S' : Sm), B.H = H ∧ Stt B B.I H S ∧ DenL B.c B.I vs ds ∧ ds.length = n ∧ m ds S = some (d, S') ∧ ∀ v I' H', Stt B I' H' S' → W B I' H' v d → Q v H'
/-- a new object -/
def WF : WR := fun B I H v d => ∃ p u, v = .ref p ∧ I p = none ∧ B.H p = none ∧ H p = some u ∧ ObjD B.c I u d
/-- what stands in the second place of a pair is new -/
def WS : WR := fun B I H v d => Den B.c I v d ∧ ∀ t x p, v = .ref t → H t = some (.tup [x, .ref p]) → B.H p = none
theorem spW_use {W : WR} {m : FM} {n : Nat} {B : Bs} {E : Ev} {S S' : Sm} {σ : L2.St} {I H : Hp} (r : R B E S σ I H) {vs : List V} {ds : List D} {d : D} (hv : DenL B.c I vs ds) (hn : ds.length = n) (e : m ds S = some (d, S')) {Q : VK} {X : XK}
    (k : ∀ v I' H', R B E S' σ I' H' → Le I I' → W ⟨B.c, B.l, I, H, fun _ => none⟩ I' H' v d → Q v H') : spW W m n vs H Q X :=
  ⟨⟨B.c, B.l, I, H, fun _ => none⟩, ds, S, d, S', rfl, r.st.refl, hv, hn, e, fun v I' H' s hd => k v I' H' (r.call s) s.le hd⟩
theorem rf_fn {m : FM} {n : Nat} {ta : TA} {f : FA} {X : XK} (ha : RA ta f) : RF (tCall (spW WF m n) [] X ta) (mE m n f) := fun {B E S σ I H} rr {d S'} e {Q} k => by
  unfold mE at e
  split at e
  · rename_i ds S1 q
    split at e
    · rename_i hn
      exact ha rr q fun vs I1 H1 r1 l1 hd => by
        rw [List.append_nil]
        refine spW_use r1 hd hn e fun v I2 H2 r2 l2 hw => k v I2 H2 r2 (l1.trans l2) ?_
        obtain ⟨p, u, rfl, h1, h2, h3, h4⟩ := hw
        refine ⟨p, u, rfl, h1, ⟨r1.st.fresh h2, r1.st.noFr h2⟩, h3, h4, fun i x hi hz => ?_⟩
        obtain ⟨p', u', g1, g2, g3, g4, g5⟩ := r1.o i x hi
        rw [hz] at g1
        cases g1
        have h2 : H1 p = none := h2
        rw [h2] at g4
        cases g4
    · cases e
  · cases e
theorem ws_d {m : FM} {n : Nat} {vs : List V} {H : Hp} {Q : VK} {X : XK} (h : spD m n vs H Q X) : spW WS m n vs H Q X := by
  obtain ⟨B, ds, S, d, S', h1, h2, h3, h4, h5, k⟩ := h
  exact ⟨B, ds, S, d, S', h1, h2, h3, h4, h5, fun v I' H' s w => k v I' H' s w.1⟩
theorem wf_d {m : FM} {n : Nat} {vs : List V} {H : Hp} {Q : VK} {X : XK} (h : spD m n vs H Q X) : spW WF m n vs H Q X := by
  obtain ⟨B, ds, S, d, S', h1, h2, h3, h4, h5, k⟩ := h
  refine ⟨B, ds, S, d, S', h1, h2, h3, h4, h5, fun v I' H' s w => ?_⟩
  obtain ⟨p, u, rfl, g1, g2, g3, g4⟩ := w
  have hf : B.fr p = none := by
    cases q : B.fr p with
    | none => rfl
    | some o =>
      obtain ⟨y1, _, y3, _⟩ := h2.fr p o q
      rw [← h1, y3] at y1
      cases y1
  exact k _ _ _ (s.freeze g1 g2 hf g3 (s.off g2) g4.plain) (ObjD.den (ObjD.mono (Le.new g1) g4) upd_same)

/-! ### the judgement with what is told of the returned -/
def PostW (W : WR) (B : Bs) (I : Hp) (Dn : Ends) (E' : Ev) (S' : Sm) : Out → Prop
  | .nx => ∀ σ' I' H', R B E' S' σ' I' H' → Le I I' → Dn.nx σ' H'
  | .rt d => ∀ v I' H', Stt B I' H' S' → Le I I' → W B I' H' v d → Dn.rt v H'
  | .bk => ∀ σ' I' H', R B E' S' σ' I' H' → Le I I' → Dn.bk σ' H'
  | .ct => ∀ σ' I' H', R B E' S' σ' I' H' → Le I I' → Dn.ct σ' H'
def RSW (W : WR) (t : TS) (g : FS) : Prop := ∀ {B : Bs} {E : Ev} {S : Sm} {σ : L2.St} {I H : Hp}, R B E S σ I H → ∀ {o : Out} {E' : Ev} {S' : Sm}, g E S = some (o, E', S') → ∀ {Dn : Ends}, PostW W B I Dn E' S' o → t Dn σ H
theorem PostW.le {W : WR} {B : Bs} {I I' : Hp} (e : Le I I') {Dn : Ends} {E' : Ev} {S' : Sm} {o : Out} (h : PostW W B I Dn E' S' o) : PostW W B I' Dn E' S' o := by
  cases o with
  | nx => exact fun σ' J H' r l => h σ' J H' r (e.trans l)
  | rt d => exact fun v J H' r l hd => h v J H' r (e.trans l) hd
  | bk => exact fun σ' J H' r l => h σ' J H' r (e.trans l)
  | ct => exact fun σ' J H' r l => h σ' J H' r (e.trans l)
section
variable {W : WR} {t u : TS} {g1 g2 : FS}
theorem rsw_seq (h1 : RSW W t g1) (h2 : RSW W u g2) : RSW W (tSeq t u) (seqS g1 g2) := fun {B E S σ I H} r {o E' S'} e {Dn} k => by
  unfold seqS at e
  cases q : g1 E S with
  | none => rw [q] at e; cases e
  | some w =>
    obtain ⟨o1, E1, S1⟩ := w
    rw [q] at e
    cases o1 with
    | nx => exact h1 r q (Dn := { Dn with nx := u Dn }) fun σ' I' H' r' l => h2 r' e (PostW.le l k)
    | rt d => cases e; exact h1 r q (Dn := { Dn with nx := u Dn }) k
    | bk => cases e; exact h1 r q (Dn := { Dn with nx := u Dn }) k
    | ct => cases e; exact h1 r q (Dn := { Dn with nx := u Dn }) k
theorem rsw_if {tc : TT} {c : FT} (hc : RT tc c) (h1 : RSW W t g1) (h2 : RSW W u g2) : RSW W (tIfS tc t u) (ifS c g1 g2) := fun {B E S σ I H} r {o E' S'} e {Dn} k => by
  unfold ifS at e
  cases q : c E S with
  | none => rw [q] at e; cases e
  | some w =>
    obtain ⟨b, S1⟩ := w
    rw [q] at e
    refine hc r q fun I' H' r' l => ?_
    cases b with
    | true => exact h1 r' e (PostW.le l k)
    | false => exact h2 r' e (PostW.le l k)
theorem rsw_next : RSW W tNext nextS := fun {B E S σ I H} r {o E' S'} e {Dn} k => by
  cases e
  exact k σ I H r le_rfl
theorem rsw_drop {te : TE} {f : FE} (h : RE te f) : RSW W (tDrop te) (dropS f) := fun {B E S σ I H} r {o E' S'} e {Dn} k => by
  unfold dropS at e
  cases q : f E S with
  | none => rw [q] at e; cases e
  | some w => rw [q] at e; cases e; exact h r q fun v I' H' r' l hd => k σ I' H' r' l
theorem rsw_retN (hW : ∀ B I H, W B I H .non .non) : RSW W tRetN retNS := fun {B E S σ I H} r {o E' S'} e {Dn} k => by
  cases e
  exact k .non I H r.st le_rfl (hW _ _ _)
theorem rsw_for {wi : TI} {fi : FI} {g : TG} {tg : TgD} {own : List Nat} {tb : TS} {body : FS} (hi : RI wi fi) (hg : RG g tg own) (hb : RSW W tb body) : RSW W (tFor wi g tb) (forS fi tg body) := fun {B E S σ I H} r {o Ef Sf} e {Dn} k => by
  unfold forS at e
  split at e
  · rename_i items S1 q
    refine hi r q fun J I1 H1 r1 l1 it => ?_
    let Wv : Nat → Nat → L2.St → Hp → Prop := fun i m σ' H' => ∃ E' S' I', R B E' S' σ' I' H' ∧ Le I1 I' ∧ m = items.length - i ∧ i ≤ items.length ∧ forL tg body (items.drop i) E' S' = some (o, Ef, Sf)
    refine ⟨Wv, ⟨_, E, S1, I1, r1, le_rfl, rfl, Nat.zero_le _, by rw [List.drop_zero]; exact e⟩, ?_⟩
    rintro i m σ' H' ⟨E', S', I', r', l', rfl, hle, e'⟩
    obtain ⟨go, stop, yld⟩ := it B E' S' σ' I' H' rfl r' l' i
    by_cases hlt : i < items.length
    · right
      refine ⟨go hlt, Wv (i + 1) (items.length - (i + 1)), fun σ2 H2 w => ⟨_, by omega, w⟩, fun x H2 y => ?_⟩
      rw [List.drop_eq_getElem_cons hlt] at e'
      unfold forL at e'
      split at e'
      · cases e'
      · rename_i E1 q1
        obtain ⟨I2, r2, l2, hd⟩ := yld x H2 _ (List.getElem?_eq_getElem hlt) y
        refine hg r2 hd q1 fun σ3 I3 H3 r3 l3 _ _ => ?_
        split at e'
        · rename_i E2 S2 q2
          exact hb r3 q2 fun σ4 I4 H4 r4 l4 => ⟨E2, S2, I4, r4, l'.trans (l2.trans (l3.trans l4)), rfl, hlt, e'⟩
        · rename_i E2 S2 q2
          exact hb r3 q2 fun σ4 I4 H4 r4 l4 => ⟨E2, S2, I4, r4, l'.trans (l2.trans (l3.trans l4)), rfl, hlt, e'⟩
        · rename_i E2 S2 q2
          cases e'
          exact hb r3 q2 fun σ4 I4 H4 r4 l4 => k σ4 I4 H4 r4 (l1.trans (l'.trans (l2.trans (l3.trans l4))))
        · rename_i d E2 S2 q2
          cases e'
          exact hb r3 q2 fun v I4 H4 s4 l4 hd4 => k v I4 H4 s4 (l1.trans (l'.trans (l2.trans (l3.trans l4)))) hd4
        · cases e'
    · left
      have he : i = items.length := by omega
      subst he
      rw [List.drop_length] at e'
      cases e'
      exact ⟨stop (Nat.le_refl _), k σ' I' H' r' (l1.trans l')⟩
  · cases e
/-- return a, b with b new -/
theorem rsw_pair {ta tb : TE} {fa fb : FE} (ha : RE ta fa) (hb : RF tb fb) : RSW WS (tRet (tTup (tCons ta (tCons tb tNil)))) (retS (tupE (consA fa (consA fb nilA)))) := fun {B E S σ I H} r {o E' S'} e {Dn} k => by
  unfold retS tupE consA nilA at e
  cases q1 : fa E S with
  | none => rw [q1] at e; cases e
  | some w1 =>
    obtain ⟨x, S1⟩ := w1
    simp only [q1] at e
    cases q2 : fb E S1 with
    | none => simp only [q2] at e; cases e
    | some w2 =>
      obtain ⟨y, S2⟩ := w2
      simp only [q2] at e
      cases e
      refine ha r q1 fun v I1 H1 r1 l1 h1 => hb r1 q2 fun z I2 H2 r2 l2 f2 => ⟨two_le, fun T hT => ?_⟩
      obtain ⟨I3, r3, l3, h3⟩ := r2.freeze f2
      obtain ⟨I4, r4, l4, h4⟩ := newT r3 hT (.cons (h1.mono (l2.trans l3)) (.cons h3 .nil))
      refine k _ I4 _ r4.st (l1.trans (l2.trans (l3.trans l4))) ⟨h4, fun t' x' p et ht => ?_⟩
      cases et
      rw [upd_same] at ht
      obtain ⟨p0, u, rfl, g1, g2, g3, g4, g5⟩ := f2
      cases ht
      exact g2.1
end
section
variable {P : Program} {w : World} {K : PySem.W.Frag} {mg : Str → Option Value} {base : Heap}
theorem fn_DW {W : WR} {x qual : Str} {st : Stmt} {f : Addr} {fd : FuncData} {N ps : List Str} {k : Nat} {g : FS} (hW : ∀ B I H, W B I H .non .non) (F : Fun K x qual st f fd) (S : FnScope N ps (defScope st))
    (hbody : ∀ (cdv : Value) (A : Around) (outer : List Env) (s : Shared) (H : Hp), Room k (A.deeper (PyProof.Rows.envOfC qual (defScope st) s.heap.objs.size f cdv)) →
      ∃ t, PSs (cxOf CX0 P w K mg base N qual (defScope st) f cdv A outer s H E0).nox (defBody st) t ∧ RSW W t g) : FnOk P w K mg base CX0 (k + 1) f fd ps (spW W (runS N.length g) ps.length) := by
  refine F.ok S (fun vs H Q E h => ?_) (fun cdv A outer s H vs Q E hr h => ?_)
  · obtain ⟨B, ds, S0, d, S', _, _, hd, hn, _⟩ := h
    rw [Paired.length hd, hn]
  · obtain ⟨B, ds, S0, d, S', hH, hs, hd, hn, e, kk⟩ := h
    obtain ⟨t, ht, hr⟩ := hbody cdv A outer s H hr
    refine ⟨t, ht, ?_⟩
    unfold runS at e
    have r0 := start_R (N := N) hH hs hd
    split at e
    · rename_i d' E' S1 q
      cases e
      exact hr r0 q fun v I' H' s' _ hd' => kk v I' H' s' hd'
    · rename_i E' S1 q
      cases e
      exact hr r0 q fun σ' I' H' r' l => kk .non I' H' r'.st (hW _ _ _)
    · cases e
end
end M

set_option Elab.async false
set_option linter.all false
set_option maxRecDepth 100000
set_option maxHeartbeats 4000000
namespace M
open PySem L2

/-! ### a body that needs nothing of the frozen -/
def Bs.bare (B : Bs) : Bs := { B with I := fun _ => none }
section
variable {B : Bs} {I H : Hp} {S : Sm}
theorem Stt.noFr0 (s : Stt B B.I B.H S) (a : Addr) : B.fr a = none := by
  cases q : B.fr a with
  | none => rfl
  | some o =>
    obtain ⟨y1, _, y3, _⟩ := s.fr a o q
    rw [y3] at y1
    cases y1
theorem Stt.bare (s : Stt B B.I B.H S) : Stt B.bare (fun _ => none) B.H S := by
  refine ⟨(fun _ _ h => by cases h), Le.refl _, fun _ _ h _ _ => h, (fun _ _ h => by cases h), ⟨fun q hc => ?_⟩, (fun _ _ _ h => by cases h), s.stH, fun a o h => ?_⟩
  · obtain ⟨h0, h1, h2, h3, h4⟩ := s.st.at_ q hc
    exact ⟨h0, rfl, rfl, h3, h4⟩
  · have h : B.fr a = some o := h
    rw [s.noFr0 a] at h
    cases h
def join (I J : Hp) : Hp := fun a => match I a with
  | some o => some o
  | none => J a
theorem join_l {I J : Hp} {a : Addr} {o : HO} (h : I a = some o) : join I J a = some o := by unfold join; rw [h]
theorem join_r {I J : Hp} {a : Addr} (h : I a = none) : join I J a = J a := by unfold join; rw [h]
/-- back to the caller's frozen part -/
theorem Stt.grow {S' : Sm} {I' H' : Hp} (s : Stt B B.I B.H S) (t : Stt B.bare I' H' S') : Stt B (join I' B.I) H' S' ∧ Le I' (join I' B.I) := by
  have k : ∀ a o, B.I a = some o → H' a = some o := fun a o h => by
    have h2 := s.sub a o h
    refine t.keep a o h2 rfl fun z => ?_
    obtain ⟨q, hc, z⟩ := z
    have hc : B.c = some q := hc
    obtain ⟨_, g1, g2, _, _⟩ := s.st.at_ q hc
    rcases z with rfl | rfl
    · rw [g1] at h; cases h
    · have h : B.I B.l = some o := h
      rw [g2] at h; cases h
  refine ⟨⟨fun a o h => ?_, ⟨fun a o h => ?_⟩, fun a o h h1 h2 => t.keep a o h rfl h2, fun a o h => ?_, ⟨fun q hc => ?_⟩, fun a o u h => ?_, s.stH, fun a o h => ?_⟩, ⟨fun a o h => join_l h⟩⟩
  · cases q : I' a with
    | some w' =>
      rw [join_l q] at h
      cases h
      exact t.sub _ _ q
    | none =>
      rw [join_r q] at h
      exact k a o h
  · cases q : I' a with
    | some w =>
      have e1 := t.sub _ _ q
      rw [k a o h] at e1
      cases e1
      exact join_l q
    | none => rw [join_r q]; exact h
  · cases q : I' a with
    | some w =>
      rw [join_l q] at h
      rcases t.new a w q with ⟨_, z⟩ | z | z
      · cases z
      · exact .inr (.inl z)
      · exact .inr (.inr (Option.some.inj h ▸ z))
    | none =>
      rw [join_r q] at h
      exact .inl ⟨o, h⟩
  · obtain ⟨h0, h1, h2, h3, h4⟩ := t.st.at_ q hc
    obtain ⟨_, g1, g2, _, _⟩ := s.st.at_ q hc
    have h2' : I' B.l = none := h2
    have e2 : join I' B.I B.l = none := by rw [join_r h2']; exact g2
    exact ⟨h0, by rw [join_r h1]; exact g1, e2, h3, h4⟩
  · cases q : I' a with
    | some w =>
      rw [join_l q] at h
      rw [Option.some.inj h] at q
      have := (t.nofr a o u q).2
      cases this
    | none => rw [join_r q] at h; exact s.nofr a o u h
  · rw [s.noFr0 a] at h
    cases h
theorem flat_den {c : Option Addr} {I J : Hp} {v : V} {d : D} (h : Den c I v d) (f : flatD d = true) : Den c J v d := by
  cases h with
  | non => exact .non
  | bl b => exact .bl b
  | int i => exact .int i
  | str x => exact .str x
  | strm h => cases f
  | far _ => cases f
  | lst _ _ _ => cases f
  | tup _ _ _ => cases f
  | dic _ _ _ => cases f
  | dtk _ _ _ => cases f
  | ins _ _ _ => cases f
theorem noDicts_at : ∀ {ds : List D} {i : Nat} {d : D}, noDicts ds = true → ds[i]? = some d → noDict d = true
  | [], i, d, _, h => by simp at h
  | x :: r, 0, d, f, h => by
    rw [noDicts, Bool.and_eq_true] at f
    simp at h
    rw [← h]
    exact f.1
  | x :: r, i + 1, d, f, h => by
    rw [noDicts, Bool.and_eq_true] at f
    exact noDicts_at f.2 (by simpa using h)
/-- what holds no dict does not change with a dict's place -/
theorem noDict_den {c : Option Addr} {I : Hp} {p : Addr} {kvs : List (Key × V)} (hp : I p = some (.dK kvs)) {v : V} {d : D} (h : Den c I v d) : noDict d = true → Den c (delI I p) v d := by
  have go : ∀ {a : Addr} {u : HO}, ((∃ vs, u = .lst vs) ∨ ∃ vs, u = .tup vs) → Rd I a u → Rd (delI I p) a u := fun {a u} hu r => by
    have : a ≠ p := fun e => by
      subst e
      rcases r with r | ⟨o, r⟩
      · rw [hp] at r
        rcases hu with ⟨_, rfl⟩ | ⟨_, rfl⟩ <;> cases r
      · rw [hp] at r; cases r
    unfold Rd at r ⊢
    rw [delI_ne this]
    exact r
  induction h with
  | non => intro _; exact .non
  | bl b => intro _; exact .bl b
  | int i => intro _; exact .int i
  | str x => intro _; exact .str x
  | strm h => intro f; cases f
  | far _ => intro f; cases f
  | lst r l _ ih => intro f; exact .lst (go (.inl ⟨_, rfl⟩) r) l fun i v d h1 h2 => ih i v d h1 h2 (noDicts_at (by rw [noDict] at f; exact f) h2)
  | tup r l _ ih => intro f; exact .tup (go (.inr ⟨_, rfl⟩) r) l fun i v d h1 h2 => ih i v d h1 h2 (noDicts_at (by rw [noDict] at f; exact f) h2)
  | dic _ _ _ _ => intro f; cases f
  | dtk _ _ _ _ => intro f; cases f
  | ins _ _ _ _ => intro f; cases f
theorem flat_denP {c : Option Addr} {I J : Hp} : ∀ {kvs : List (Key × V)} {kds : List (Key × D)}, DenP c I kvs kds → (kds.all fun p => flatD p.2) = true → DenP c J kvs kds
  | _, _, .nil, _ => .nil
  | _, _, .cons h t, f => by
    rw [List.all_cons, Bool.and_eq_true] at f
    exact .cons ⟨h.1, flat_den h.2 f.1⟩ (flat_denP t f.2)
end
end M

set_option Elab.async false
set_option linter.all false
set_option maxRecDepth 100000
set_option maxHeartbeats 4000000
namespace M
open PySem L2 PySem.Spec PyProof.Rows

/-! ### the law's own call: it is made where nothing is guarded -/
def Q1 : VK := fun v _ => v = .bl true
def Good1 (s0 : Shared) : Result → Shared → Prop := fun r s' => r = .ok (.ret (.bool true)) ∧ OldK s0.heap s'.heap ∧ s'.os = s0.os ∧ AllBare s'.gens
section
variable {P : Program} {w : World} {K : PySem.W.Frag} {mg mb : Str → Option Value} {base : Heap}
/-- one run of a def, at one surrounding -/
theorem run_at {nm qual : Str} {st : Stmt} {f : Addr} {fd : FuncData} {N ps : List Str} {k : Nat} {A : Around} {outer : List Env} {s : Shared} {H : Hp} {args : Args} {us : List Value} {vs : List V} {Q : VK} {E : XK}
    (F : Fun K nm qual st f fd) (Sc : FnScope N ps (defScope st)) (room : Room (k + 1) A) (en : Env0 P w K mg base A outer s H) (bn : BindsTo s fd args (ps.zip us)) (rv : Vals vs us) (lv : vs.length = ps.length)
    (bd : ∀ cdv : Value, Room k (A.deeper (envOfC qual (defScope st) s.heap.objs.size f cdv)) → ∃ t, PSs (cxOf CX0 P w K mg base N qual (defScope st) f cdv A outer s H E).nox (defBody st) t ∧ t { nx := fun _ H2 => Q .non H2, rt := Q } (L2.start N vs) H) :
    codeAny (model P w) A (.call (.ref f) args) (CR CX0 outer P w H s Q E) s := by
  obtain ⟨_, _, _, _, _, _, cdv, _, _, rfl, look, code⟩ := F.ex
  have inK : K.In s.heap := PySem.W.Frag.In.keeps en.mod.kin fun p u z => (en.bs p u z).1
  have free : s.heap.NoLimit := Heap.NoLimit.keeps en.mod.nolimit fun p u z => (en.bs p u z).1
  obtain ⟨t, pt, wt⟩ := bd cdv (room.deeper _)
  have kinds : ∀ q ∈ ps.zip us, (defScope st).names.lookup q.1 = some .local ∨ ((defScope st).names.lookup q.1 = some .cell ∧ ((cellsFrom (s.heap.objs.size + 1) (defScope st).names []).lookup q.1).isSome = true) := by
    rintro ⟨y, u⟩ hm
    have hy := Sc.par y (List.of_mem_zip hm).1
    exact hy.imp id fun z => ⟨z, PySem.W.cellsFrom_some _ _ _ (Or.inl z)⟩
  have gets := inK _ _ look
  have rec' := PySem.W.codeRec_of inK code
  refine codeAny_call_function room.depth gets rfl Sc.co Sc.gen rfl rec' (bn _ _ _ _ (wpAny_newFunctionEnv_cells Sc.kind kinds ?_))
  rintro _ rfl s2 ic
  refine And.intro (free.keeps ic.toInCall.keep) (codeAny_func ?_)
  have iv := inv_start (E := E) (CX := CX0) Sc room.hd en lv rv ic
  refine wpAny_mono (PSs.run pt.nox [] s2 (L2.start N vs) H _ iv wt) ?_ fun _ _ z => z
  intro fl s3 z
  match fl, z with
  | .ret u, ⟨v, _, H3, iv3, ru, q⟩ => exact ⟨v, H3, iv3.os, iv3.bare, iv3.base, iv3.hok, ru, q⟩
  | .next, ⟨_, H3, iv3, q⟩ => exact ⟨V.non, H3, iv3.os, iv3.bare, iv3.base, iv3.hok, rfl, q⟩
  | .brk, ⟨_, _, _, q⟩ => exact q.elim
  | .cont, ⟨_, _, _, q⟩ => exact q.elim
/-- what may be tracked at the law's call: the script, and that only where the module does not hold it -/
structure Scr (K : PySem.W.Frag) (h : Heap) (a : Addr) (vs : List Value) (ns : List Int) (H : Hp) : Prop where
  at_ : ∀ b u, H b = some u → b = a ∧ K.lookup a = none ∧ u = .frz { cls := .type "list", data := .seq vs.toArray } (.lst (ns.map V.int))
theorem Scr.none {h : Heap} {a b : Addr} {vs : List Value} {ns : List Int} {H : Hp} {o : Obj} (c : Scr K h a vs ns H) (ha : h.get? a = some { cls := .type "list", data := .seq vs.toArray }) (e : h.get? b = some o) (n : ∀ xs m, o.data ≠ .seq xs m) : H b = none := by
  cases q : H b with
  | none => rfl
  | some u =>
    obtain ⟨rfl, _, _⟩ := c.at_ b u q
    have : o = { cls := .type "list", data := .seq vs.toArray } := Option.some.inj (e.symm.trans ha)
    exact absurd (congrArg Obj.data this) (n _ _)
theorem Scr.ns {h : Heap} {a b : Addr} {vs : List Value} {ns : List Int} {H : Hp} {m : Str → Option Value} (c : Scr K h a vs ns H) (ha : h.get? a = some { cls := .type "list", data := .seq vs.toArray }) (g : h.Ns b m) : (hidT h H).Ns b m := by
  obtain ⟨o, es, ep, g1, g2, g3⟩ := g
  exact ⟨o, es, ep, hidT_get g1 (c.none ha g1 fun xs z q => by rw [g2] at q; cases q), g2, g3⟩
theorem Scr.mod {h : Heap} {a : Addr} {vs : List Value} {ns : List Int} {H : Hp} (c : Scr K h a vs ns H) (ha : h.get? a = some { cls := .type "list", data := .seq vs.toArray }) (kin : K.In h) (g1 : h.Ns mainGlobals mg) (g2 : h.Ns builtinsNs mb) (g3 : ∀ x : Str, x ≠ "__name__" → mb x = bootBuiltins x) (g4 : h.NoLimit) : Mod K mg (hidT h H) := by
  refine ⟨fun b o z => hidT_get (kin b o z) ?_, c.ns ha g1, ⟨mb, c.ns ha g2, g3⟩, ?_⟩
  · cases q : H b with
    | none => rfl
    | some u =>
      obtain ⟨rfl, z2, _⟩ := c.at_ b u q
      rw [z] at z2
      cases z2
  · obtain ⟨mc, z1, z2⟩ := g4
    exact ⟨mc, c.ns ha z1, z2⟩
theorem Scr.hok {h : Heap} {a : Addr} {vs : List Value} {ns : List Int} {H : Hp} (c : Scr K h a vs ns H) (ha : h.get? a = some { cls := .type "list", data := .seq vs.toArray }) (rv : Vals (ns.map V.int) vs) (hl : ns.length ≤ sizeLine) : HOk P w H h := by
  intro b u z
  obtain ⟨rfl, _, rfl⟩ := c.at_ b u z
  exact ⟨ha, by rw [List.length_map]; exact hl, vs, _, rv, ha⟩
/-- the law's call, from one run of it -/
theorem call_at {k : Nat} {nm qual : Str} {st : Stmt} {N : List Str} {fa a : Addr} {fd : FuncData} {x : Str} {s₁ : Shared} {vs : List Value} {ns : List Int}
    (F : Fun K nm qual st fa fd) (Sc : FnScope N [x] (defScope st)) (kin : K.In s₁.heap) (g1 : s₁.heap.Ns mainGlobals mg) (g2 : s₁.heap.Ns builtinsNs mb) (g3 : ∀ x : Str, x ≠ "__name__" → mb x = bootBuiltins x) (g4 : s₁.heap.NoLimit) (gg : s₁.gens = #[])
    (ha : s₁.heap.get? a = some { cls := .type "list", data := .seq vs.toArray }) (hi : IntsAre vs ns) (hl : ns.length ≤ sizeLine) (room : Room (k + 1) callerA)
    (bn : ∀ (s : Shared) (u : Value), BindsTo s fd ⟨[u], []⟩ [(x, u)])
    (bd : ∀ (base : Heap) (cdv : Value) (H : Hp), Mod K mg base → SqL K H a (ns.map V.int) → Room k (callerA.deeper (envOfC qual (defScope st) s₁.heap.objs.size fa cdv)) →
      ∃ t, PSs (cxOf CX0 P w K mg base N qual (defScope st) fa cdv callerA [] s₁ H fun _ _ _ => False).nox (defBody st) t ∧ t { nx := fun _ H2 => Q1 .non H2, rt := Q1 } (L2.start N [.ref a]) H) :
    codeAny (model P w) callerA (.call (.ref fa) ⟨[.ref a], []⟩) (Good1 s₁) s₁ := by
  have rv := vals_ints hi
  have size := hi.length
  have main : ∀ H : Hp, Scr K s₁.heap a vs ns H → SqL K H a (ns.map V.int) → codeAny (model P w) callerA (.call (.ref fa) ⟨[.ref a], []⟩) (Good1 s₁) s₁ := by
    intro H c sq
    have md := c.mod ha kin g1 g2 g3 g4
    have ok : HOk P w H s₁.heap := c.hok ha rv hl
    have en : Env0 P w K mg (hidT s₁.heap H) callerA [] s₁ H := ⟨rfl, md, fun _ _ z => of_hidT z, Nat.le_of_eq (hidT_size s₁.heap H), trivial, (fun _ z => nomatch z), ok, AllBare.of_eq gg⟩
    refine codeAny_mono (run_at (Q := Q1) (E := fun _ _ _ => False) (us := [.ref a]) (vs := [.ref a]) F Sc room en (bn s₁ _) (.cons rfl .nil) rfl fun cdv rm => ?_) ?_
    · obtain ⟨t, t1, t2⟩ := bd _ cdv H md sq rm
      exact ⟨t, t1, t2⟩
    · intro r s2 z
      match r, z with
      | .error _, z => exact z.elim
      | .ok (.ret u), ⟨v, H2, os2, br, un, ok2, ru, q⟩ =>
        have q : v = V.bl true := q
        subst q
        cases (show u = Value.bool true from ru)
        refine ⟨rfl, OldK.of_keep fun b o g => ?_, os2, br⟩
        cases q : H b with
        | none => exact un.keep b o g q (fun z => nomatch z) (fun z => nomatch z)
        | some u =>
          obtain ⟨rfl, _, rfl⟩ := c.at_ b u q
          exact ((ok2 b _ (un.frzs b _ _ q)).1).trans (((ok b _ q).1).symm.trans g)
      | .ok .next, z => exact z.elim
      | .ok .brk, z => exact z.elim
      | .ok .cont, z => exact z.elim
  cases hk : K.lookup a with
  | some o =>
    have same : o = { cls := .type "list", data := .seq vs.toArray } := Option.some.inj ((kin a o hk).symm.trans ha)
    subst same
    refine main (fun _ => none) ⟨fun _ _ z => nomatch z⟩ (Or.inr ⟨_, vs.toArray, _, hk, rfl, rfl, rfl, ?_, ?_⟩)
    · rw [List.size_toArray, size]
      exact hl
    · rw [List.toList_toArray]
      exact rv
  | none =>
    refine main (fun b => if b = a then some (.frz { cls := .type "list", data := .seq vs.toArray } (.lst (ns.map V.int))) else none) ⟨fun b u z => ?_⟩ (Or.inl (Or.inr ⟨{ cls := .type "list", data := .seq vs.toArray }, if_pos rfl⟩))
    split at z
    · rename_i e
      exact ⟨e, hk, (Option.some.inj z).symm⟩
    · cases z
end
/-- the bits of all cells, and the law's end -/
theorem walk_at {l : PySem.W.OpenLaw} {q : Program} {loose : List Str} {XP : (Str → Option Value) → Heap → Prop} {YP : World → Heap → Prop} {d : DefRec} {x nm qual : Str} {st : Stmt} {N : List Str} {k : Nat}
    (most : l.most = some 63) (noD : d.params.defaults = []) (room : Room (k + 1) callerA) (Sc : FnScope N [x] (defScope st))
    (body : ∀ (w : World) (mg : Str → Option Value) (fa : Addr) (h : Heap), YP w h → h.Ns mainGlobals mg → mg d.name = some (.ref fa) →
      ∃ (K : PySem.W.Frag) (fd : FuncData), K.In h ∧ Fun K nm qual st fa fd ∧ (∀ (s : Shared) (u : Value), BindsTo s fd ⟨[u], []⟩ [(x, u)]) ∧
        ∀ (s₁ : Shared) (a : Addr) (ns : List Int) (base : Heap) (cdv : Value) (H : Hp), ns.length ≤ 63 → (∀ z ∈ ns, Builtin.Int.intBits z ≤ 1048576) → Mod K mg base → SqL K H a (ns.map V.int) → Room k (callerA.deeper (envOfC qual (defScope st) s₁.heap.objs.size fa cdv)) →
          ∃ t, PSs (cxOf CX0 l.prog w K mg base N qual (defScope st) fa cdv callerA [] s₁ H fun _ _ _ => False).nox (defBody st) t ∧ t { nx := fun _ H2 => Q1 .non H2, rt := Q1 } (L2.start N [.ref a]) H) :
    PySem.W.WalkO q loose XP YP l.row.toRowW d [] (fun f us => PySem.call f us) :=
  Att.attach_callB most noD fun w _ s mg _ fa _ _ _ _ a us ns gr y _ _ _ nameIs obj nums few bits noGen => by
    obtain ⟨K, fd, kin, F, bn, bd⟩ := body w mg fa _ y gr.T.g nameIs
    exact call_at F Sc kin gr.T.g gr.T.b gr.T.builtins gr.T.nolimit noGen obj nums (Nat.le_trans few (by decide)) room bn fun base cdv H md sq rm => bd s a ns base cdv H few bits md sq rm
theorem fun_of {K : PySem.W.Frag} {x qual : Str} {st : Stmt} {f : Addr} {fd : FuncData} (F : FunD K x qual (defArgs st) (defBody st) (defScope st) [] [] f fd) : Fun K x qual st f fd := by
  obtain ⟨oc, od, dV, kV, doc, pm, an, cdv, ct, osl, h1, h2, h3, h4, _⟩ := F.ex
  rcases h4 with ⟨_, rfl⟩ | ⟨h4, _⟩
  · exact ⟨⟨oc, od, kV, doc, pm, an, cdv, ct, osl, h1, h2, h3⟩, F.kp⟩
  · exact absurd rfl h4
/-! ### what is told of the top: facts by names, and some of K by a look -/
def obsO (n : Nat) (fa : List He.Fa) (fn : List He.DefD) (ex : PySem.W.Frag → Bool) (g : Addr → Option Obj) : He.AlD × Bool := (He.obsDG n fa fn g, ex (He.frG g (He.asD g n)))
structure SaysO (fa : List He.Fa) (fn : List He.DefD) (ex : PySem.W.Frag → Bool) (K : PySem.W.Frag) : Prop where
  d : He.SaysD fa fn K
  ex : ex K = true
def hookO (n : Nat) (fa : List He.Fa) (fn : List He.DefD) (ex : PySem.W.Frag → Bool) : PySem.W.Hook where
  α := He.AlD × Bool
  obs := fun s => obsO n fa fn ex s.heap.get?
  val := fun _ => (He.valD fn, true)
  says := fun _ h => ∃ K : PySem.W.Frag, K.In h ∧ SaysO fa fn ex K
  of := fun _ _ e => ⟨_, He.frG_in, ⟨congrArg Prod.fst e, congrArg Prod.snd e⟩⟩
  keeps := fun _ _ _ ⟨K, h1, c⟩ z => ⟨K, h1.keeps z, c⟩
theorem obsO_eq {n : Nat} {fa : List He.Fa} {fn : List He.DefD} {ex : PySem.W.Frag → Bool} {g : Addr → Option Obj} {s : Shared} (h : ∀ a, g a = s.heap.get? a) : obsO n fa fn ex g = (hookO n fa fn ex).obs s := by
  obtain rfl : g = s.heap.get? := funext h
  rfl
end M

set_option Elab.async false
set_option linter.all false
set_option maxRecDepth 100000
set_option maxHeartbeats 4000000
namespace M
open PySem L2 PySem.Spec PyProof.Rows

/-! ### max(d.values()) -/
def vwOb (T : String) (a : Addr) : Obj := { cls := .type T, data := .fields #[.ref a] }
def vwO (T : String) (p a : Addr) : HO := .ext fun h => h.get? p = some (vwOb T a)
def tVals (td : TE) : TE := fun σ H Q => td σ H fun x H1 => ∃ a kvs, x = V.ref a ∧ Rd H1 a (.dK kvs) ∧ ∀ p, H1 p = none → Q (.ref p) (upd H1 p (vwO "dict_values" p a))
theorem pe_vals {X : Cx} {e : Expr} {td : TE} {apos pos : Pos} (he : PE X e td) (hb : attributeBase e "values" X.env (eval e X.env) = eval e X.env := by rfl) (hl : (apos.endLine == pos.line) = true := by rfl) : PE X (.Call (.Attribute e "values" apos) [] [] pos) (tVals td) := by
  constructor
  intro pins s σ H Q I w
  refine wpAny_Call_method0_late hb hl (thn (he.run pins s σ H _ I w) ?_)
  rintro u s2 ⟨x, H2, J, rx, a, kvs, rfl, hd, q⟩
  cases (show u = Value.ref a from rx)
  obtain ⟨_, sys, vs, rel, dof⟩ := dk_rd J.hok hd
  obtain ⟨ep, at_⟩ := dof.dictAt
  obtain ⟨ob, es, ho, exd, _⟩ := id at_
  refine ⟨"dict", "dict.values", F.plainAttrs_dict, F.slot_dict_values, F.type_dict_values, ⟨ob, ho, exd.1⟩, (fun b z => by cases z; exact ⟨ob, ho, exd.2.1⟩), Calls.callWith_builtin rfl (PySem.evalArgs_none ?_)⟩
  refine call_meetsIn F.slot_dict_values ⟨ob, ho, exd.1⟩ F.entry_dict_values (F.args_dict_values_1 _) (meets_dict_values (mixKind X.prog X.w) a sys) ⟨⟨vs, dof⟩, ?_⟩
  have kp : ∀ b u, s2.heap.get? b = some u → (s2.heap.push (vwOb "dict_values" a)).get? b = some u := fun b u z => Heap.get?_push_of_some _ z
  have new : (s2.heap.push (vwOb "dict_values" a)).get? s2.heap.objs.size = some (vwOb "dict_values" a) := Heap.get?_push_size _ rfl
  refine ⟨.ref s2.heap.objs.size, _, J.laid (t' := s2.toks) kp (Nat.le_refl _) (o := vwO "dict_values" s2.heap.objs.size a) ⟨new, ⟨_, new⟩, fun h1 h2 z k => k _ z⟩, rfl, q _ (J.hok.fresh (Nat.le_refl _))⟩
theorem kv_at {κ : Type} : ∀ {kvs : List (κ × V)} {vs : List (κ × Value)}, KV kvs vs → ∀ {i : Nat} {k : κ} {v : Value}, vs[i]? = some (k, v) → ∃ x, kvs[i]? = some (k, x) ∧ RelV x v
  | _, _, .nil, i, k, v, e => by simp at e
  | _, _, .cons r t, 0, k, v, e => by
    simp at e
    subst e
    exact ⟨_, by simp; exact Prod.ext r.1 rfl, r.2⟩
  | _, _, .cons r t, i + 1, k, v, e => by
    obtain ⟨x, h1, h2⟩ := kv_at t (i := i) (by simpa using e)
    exact ⟨x, by simpa using h1, h2⟩
def rMaxV : List V → Hp → VK → Prop := fun xs H Q => ∃ p a kvs is, xs = [V.ref p] ∧ H p = some (vwO "dict_values" p a) ∧ Rd H a (.dK kvs) ∧ kvs.map (·.2) = List.map V.int is ∧ is ≠ [] ∧ ∀ m, m ∈ is → (∀ j ∈ is, j ≤ m) → Q (.int m) H
theorem cr_maxV {X : Cx} (hc : X.calm = true) : CallR X (.builtin "max") rMaxV := by
  intro pins s σ H xs us Q I r w
  obtain ⟨p, a, kvs, is, rfl, hp, hd, hv, hne, q⟩ := w
  rw [Vals.ref1 r]
  obtain ⟨_, sys, vs, rel, dof⟩ := dk_rd I.hok hd
  obtain ⟨ep, at_⟩ := dof.dictAt
  obtain ⟨ob, es, ho, _, _⟩ := id at_
  have view : s.heap.get? p = some (vwOb "dict_values" a) := (show ObjOk X.prog X.w H s.heap p (vwO "dict_values" p a) from I.hok p _ hp).1
  have size : vs.length = is.length := by
    have z := congrArg List.length hv
    rw [List.length_map, List.length_map] at z
    exact (KV.length rel).symm.trans z
  have num : ∀ (i : Nat) (v : Value), (∃ k, vs[i]? = some (k, v)) → ∃ t, v = Value.int (is.getD i 0) t := by
    rintro i v ⟨k, hk⟩
    obtain ⟨x, h1, h2⟩ := kv_at rel hk
    have e1 : (kvs.map (·.2))[i]? = some x := by rw [List.getElem?_map, h1]; rfl
    rw [hv, List.getElem?_map] at e1
    cases q1 : is[i]? with
    | none => rw [q1] at e1; cases e1
    | some j =>
      rw [q1] at e1
      cases e1
      obtain ⟨t, e3⟩ := h2
      exact ⟨t, by rw [e3, List.getD_eq_getElem?_getD, q1]; rfl⟩
  have pos : 0 < vs.length := by rw [size]; exact List.length_pos_iff.mpr hne
  have lt1 := Heap.lt_size ho
  have lt2 := Heap.lt_size view
  refine call_max_walk (wpAny_pyIter_values (v := p) (d := a) ⟨_, view, rfl, rfl⟩ at_ ⟨_, _, _, _, _, _, _, rfl, Walks.dictValues (knd := mixKind X.prog X.w) (A := X.A.in1) (I.ok.hd hc) s.heap.objs.size a (Nat.ne_of_lt lt1) vs ep, ⟨⟨_, Heap.get?_push_size _ rfl, rfl, rfl⟩, at_.keep fun b u z => Heap.get?_push_of_some _ z⟩, ?_, pos, CmpOf.ints_gt (fun i => is.getD i 0) num, ?_⟩)
  · intro b hb
    show b < (s.heap.push _).objs.size
    rw [Heap.size_push]
    rcases List.mem_cons.mp hb with rfl | hb
    · exact Nat.lt_succ_self _
    · rw [List.mem_singleton] at hb
      subst hb
      exact Nat.lt_succ_of_lt lt1
  · intro v h2 tk hP keep
    obtain ⟨t, rfl⟩ := num _ v hP
    obtain ⟨b1, b2⟩ := argBest_gt (fun i => is.getD i 0) (vs.length - 1)
    have hb : argBest (fun i j => decide (is.getD i 0 > is.getD j 0)) (vs.length - 1) < is.length := by
      rw [← size]
      exact Nat.lt_of_le_of_lt b1 (Nat.sub_lt pos Nat.one_pos)
    refine ⟨.int _, H, I.kept (t' := tk) fun b u z => keep b u (fun m => ?_) (Heap.get?_push_of_some _ z), ⟨t, rfl⟩, q _ ?_ fun j hj => ?_⟩
    · rw [List.mem_singleton] at m
      exact absurd m (Nat.ne_of_lt (Heap.lt_size z))
    · rw [List.getD_eq_getElem?_getD, List.getElem?_eq_getElem hb]
      exact List.getElem_mem hb
    · obtain ⟨i, hi, rfl⟩ := List.mem_iff_getElem.mp hj
      have z := b2 i (Nat.le_sub_one_of_lt (Nat.lt_of_lt_of_eq hi size.symm))
      simp only [List.getD_eq_getElem?_getD, List.getElem?_eq_getElem hi, Option.getD_some] at z ⊢
      exact z
theorem maxZ_ge : ∀ (zs : List Int) (z : Int), maxZ z zs ∈ z :: zs ∧ ∀ y ∈ z :: zs, y ≤ maxZ z zs
  | [], z => ⟨List.mem_cons_self, fun y hy => by rw [List.mem_singleton] at hy; subst hy; exact Int.le_refl _⟩
  | y :: zs, z => by
    have e : maxZ z (y :: zs) = maxZ (if z < y then y else z) zs := rfl
    obtain ⟨h1, h2⟩ := maxZ_ge zs (if z < y then y else z)
    rw [e]
    have h3 := h2 _ List.mem_cons_self
    by_cases c : z < y
    · rw [if_pos c] at h1 h2 h3 ⊢
      refine ⟨List.mem_cons_of_mem _ h1, fun u hu => ?_⟩
      rcases List.mem_cons.mp hu with rfl | hu
      · omega
      · exact h2 u hu
    · rw [if_neg c] at h1 h2 h3 ⊢
      refine ⟨?_, fun u hu => ?_⟩
      · rcases List.mem_cons.mp h1 with h | h
        · rw [h]; exact List.mem_cons_self
        · exact List.mem_cons_of_mem _ (List.mem_cons_of_mem _ h)
      · rcases List.mem_cons.mp hu with rfl | hu
        · exact h3
        · rcases List.mem_cons.mp hu with rfl | hu
          · omega
          · exact h2 u (List.mem_cons_of_mem _ hu)
theorem denP_vals {κ : Type} {c : Option Addr} {I : Hp} : ∀ {kvs : List (κ × V)} {kds : List (κ × D)}, DenP c I kvs kds → DenL c I (kvs.map (·.2)) (kds.map (·.2))
  | _, _, .nil => .nil
  | _, _, .cons r t => .cons r.2 (denP_vals t)
def maxVE (f : FE) : FE := fun E S => match f E S with
  | some (.dic kds, S1) => match ints? (kds.map (·.2)) with
    | some (n :: ns) => some (.int (maxZ n ns), S1)
    | _ => none
  | _ => none
theorem re_maxV {td : TE} {f : FE} (h : RE td f) : RE (tCB rMaxV (tCons (tVals td) tNil)) (maxVE f) := fun {B E S σ I H} r {d S'} e {Q} k => by
  unfold maxVE at e
  split at e
  · rename_i kds S1 q
    split at e
    · rename_i n ns q2
      cases e
      refine h r q fun v I1 H1 r1 l1 hd => ?_
      obtain ⟨a, kvs, rfl, hr, hl⟩ := hd.toD
      have rd := r1.st.sub.rd hr
      refine ⟨a, kvs, rfl, rd, fun p hp => ?_⟩
      have hv : kvs.map (·.2) = List.map V.int (n :: ns) := by
        have hl2 : DenL B.c I1 (kvs.map (·.2)) (kds.map (·.2)) := denP_vals hl
        exact ints_ok hl2 q2
      have ne : a ≠ p := fun z => by subst z; obtain ⟨o, y⟩ := Rd.some rd; rw [hp] at y; cases y
      have rd2 : Rd (upd H1 p (vwO "dict_values" p a)) a (.dK kvs) := by
        rcases rd with z | ⟨o, z⟩
        · exact .inl (by rw [upd_ne ne]; exact z)
        · exact .inr ⟨o, by rw [upd_ne ne]; exact z⟩
      refine ⟨p, a, kvs, n :: ns, rfl, upd_same, rd2, hv, by simp, fun m h1 h2 => ?_⟩
      obtain ⟨g1, g2⟩ := maxZ_ge ns n
      have : m = maxZ n ns := Int.le_antisymm (g2 m h1) (h2 _ g1)
      subst this
      exact k _ I1 _ (r1.alloc hp) l1 (.int _)
    · cases e
  · cases e
/-! ### xs[i] = v of a list of one's own -/
def lputS (i : Nat) (fk fv : FE) : FS := fun E S => match fv E S with
  | some (v, S1) => match fk E S1 with
    | some (.int k, S2) => match E[i]? with
      | some (.o (.lst ds)) => if 0 ≤ k ∧ k.toNat < ds.length then some (.nx, E.set i (.o (.lst (ds.set k.toNat v))), S2) else none
      | _ => none
    | _ => none
  | none => none
theorem denL_set {c : Option Addr} {I : Hp} {v : V} {d : D} (hv : Den c I v d) {vs : List V} {ds : List D} (h : DenL c I vs ds) : ∀ n : Nat, DenL c I (vs.set n v) (ds.set n d) := by
  induction h with
  | nil => intro n; exact .nil
  | cons r t ih =>
    intro n
    cases n with
    | zero => exact .cons hv t
    | succ n => exact .cons r (ih n)
theorem ixN_at {n : Nat} {k : Int} (h0 : 0 ≤ k) (h : k.toNat < n) : ixN n k = some k.toNat := by
  have h2 : k < (n : Int) := by omega
  unfold ixN
  simp [h0, h2]
  try omega
theorem rs_lput {i : Nat} {tk tv : TE} {fk fv : FE} (hk : RE tk fk) (hv : RE tv fv) : RS (tAsg tv (gSub (tVar i) tk rSetL)) (lputS i fk fv) := fun {B E S σ I H} r {o E' S'} e {Dn} kk => by
  unfold lputS at e
  split at e
  · rename_i v S1 q1
    split at e
    · rename_i k S2 q2
      split at e
      · rename_i ds q3
        split at e <;> cases e
        rename_i hc
        refine hv r q1 fun x I1 H1 r1 l1 h1 => ?_
        obtain ⟨p, vs, g1, g2, g3⟩ := own_lst r1 q3
        refine ⟨.ref p, g1, hk r1 q2 fun y I2 H2 r2 l2 h2 => ?_⟩
        cases den_int h2
        obtain ⟨p', vs', g4, g5, g6⟩ := own_lst r2 q3
        rw [g1] at g4
        cases g4
        have hlen := Paired.length g6
        refine ⟨p, vs', k, k.toNat, rfl, rfl, g5, ixN_at hc.1 (by omega), ?_⟩
        exact kk σ I2 _ (r2.mut q3 g1 (.lst (denL_set (h1.mono l2) g6 k.toNat)) (fun _ => nofun)) (l1.trans l2)
      · cases e
    · cases e
  · cases e
/-! ### an own thing looked at for a while -/
def oneOwn (E : Ev) (i : Nat) : Bool := (List.range E.length).all fun j => decide (j = i) || (match E[j]? with
  | some (.o _) => false
  | _ => true)
theorem oneOwn_ok {E : Ev} {i : Nat} (h : oneOwn E i = true) {j : Nat} {d : D} (e : E[j]? = some (.o d)) : j = i := by
  unfold oneOwn at h
  rw [List.all_eq_true] at h
  have hlt : j < E.length := (List.getElem?_eq_some_iff.mp e).1
  have := h j (List.mem_range.mpr hlt)
  rw [e] at this
  simpa using this
theorem R.lend {B : Bs} {E : Ev} {S : Sm} {σ : L2.St} {I H : Hp} (r : R B E S σ I H) {i : Nat} {d : D} (h : E[i]? = some (.o d)) (one : oneOwn E i = true) : ∃ p u, σ[i]? = some (some (.ref p)) ∧ R B (E.set i (.v d)) S σ (upd I p u) H ∧ Le I (upd I p u) ∧
    ∀ {S2 : Sm} {I2 H2 : Hp}, R B (E.set i (.v d)) S2 σ I2 H2 → Le (upd I p u) I2 → R B E S2 σ (delI I2 p) H2 ∧ Le I (delI I2 p) ∧ I2 p = some u := by
  obtain ⟨p, u, g1, g2, g3, g4, g5⟩ := r.o i d h
  have l0 : Le I (upd I p u) := Le.new g2
  have hlt : i < E.length := (List.getElem?_eq_some_iff.mp h).1
  have st1 := r.st.freeze g2 g3.1 g3.2.1 g4 (r.st.off g3.1) g5.plain
  have bI : B.I p = none := Le.none r.st.le g2
  refine ⟨p, u, g1, ⟨st1, by rw [List.length_set]; exact r.len, fun j x hj => ?_, fun j x hj => ?_, fun j k x y q hjk hj hk => ?_⟩, l0, fun {S2 I2 H2} r2 l2 => ?_⟩
  · by_cases z : j = i
    · subst z
      rw [List.getElem?_set_self hlt] at hj
      cases hj
      exact ⟨_, g1, (g5.mono l0).den upd_same⟩
    · rw [List.getElem?_set_ne (Ne.symm z)] at hj
      obtain ⟨y, h1, h2⟩ := r.v j x hj
      exact ⟨y, h1, h2.mono l0⟩
  · by_cases z : j = i
    · subst z
      rw [List.getElem?_set_self hlt] at hj
      cases hj
    · rw [List.getElem?_set_ne (Ne.symm z)] at hj
      exact absurd (oneOwn_ok one hj) z
  · by_cases z : j = i
    · subst z
      rw [List.getElem?_set_self hlt] at hj
      cases hj
    · rw [List.getElem?_set_ne (Ne.symm z)] at hj
      exact absurd (oneOwn_ok one hj) z
  · have hp : I2 p = some u := l2.ex _ _ upd_same
    have lI : Le I (delI I2 p) := le_del g2 (l0.trans l2)
    refine ⟨⟨r2.st.thaw bI, r.len, fun j x hj => ?_, fun j x hj => ?_, r.ne⟩, lI, hp⟩
    · obtain ⟨y, h1, h2⟩ := r.v j x hj
      exact ⟨y, h1, h2.mono lI⟩
    · have z := oneOwn_ok one hj
      subst z
      rw [h] at hj
      cases hj
      exact ⟨p, u, g1, delI_same, g3, r2.st.sub _ _ hp, g5.mono lI⟩
def borE (i : Nat) (f : FE) : FE := fun E S => match E[i]? with
  | some (.o d) => if oneOwn E i = true then match f (E.set i (.v d)) S with
      | some (x, S1) => if flatD x = true then some (x, S1) else none
      | none => none
    else none
  | _ => f E S
theorem re_bor {i : Nat} {t : TE} {f : FE} (h : RE t f) : RE t (borE i f) := fun {B E S σ I H} r {x S'} e {Q} k => by
  unfold borE at e
  split at e
  · rename_i d q
    split at e
    · rename_i one
      split at e
      · rename_i x' S1 q2
        split at e <;> cases e
        rename_i hf
        obtain ⟨p, u, _, r1, l1, back⟩ := r.lend q one
        refine h r1 q2 fun v I2 H2 r2 l2 hd => ?_
        obtain ⟨r3, l3, _⟩ := back r2 l2
        exact k v _ H2 r3 l3 (flat_den hd hf)
      · cases e
    · cases e
  · exact h r e k
def borT (i : Nat) (f : FT) : FT := fun E S => match E[i]? with
  | some (.o d) => if oneOwn E i = true then f (E.set i (.v d)) S else none
  | _ => f E S
theorem rt_bor {i : Nat} {t : TT} {f : FT} (h : RT t f) : RT t (borT i f) := fun {B E S σ I H} r {b S'} e {Q} k => by
  unfold borT at e
  split at e
  · rename_i d q
    split at e
    · rename_i one
      obtain ⟨p, u, _, r1, l1, back⟩ := r.lend q one
      refine h r1 e fun I2 H2 r2 l2 => ?_
      obtain ⟨r3, l3, _⟩ := back r2 l2
      exact k _ H2 r3 l3
    · cases e
  · exact h r e k
/-- new, of flat things -/
def rigidD : D → Bool
  | .lst xs => xs.all flatD
  | .dic kds => kds.all fun p => flatD p.2
  | _ => false
theorem flats_den {c : Option Addr} {I J : Hp} {vs : List V} {ds : List D} (h : DenL c I vs ds) (f : ds.all flatD = true) : DenL c J vs ds := by
  induction h with
  | nil => exact .nil
  | cons r t ih =>
    rw [List.all_cons, Bool.and_eq_true] at f
    exact .cons (flat_den r f.1) (ih f.2)
theorem flatsP_den {κ : Type} {c : Option Addr} {I J : Hp} : ∀ {kvs : List (κ × V)} {kds : List (κ × D)}, DenP c I kvs kds → (kds.all fun p => flatD p.2) = true → DenP c J kvs kds
  | _, _, .nil, _ => .nil
  | _, _, .cons r t, f => by
    rw [List.all_cons, Bool.and_eq_true] at f
    exact .cons ⟨r.1, flat_den r.2 f.1⟩ (flatsP_den t f.2)
theorem rigid_obj {c : Option Addr} {I J : Hp} {u : HO} {d : D} (h : ObjD c I u d) (f : rigidD d = true) : ObjD c J u d := by
  cases h with
  | lst h => exact .lst (flats_den h f)
  | tup h => cases f
  | dT h => cases f
  | dK h => exact .dK (flatsP_den h f)
def borF (i : Nat) (f : FE) : FE := fun E S => match E[i]? with
  | some (.o d) => if oneOwn E i = true then match f (E.set i (.v d)) S with
      | some (x, S1) => if rigidD x = true then some (x, S1) else none
      | none => none
    else none
  | _ => f E S
theorem rf_bor {i : Nat} {t : TE} {f : FE} (h : RF t f) : RF t (borF i f) := fun {B E S σ I H} r {x S'} e {Q} k => by
  unfold borF at e
  split at e
  · rename_i d q
    split at e
    · rename_i one
      split at e
      · rename_i x' S1 q2
        split at e <;> cases e
        rename_i hf
        obtain ⟨p, u, g1, r1, l1, back⟩ := r.lend q one
        refine h r1 q2 fun v I2 H2 r2 l2 fr => ?_
        obtain ⟨r3, l3, hp⟩ := back r2 l2
        refine k v _ H2 r3 l3 ?_
        obtain ⟨p', u', rfl, f1, f2, f3, f4, f5⟩ := fr
        have ne : p' ≠ p := fun z => by rw [z, hp] at f1; cases f1
        refine ⟨p', u', rfl, by rw [delI_ne ne]; exact f1, f2, f3, rigid_obj f4 hf, fun j y hj z => ?_⟩
        have zi := oneOwn_ok one hj
        rw [zi] at z hj
        rw [z] at g1
        cases g1
        exact ne rfl
      · cases e
    · cases e
  · exact h r e k
end M

set_option Elab.async false
set_option linter.all false
set_option maxRecDepth 100000
set_option maxHeartbeats 4000000
namespace M
open PySem L2 PySem.Spec PyProof.Rows

/-! ### [*a, *b] -/
def starA (f : FE) (g : FA) : FA := fun E S => match f E S with
  | some (d, S1) => match seqD d with
    | some xs => match g E S1 with
      | some (ys, S2) => some (xs ++ ys, S2)
      | none => none
    | none => none
  | none => none
theorem ra_star {K : PySem.W.Frag} {te : TE} {f : FE} {ta : TA} {g : FA} (h1 : RE te f) (h2 : RA ta g) : RA (StX.tStar K te ta) (starA f g) := fun {B E S σ I H} r {ds S'} e {Q} k => by
  unfold starA at e
  split at e
  · rename_i d S1 q1
    split at e
    · rename_i xs q2
      split at e
      · rename_i ys S2 q3
        cases e
        refine h1 r q1 fun v I1 H1 r1 l1 hd => ?_
        have go : ∀ {a : Addr} {ws : List V}, v = .ref a → (SqT K H1 a ws ∨ SqL K H1 a ws) → DenL B.c I1 ws xs → ∃ p zs, v = V.ref p ∧ (SqT K H1 p zs ∨ SqL K H1 p zs) ∧ ta σ H1 fun us H2 => Q (zs ++ us) H2 := fun {a ws} ev sq hl =>
          ⟨a, ws, ev, sq, h2 r1 q3 fun us I2 H2 r2 l2 hu => k _ I2 H2 r2 (l1.trans l2) (denL_app (DenL.mono l2 hl) hu)⟩
        unfold seqD at q2
        split at q2 <;> cases q2
        · obtain ⟨a, ws, rfl, hr, hl⟩ := hd.toL
          exact go rfl (.inr (exL r1 hr)) hl
        · obtain ⟨a, ws, rfl, hr, hl⟩ := hd.toT
          exact go rfl (.inl (exT r1 hr)) hl
      · cases e
    · cases e
  · cases e
/-! ### new, or None -/
def FrN (B : Bs) (E : Ev) (σ : L2.St) (I H : Hp) (v : V) (d : D) : Prop := (d = .non ∧ v = .non) ∨ Fresh B E σ I H v d
def RFN (t : TE) (f : FE) : Prop := ∀ {B : Bs} {E : Ev} {S : Sm} {σ : L2.St} {I H : Hp}, R B E S σ I H → ∀ {d : D} {S' : Sm}, f E S = some (d, S') → ∀ {Q : VK}, (∀ v I' H', R B E S' σ I' H' → Le I I' → FrN B E σ I' H' v d → Q v H') → t σ H Q
theorem RF.n {t : TE} {f : FE} (h : RF t f) : RFN t f := fun {B E S σ I H} r {d S'} e {Q} k => h r e fun v I' H' r' l fr => k v I' H' r' l (.inr fr)
theorem RFN.e {t : TE} {f : FE} (h : RFN t f) : RE t f := fun {B E S σ I H} r {d S'} e {Q} k => h r e fun v I' H' r' l fr => by
  rcases fr with ⟨rfl, rfl⟩ | fr
  · exact k _ I' H' r' l .non
  · obtain ⟨I2, r2, l2, hd⟩ := r'.freeze fr
    exact k v I2 H' r2 (l.trans l2) hd
def WN : WR := fun B I H v d => (d = .non ∧ v = .non) ∨ WF B I H v d
theorem wn_non (B : Bs) (I H : Hp) : WN B I H .non .non := .inl ⟨rfl, rfl⟩
theorem rfn_fn {m : FM} {n : Nat} {ta : TA} {f : FA} {X : XK} (ha : RA ta f) : RFN (tCall (spW WN m n) [] X ta) (mE m n f) := fun {B E S σ I H} rr {d S'} e {Q} k => by
  unfold mE at e
  split at e
  · rename_i ds S1 q
    split at e
    · rename_i hn
      refine ha rr q fun vs I1 H1 r1 l1 hd => ?_
      rw [List.append_nil]
      refine spW_use r1 hd hn e fun v I2 H2 r2 l2 hw => k v I2 H2 r2 (l1.trans l2) ?_
      rcases hw with hw | ⟨p, u, rfl, g1, g2, g3, g4⟩
      · exact .inl hw
      · have g2 : H1 p = none := g2
        refine .inr ⟨p, u, rfl, g1, ⟨r1.st.fresh g2, r1.st.noFr g2⟩, g3, g4, fun i x hi hz => ?_⟩
        obtain ⟨p', u', y1, y2, y3, y4, y5⟩ := r1.o i x hi
        rw [hz] at y1
        cases y1
        rw [g2] at y4
        cases y4
    · cases e
  · cases e
theorem wn_d {m : FM} {n : Nat} {vs : List V} {H : Hp} {Q : VK} {X : XK} (h : spD m n vs H Q X) : spW WN m n vs H Q X := by
  obtain ⟨B, ds, S, d, S', h1, h2, h3, h4, h5, k⟩ := h
  refine ⟨B, ds, S, d, S', h1, h2, h3, h4, h5, fun v I' H' s w => ?_⟩
  rcases w with ⟨rfl, rfl⟩ | ⟨p, u, rfl, g1, g2, g3, g4⟩
  · exact k _ I' H' s .non
  · have hf : B.fr p = none := by
      cases q : B.fr p with
      | none => rfl
      | some o =>
        have z := h2.fr p o q
        rw [← h1, z.2.2.1] at z
        cases z.1
    exact k _ _ _ (s.freeze g1 g2 hf g3 (s.off g2) g4.plain) (ObjD.den (ObjD.mono (Le.new g1) g4) upd_same)
def ownNS (i : Nat) (f : FE) : FS := fun E S => match f E S with
  | some (d, S1) => if isNonD d = true then (if i < E.length then some (.nx, E.set i (.v .non), S1) else none)
    else (if i < E.length ∧ notTup d = true then some (.nx, E.set i (.o d), S1) else none)
  | none => none
theorem rs_ownN {i : Nat} {te : TE} {f : FE} (h : RFN te f) : RS (tAsg te (gName i)) (ownNS i f) := fun {B E S σ I H} r {o E' S'} e {Dn} k => by
  unfold ownNS at e
  split at e
  · rename_i d S1 q
    split at e
    · rename_i hn
      split at e <;> cases e
      rename_i hi
      have hn : d = .non := by cases d <;> first | rfl | cases hn
      subst hn
      refine h r q fun v I1 H1 r1 l1 fr => ?_
      rcases fr with ⟨_, rfl⟩ | ⟨p, u, rfl, g1, g2, g3, g4, g5⟩
      · exact k _ I1 H1 (r1.setV hi .non) l1
      · cases g4
    · rename_i hn
      split at e <;> cases e
      rename_i hi
      refine h r q fun v I1 H1 r1 l1 fr => ?_
      rcases fr with ⟨z, _⟩ | fr
      · subst z
        exact absurd rfl hn
      · exact k _ I1 H1 (r1.setO hi.1 (notTup_ok hi.2) fr) l1
  · cases e
/-! ### returns that are told to be new -/
def retO (i : Nat) : FS := fun E S => match E[i]? with
  | some (.o d) => some (.rt d, E, S)
  | _ => none
theorem rsw_retO {i : Nat} : RSW WN (tRet (tVar i)) (retO i) := fun {B E S σ I H} r {o E' S'} e {Dn} k => by
  unfold retO at e
  split at e
  · rename_i d q
    cases e
    obtain ⟨p, u, g1, g2, g3, g4, g5⟩ := r.o i d q
    exact ⟨.ref p, g1, k _ I H r.st le_rfl (.inr ⟨p, u, rfl, g2, g3.1, g4, g5⟩)⟩
  · cases e
theorem rsw_retF {te : TE} {f : FE} (h : RF te f) : RSW WN (tRet te) (retS f) := fun {B E S σ I H} r {o E' S'} e {Dn} k => by
  unfold retS at e
  cases q : f E S with
  | none => rw [q] at e; cases e
  | some w =>
    rw [q] at e
    cases e
    refine h r q fun v I' H' r' l fr => ?_
    obtain ⟨p, u, rfl, g1, g2, g3, g4, _⟩ := fr
    exact k _ I' H' r'.st l (.inr ⟨p, u, rfl, g1, g2.1, g3, g4⟩)
theorem rsw_retNon : RSW WN (tRet (tC .non)) (retS (cE .non)) := fun {B E S σ I H} r {o E' S'} e {Dn} k => by
  cases e
  exact k .non I H r.st le_rfl (.inl ⟨rfl, rfl⟩)
class NoRet (g : FS) : Prop where
  h : ∀ E S d E' S', g E S ≠ some (.rt d, E', S')
theorem rsw_lift {W : WR} {t : TS} {g : FS} (h : RS t g) [n : NoRet g] : RSW W t g := fun {B E S σ I H} r {o E' S'} e {Dn} k => by
  cases o with
  | rt d => exact absurd e (n.h _ _ _ _ _)
  | nx => exact h r e k
  | bk => exact h r e k
  | ct => exact h r e k
theorem rsw_giveQ {W : WR} {i : Nat} {t : TS} {g : FS} (h : RSW W t g) : RSW W t (giveQ i g) := fun {B E S σ I H} r {o E' S'} e {Dn} k => by
  unfold giveQ at e
  split at e
  · rename_i d q
    obtain ⟨I', r', l⟩ := r.give q
    exact h r' e (PostW.le l k)
  · exact h r e k
section
variable {g g1 g2 : FS} {i j : Nat} {f f2 : FE} {c : FT}
instance : NoRet nextS := ⟨fun _ _ _ _ _ => nofun⟩
instance : NoRet neverS := ⟨fun _ _ _ _ _ => nofun⟩
instance : NoRet brkS := ⟨fun _ _ _ _ _ => nofun⟩
instance : NoRet conS := ⟨fun _ _ _ _ _ => nofun⟩
instance : NoRet (setS i f) := ⟨fun E S d E' S' z => by
  unfold setS at z
  split at z
  · split at z <;> cases z
  · cases z⟩
instance : NoRet (ownS i f) := ⟨fun E S d E' S' z => by
  unfold ownS at z
  split at z
  · split at z <;> cases z
  · cases z⟩
instance : NoRet (ownNS i f) := ⟨fun E S d E' S' z => by
  unfold ownNS at z
  split at z
  · split at z
    · split at z <;> cases z
    · split at z <;> cases z
  · cases z⟩
instance : NoRet (dropS f) := ⟨fun E S d E' S' z => by
  unfold dropS at z
  split at z <;> cases z⟩
instance : NoRet (appS i f) := ⟨fun E S d E' S' z => by
  unfold appS at z
  split at z
  · split at z
    · split at z <;> cases z
    · cases z
  · cases z⟩
instance : NoRet (lputS i f f2) := ⟨fun E S d E' S' z => by
  unfold lputS at z
  split at z
  · split at z
    · split at z
      · split at z <;> cases z
      · cases z
    · cases z
  · cases z⟩
instance : NoRet (dputS i f f2) := ⟨fun E S d E' S' z => by
  unfold dputS at z
  split at z
  · split at z
    · split at z
      · split at z <;> cases z
      · cases z
    · cases z
  · cases z⟩
instance {tg : TgD} : NoRet (asgS f tg) := ⟨fun E S d E' S' z => by
  unfold asgS at z
  split at z
  · split at z <;> cases z
  · cases z⟩
instance [h1 : NoRet g1] [h2 : NoRet g2] : NoRet (seqS g1 g2) := ⟨fun E S d E' S' z => by
  unfold seqS at z
  split at z
  · exact h2.h _ _ _ _ _ z
  · rename_i q
    exact h1.h _ _ _ _ _ z⟩
instance [h1 : NoRet g1] [h2 : NoRet g2] : NoRet (ifS c g1 g2) := ⟨fun E S d E' S' z => by
  unfold ifS at z
  split at z
  · split at z
    · exact h1.h _ _ _ _ _ z
    · exact h2.h _ _ _ _ _ z
  · cases z⟩
instance [h1 : NoRet g1] : NoRet (giveQ i g1) := ⟨fun E S d E' S' z => by
  unfold giveQ at z
  split at z
  · exact h1.h _ _ _ _ _ z
  · exact h1.h _ _ _ _ _ z⟩
theorem forL_nr {tg : TgD} [h1 : NoRet g1] : ∀ (items : List D) E S d E' S', forL tg g1 items E S ≠ some (.rt d, E', S')
  | [], _, _, _, _, _ => nofun
  | x :: r, E, S, d, E', S' => fun z => by
    unfold forL at z
    split at z
    · cases z
    · split at z
      · exact forL_nr r _ _ _ _ _ z
      · exact forL_nr r _ _ _ _ _ z
      · cases z
      · rename_i q
        exact h1.h _ _ _ _ _ q
      · cases z
instance {fi : FI} {tg : TgD} [h1 : NoRet g1] : NoRet (forS fi tg g1) := ⟨fun E S d E' S' z => by
  unfold forS at z
  split at z
  · exact forL_nr _ _ _ _ _ _ z
  · cases z⟩
end
end M

set_option Elab.async false
set_option linter.all false
set_option maxRecDepth 100000
set_option maxHeartbeats 4000000
namespace M
open PySem L2 PySem.Spec PyProof.Rows

/-! ### == and != of lists and tuples -/
def okQ (a b : D) : Prop := okP a = true ∧ okP b = true ∧ (toP a).plain = true ∧ (toP b).plain = true ∧ (toP b).depth ≤ 40
instance (a b : D) : Decidable (okQ a b) := by unfold okQ; infer_instance
def eqP : Op2 := fun a b => if okQ a b then some (.bl (PyData.eqv (toP a) (toP b))) else none
def rQ (f : Bool → Bool) : R2 := fun x y H Q => ∃ (B : Bs) (I : Hp) (S : Sm) (a b : D), Stt B I H S ∧ Den B.c I x a ∧ Den B.c I y b ∧ okQ a b ∧ Q (.bl (f (PyData.eqv (toP a) (toP b)))) H
theorem op_eqP {X : Cx} (hu : X.A.units + 64 < cLine) : OpR X (compareOp .Eq) (rQ id) := by
  intro pins s σ H x y v u Q I rx ry h
  obtain ⟨B, I0, S, a, b, st, da, db, ⟨h1, h2, h3, h4, h5⟩, q⟩ := h
  obtain ⟨as, r1⟩ := reads_of I.hok st a h1 da rx
  obtain ⟨bs, r2⟩ := reads_of I.hok st b h2 db ry
  exact PySem.SeqAt.eq_plain r1 r2 h3 h4 (by omega) ⟨.bl _, H, I, rfl, q⟩
theorem op_neP {X : Cx} (hu : X.A.units + 64 < cLine) : OpR X (compareOp .NotEq) (rQ not) := by
  intro pins s σ H x y v u Q I rx ry h
  obtain ⟨B, I0, S, a, b, st, da, db, ⟨h1, h2, h3, h4, h5⟩, q⟩ := h
  obtain ⟨as, r1⟩ := reads_of I.hok st a h1 da rx
  obtain ⟨bs, r2⟩ := reads_of I.hok st b h2 db ry
  exact PySem.SeqAt.ne_plain r1 r2 h3 h4 (by omega) ⟨.bl _, H, I, rfl, q⟩
theorem rb_eqP : RB (rQ id) eqP := fun {B E S σ I H} r {x y a b c} hx hy e {Q} k => by
  unfold eqP at e
  split at e <;> cases e
  rename_i h
  exact ⟨B, I, S, a, b, r.st, hx, hy, h, k _ I H r le_rfl (.bl _)⟩
theorem rb_neP : RB (rQ not) (notO eqP) := fun {B E S σ I H} r {x y a b c} hx hy e {Q} k => by
  unfold notO eqP at e
  split at e
  · rename_i q
    cases e
    split at q <;> cases q
    rename_i h
    exact ⟨B, I, S, a, b, r.st, hx, hy, h, k _ I H r le_rfl (.bl _)⟩
  · cases e
end M

set_option Elab.async false
set_option linter.all false
set_option maxRecDepth 100000
set_option maxHeartbeats 4000000
namespace M
open PySem L2

/-! ### for .. in d.items(), d.values() -/
theorem it_items {c : Option Addr} {I0 : Hp} {d : Addr} {o : Obj} {kvs : List (Key × V)} {kds : List (Key × D)} (hd : I0 d = some (.frz o (.dK kvs))) (hp : DenP c I0 kvs kds) : ItD c (Iti d o kvs) I0 (kds.map fun p => .tup [kD p.1, p.2]) := fun B E S σ I H hc r l i => by
  have h1 : I d = some (.frz o (.dK kvs)) := lock_stays r.st (l _ _ (.inl hd))
  have h2 := r.st.sub _ _ h1
  have hn : kvs.length = kds.length := Paired.length hp
  refine ⟨fun hi => ⟨h2, by rw [hn]; simpa using hi⟩, fun hi => ⟨h2, by rw [hn]; simpa using hi⟩, fun x H' dd hdd y => ?_⟩
  obtain ⟨T, k, v, hkv, rfl, hT, rfl⟩ := y
  cases q : kds[i]? with
  | none => simp [q] at hdd
  | some p =>
    simp only [List.getElem?_map, q, Option.map_some] at hdd
    cases hdd
    obtain ⟨h3, h4⟩ := paired_at hp i _ _ hkv q
    have h3 : k = p.1 := h3
    subst h3
    subst hc
    exact newT r hT (.cons (den_key _) (.cons (h4.mono l) .nil))
theorem it_vals {c : Option Addr} {I0 : Hp} {d : Addr} {o : Obj} {kvs : List (Key × V)} {kds : List (Key × D)} (hd : I0 d = some (.frz o (.dK kvs))) (hp : DenP c I0 kvs kds) : ItD c (Itd d o kvs) I0 (kds.map (·.2)) := fun B E S σ I H hc r l i => by
  have h1 : I d = some (.frz o (.dK kvs)) := lock_stays r.st (l _ _ (.inl hd))
  have h2 := r.st.sub _ _ h1
  have hn : kvs.length = kds.length := Paired.length hp
  refine ⟨fun hi => ⟨h2, by rw [hn]; simpa using hi⟩, fun hi => ⟨h2, by rw [hn]; simpa using hi⟩, fun x H' dd hdd y => ?_⟩
  obtain ⟨rfl, k, hkv⟩ := y
  cases q : kds[i]? with
  | none => simp [q] at hdd
  | some p =>
    simp only [List.getElem?_map, q, Option.map_some] at hdd
    cases hdd
    obtain ⟨h3, h4⟩ := paired_at hp i _ _ hkv q
    exact ⟨I, r, le_rfl, h4.mono l⟩
def itemsF (fd : FE) : FI := fun E S => match fd E S with
  | some (.dic kds, S1) => some (kds.map fun p => .tup [kD p.1, p.2], S1)
  | _ => none
def valsF (fd : FE) : FI := fun E S => match fd E S with
  | some (.dic kds, S1) => some (kds.map (·.2), S1)
  | _ => none
/-- a walk over a locked dict -/
def WD (iX : TE → TI) (fX : FE → FI) : Prop := (∀ {fd : FE} {E : Ev} {S S' : Sm} {items : List D}, fX fd E S = some (items, S') → ∃ ks, keysF fd E S = some (ks, S')) ∧
  ∀ {td : TE} {fd : FE} {B : Bs} {E : Ev} {S : Sm} {σ : St} {I H : Hp}, R B E S σ I H → Lkd td fd B E S σ I → ∀ {items : List D} {S' : Sm}, fX fd E S = some (items, S') → ∀ {Rq : It → Hp → Prop}, (∀ J I' H', R B E S' σ I' H' → Le I I' → ItD B.c J I' items → Rq J H') → iX td σ H Rq
theorem wd_items : WD iItems itemsF := by
  refine ⟨fun {fd E S S' items} e => ?_, fun {td fd B E S σ I H} r lk {items S'} e {Rq} k => ?_⟩
  · unfold itemsF at e
    split at e
    · rename_i kds S1 q
      cases e
      exact ⟨_, by unfold keysF; rw [q]⟩
    · cases e
  · unfold itemsF at e
    split at e
    · rename_i kds S1 q
      cases e
      obtain ⟨rfl, d, o, u, hd, hden, hu, run⟩ := lk _ _ q
      obtain ⟨a, kvs, ea, hr, hl⟩ := hden.toD
      cases ea
      have : u = .dK kvs := by
        rcases hr with h | ⟨o', h⟩ <;> rw [hd] at h <;> cases h
        rfl
      subst this
      exact run r.st ⟨d, o, kvs, rfl, r.st.sub _ _ hd, k _ I H r le_rfl (it_items hd hl)⟩
    · cases e
theorem wd_vals : WD iVals valsF := by
  refine ⟨fun {fd E S S' items} e => ?_, fun {td fd B E S σ I H} r lk {items S'} e {Rq} k => ?_⟩
  · unfold valsF at e
    split at e
    · rename_i kds S1 q
      cases e
      exact ⟨_, by unfold keysF; rw [q]⟩
    · cases e
  · unfold valsF at e
    split at e
    · rename_i kds S1 q
      cases e
      obtain ⟨rfl, d, o, u, hd, hden, hu, run⟩ := lk _ _ q
      obtain ⟨a, kvs, ea, hr, hl⟩ := hden.toD
      cases ea
      have : u = .dK kvs := by
        rcases hr with h | ⟨o', h⟩ <;> rw [hd] at h <;> cases h
        rfl
      subst this
      exact run r.st ⟨d, o, kvs, rfl, r.st.sub _ _ hd, k _ I H r le_rfl (it_vals hd hl)⟩
    · cases e
theorem rf_lcW {iX : TE → TI} {fX : FE → FI} (W : WD iX fX) {td : TE} {fd : FE} {g : TG} {tg : TgD} {own : List Nat} {tt : TT} {c : FT} {te : TE} {fe : FE} (hd : RP td fd) (hg : RG g tg own) (ht : RT tt c) (he : RE te fe) :
    RF (fun σ H Q => tLockE (tLc (iX td) g tt te own) σ H Q ∨ tLc (iX td) g tt te own σ H Q) (lcE (fX fd) tg c fe own) := fun {B E S σ I H} r {dd Sf} e {Q} k => by
  obtain ⟨items, S1, hf⟩ := lcE_fi e
  obtain ⟨ks, hk⟩ := W.1 hf
  rcases lock_or hd r hk with lk | ⟨d, u, hI, hu, lk⟩
  · exact .inr (lc_at hg ht he r (W.2 r lk) e k)
  · refine .inl ⟨d, u, r.st.sub _ _ hI, mut_dict hu, fun od => ?_⟩
    obtain ⟨r1, l1⟩ := r.lock hI hu od
    refine lc_at hg ht he r1 (W.2 r1 (lk od)) e fun v I' H' r' l' fr => ?_
    have hd' : I' d = some (.frz od u) := lock_stays r'.st (l' _ _ (.inl upd_same))
    have r2 := r'.unlock hd' hu (r.st.free hI hu)
    refine ⟨r'.st.sub _ _ hd', k v _ _ r2 (unlock_le hI l') ?_⟩
    obtain ⟨p, w, rfl, h1, h2, h3, h4, h5⟩ := fr
    have : p ≠ d := fun e => by rw [e, hd'] at h1; cases h1
    exact ⟨p, w, rfl, by rw [upd_ne this]; exact h1, h2, by rw [upd_ne this]; exact h3, h4.monoW (unlock_lw hd'), h5⟩
theorem rs_forW {iX : TE → TI} {fX : FE → FI} (W : WD iX fX) {td : TE} {fd : FE} {g : TG} {tg : TgD} {own : List Nat} {tb : TS} {body : FS} (hd : RP td fd) (hg : RG g tg own) (hb : RS tb body) :
    RS (fun Dn σ H => tLock (tFor (iX td) g tb) Dn σ H ∨ tFor (iX td) g tb Dn σ H) (forS (fX fd) tg body) := fun {B E S σ I H} r {o Ef Sf} e {Dn} k => by
  obtain ⟨items, S1, hf⟩ := forS_fi e
  obtain ⟨ks, hk⟩ := W.1 hf
  rcases lock_or hd r hk with lk | ⟨d, u, hI, hu, lk⟩
  · exact .inr (for_at hg hb r (W.2 r lk) e k)
  · refine .inl ⟨d, u, r.st.sub _ _ hI, mut_dict hu, fun od => ?_⟩
    obtain ⟨r1, l1⟩ := r.lock hI hu od
    refine for_at hg hb r1 (W.2 r1 (lk od)) e ?_
    have un : ∀ {σ' I' H'}, R (B.lockd d od u) Ef Sf σ' I' H' → Le (upd I d (.frz od u)) I' → H' d = some (.frz od u) ∧ R B Ef Sf σ' (upd I' d u) (upd H' d u) ∧ Le I (upd I' d u) := fun {σ' I' H'} r' l' => by
      have hd' : I' d = some (.frz od u) := lock_stays r'.st (l' _ _ (.inl upd_same))
      exact ⟨r'.st.sub _ _ hd', r'.unlock hd' hu (r.st.free hI hu), unlock_le hI l'⟩
    cases o with
    | nx => exact fun σ' I' H' r' l' => ⟨(un r' l').1, k σ' _ _ (un r' l').2.1 (un r' l').2.2⟩
    | bk => exact fun σ' I' H' r' l' => ⟨(un r' l').1, k σ' _ _ (un r' l').2.1 (un r' l').2.2⟩
    | ct => exact fun σ' I' H' r' l' => ⟨(un r' l').1, k σ' _ _ (un r' l').2.1 (un r' l').2.2⟩
    | rt dd =>
      refine fun v I' H' s' l' hden => ?_
      have hd' : I' d = some (.frz od u) := lock_stays s' (l' _ _ (.inl upd_same))
      exact ⟨s'.sub _ _ hd', k v _ _ (s'.unlock hd' hu (r.st.free hI hu)) (unlock_le hI l') (hden.monoW (unlock_lw hd'))⟩
end M

set_option Elab.async false
set_option linter.all false
set_option maxRecDepth 100000
set_option maxHeartbeats 4000000
namespace M
open PySem PySem.Spec PyProof.Rows L2 LiI

/-! ### list(d.items()) -/
/-- the heap grows -/
theorem R.grow {B : Bs} {E : Ev} {S : Sm} {σ : L2.St} {I H H' : Hp} (r : R B E S σ I H) (h : ∀ b o, H b = some o → H' b = some o) : R B E S σ I H' where
  st := ⟨fun a o e => h _ _ (r.st.sub a o e), r.st.le, fun a o e h1 h2 => h _ _ (r.st.keep a o e h1 h2), r.st.new, ⟨fun q hc => by
    obtain ⟨h0, h1, h2, h3, h4⟩ := r.st.st.at_ q hc
    exact ⟨h0, h1, h2, h _ _ h3, h _ _ h4⟩⟩, r.st.nofr, r.st.stH, fun a o e => by
    obtain ⟨g1, g2, g3, g4⟩ := r.st.fr a o e
    exact ⟨h _ _ g1, g2, g3, g4⟩⟩
  len := r.len
  v := r.v
  o := fun i d hi => by
    obtain ⟨q, w, h1, h2, h3, h4, h5⟩ := r.o i d hi
    exact ⟨q, w, h1, h2, h3, h _ _ h4, h5⟩
  ne := r.ne
/-- what list(d.items()) asks of d, be it locked or not -/
def rItemsA : V → Hp → VK → Prop := fun x H Q => ∃ (d : Addr) (kvs : List (Key × V)), x = .ref d ∧ (H d = some (.dK kvs) ∨ ∃ o, H d = some (.frz o (.dK kvs))) ∧
  ∀ (H' : Hp) (p : Addr) (ts : List Addr), (∀ b o, H b = some o → H' b = some o) → H p = none → (∀ t ∈ ts, H t = none) → p ∉ ts → H' p = some (.lst (ts.map V.ref)) → Paired (fun (t : Addr) (q : Key × V) => H' t = some (.tup [kV q.1, q.2])) ts kvs → Q (.ref p) H'
def tListItemsA (te : TE) : TE := fun σ H Q => te σ H fun x H1 => rItemsA x H1 Q
section
variable {X : Cx} {e : Expr} {te : TE} {p apos cpos pos : Pos}
theorem pe_listItemsA (hc : X.calm = true) (he : PE X e te) (hg : Gl X "list") (hm : X.mg "list" = none) (hv : bootBuiltins "list" = some (.type "list")) (hbase : attributeBase e "items" X.env (eval e X.env) = eval e X.env := by rfl) (hline : (apos.endLine == cpos.line) = true := by rfl)
    (hs : starEach [.Call (.Attribute e "items" apos) [] [] cpos] X.env = (false, eval (.Call (.Attribute e "items" apos) [] [] cpos) X.env) :: starEach [] X.env := by rfl) :
    PE X (.Call (.Name "list" p) [.Call (.Attribute e "items" apos) [] [] cpos] [] pos) (tListItemsA te) := by
  refine ⟨fun pins s σ H Q I hq => wpAny_Call_Name_kw (ld_blt I hg hm hv (PyProof.Rows.callWith_type1 ?_ hs rfl))⟩
  rw [hs]
  show wpAny _ _ (spliced ((false, eval (.Call (.Attribute e "items" apos) [] [] cpos) X.env) :: backTo pos (starEach [] X.env))) _ _ s
  refine Calls.spliced_cons (wpAny_Call_method (T := "dict") (id := "dict.items") hbase rfl hline F.plainAttrs_dict F.slot_dict_items F.type_dict_items (thn (he.run pins s σ H _ I hq) fun u s1 ⟨x, H1, I1, rx, d, kvs, ex, hd, q⟩ => ?_))
  subst ex
  obtain rfl : u = Value.ref d := rx
  obtain ⟨hz, h0, vs, ep, kv, hat⟩ : kvs.length ≤ sizeLine ∧ (d == sysModules) = false ∧ ∃ vs ep, KV kvs vs ∧ s1.heap.DictAt (mixKind X.prog X.w) d vs ep := by
    rcases hd with hd | ⟨o, hd⟩
    · obtain ⟨g1, g2, vs, g3, g4⟩ := I1.hok d _ hd
      obtain ⟨ep, g5⟩ := g4.dictAt
      exact ⟨g1, g2, vs, ep, g3, g5⟩
    · obtain ⟨g1, _, _, _, ep, vs, _, _, g3, g5⟩ := I1.frzK hd
      exact ⟨(I1.hok d _ hd).2.1, g1, vs, ep, g3, g5⟩
  have lk : kvs.length = vs.length := Paired.length kv
  have I2 : Inv X pins σ H1 { s1 with heap := s1.heap.push { cls := .type "dict_items", data := .fields #[.ref d] } } := I1.kept (t' := s1.toks) fun b ob q => Heap.get?_push_of_some _ q
  refine ⟨hat.dictOf.typeIs, hat.dictOf.mapOf.noDict, ?_⟩
  show wpAny _ _ (callWith cpos (.builtin "dict.items") [.ref d] [] []) _ X.xe s1
  refine method_meetsIn F.slot_dict_items F.entry_dict_items rfl (PySem.evalArgs_none ⟨rfl, hat.dictOf.typeIs, F.args_dict_items_1 _, _, meets_dict_items (mixKind X.prog X.w) d h0, ⟨vs, hat.dictOf⟩, Calls.spliced_nil ?_⟩)
  refine PySem.W.kdx_call (knd := mixKind X.prog X.w) (kvs := vs) (ep := ep) (I1.ok.hd hc) ⟨_, Heap.get?_push_size _ rfl, rfl, rfl⟩ (hat.push _) (by omega) fun h' tk acc c as hk hS hl hG hacc => ?_
  obtain ⟨H', k1, k2, k3, k4, k5, k6, J⟩ := items_laid (tk := tk) I2 hz kv hk hS hl hG hacc
  exact ⟨.ref _, H', J, rfl, q H' _ as k1 k2 k3 k4 k5 k6⟩
end
def itemsE (f : FE) : FE := fun E S => match f E S with
  | some (.dic kds, S1) => some (.lst (kds.map fun p => .tup [kD p.1, p.2]), S1)
  | _ => none
theorem R.frzT1 {B : Bs} {E : Ev} {S : Sm} {σ : L2.St} {I H : Hp} (r : R B E S σ I H) {q : Addr} {xs : List V} (h : H q = some (.tup xs)) : ∃ I', R B E S σ I' H ∧ Le I I' ∧ Rd I' q (.tup xs) ∧ ∀ a, a ≠ q → I' a = I a := by
  cases hi : I q with
  | some o =>
    have := r.st.sub _ _ hi
    rw [h] at this
    cases this
    exact ⟨I, r, le_rfl, .inl hi, fun _ _ => rfl⟩
  | none =>
    have le : Le I (upd I q (.tup xs)) := Le.new hi
    have nst : ¬ B.isSt q := fun ⟨s, hc, z⟩ => by
      obtain ⟨_, _, _, h3, h4⟩ := r.st.st.at_ s hc
      rcases z with rfl | rfl
      · rw [h] at h3; cases h3
      · rw [h] at h4; cases h4
    refine ⟨upd I q (.tup xs), ⟨⟨fun a w ha => ?_, r.st.le.trans le, r.st.keep, fun a w ha => ?_, ⟨fun s hc => ?_⟩, fun a o' w ha => ?_, r.st.stH, fun a w ha => ?_⟩, r.len, fun i x hx => ?_, fun i x hx => ?_, r.ne⟩, le, .inl upd_same, fun a ha => upd_ne ha⟩
    · by_cases e : a = q
      · subst e; rw [upd_same] at ha; cases ha; exact h
      · rw [upd_ne e] at ha; exact r.st.sub a w ha
    · by_cases e : a = q
      · subst e; rw [upd_same] at ha; cases ha; exact .inr (.inr ⟨_, rfl⟩)
      · rw [upd_ne e] at ha; exact r.st.new a w ha
    · obtain ⟨h0, h1, h2, h3, h4⟩ := r.st.st.at_ s hc
      have n1 : s ≠ q := fun e => nst ⟨s, hc, .inl e.symm⟩
      have n2 : B.l ≠ q := fun e => nst ⟨s, hc, .inr e.symm⟩
      exact ⟨h0, by rw [upd_ne n1]; exact h1, by rw [upd_ne n2]; exact h2, h3, h4⟩
    · by_cases e : a = q
      · subst e; rw [upd_same] at ha; cases ha
      · rw [upd_ne e] at ha; exact r.st.nofr a o' w ha
    · obtain ⟨g1, g2, g3, g4⟩ := r.st.fr a w ha
      have : a ≠ q := fun e => by rw [e, h] at g1; cases g1; exact absurd rfl (g4 _)
      exact ⟨g1, by rw [upd_ne this]; exact g2, g3, g4⟩
    · obtain ⟨y, hy, hd'⟩ := r.v i x hx
      exact ⟨y, hy, hd'.mono le⟩
    · obtain ⟨p, w, z1, z2, z3, z4, z5⟩ := r.o i x hx
      have : p ≠ q := fun e => by rw [e, h] at z4; cases z4; exact absurd rfl (z3.2.2 _)
      exact ⟨p, w, z1, by rw [upd_ne this]; exact z2, z3, z4, z5.mono le⟩
theorem items_frz {B : Bs} {E : Ev} {S : Sm} {σ : L2.St} {I H : Hp} : ∀ {ts : List Addr} {kvs : List (Key × V)} {kds : List (Key × D)}, R B E S σ I H → Paired (fun (t : Addr) (q : Key × V) => H t = some (.tup [kV q.1, q.2])) ts kvs → DenP B.c I kvs kds → ∃ I', R B E S σ I' H ∧ Le I I' ∧ DenL B.c I' (ts.map V.ref) (kds.map fun p => .tup [kD p.1, p.2]) ∧ ∀ a, a ∉ ts → I' a = I a
  | _, _, _, r, .nil, .nil => ⟨I, r, le_rfl, .nil, fun _ _ => rfl⟩
  | t :: ts, kv :: kvs, kd :: kds, r, .cons h t1, .cons g t2 => by
    obtain ⟨I1, r1, l1, d1, o1⟩ := items_frz r t1 t2
    obtain ⟨I2, r2, l2, rd, o2⟩ := r1.frzT1 h
    refine ⟨I2, r2, l1.trans l2, .cons (den_tup rd (.cons (by rw [← g.1]; exact den_key _) (.cons (g.2.mono (l1.trans l2)) .nil))) (d1.mono l2), fun a ha => ?_⟩
    rw [o2 a (fun e => ha (by rw [e]; exact List.mem_cons_self)), o1 a (fun z => ha (List.mem_cons_of_mem _ z))]
theorem rf_items {te : TE} {f : FE} (h : RE te f) : RF (tListItemsA te) (itemsE f) := fun {B E S σ I H} r {x S'} e {Q} k => by
  unfold itemsE at e
  split at e
  · rename_i kds S1 q
    cases e
    refine h r q fun v I1 H1 r1 l1 hd => ?_
    obtain ⟨d, kvs, rfl, hr, hl⟩ := hd.toD
    refine ⟨d, kvs, rfl, ?_, fun H' p ts g1 g2 g3 g4 g5 g6 => ?_⟩
    · rcases hr with hr | ⟨o, hr⟩
      · exact .inl (r1.st.sub _ _ hr)
      · exact .inr ⟨o, r1.st.sub _ _ hr⟩
    · obtain ⟨I2, r2, l2, d2, o2⟩ := items_frz (r1.grow g1) g6 hl
      refine k _ I2 H' r2 (l1.trans l2) ⟨p, _, rfl, ?_, ⟨r1.st.fresh g2, r1.st.noFr g2⟩, g5, .lst d2, fun i x hi z => ?_⟩
      · rw [o2 p g4]; exact r1.st.freeI g2
      · obtain ⟨q, w, h1, _, _, h4, _⟩ := r1.o i x hi
        rw [z] at h1
        cases h1
        rw [g2] at h4
        cases h4
  · cases e
end M

set_option Elab.async false
set_option linter.all false
set_option maxRecDepth 100000
set_option maxHeartbeats 4000000
namespace M
open PySem L2

/-! ### {.. for .. in d.items()}, and of keys -/
theorem wd_keys : WD iKeys keysF := ⟨fun {fd E S S' items} e => ⟨items, e⟩, fun {td fd B E S σ I H} r lk {items S'} e {Rq} k => keys_at r lk e k⟩
theorem dcE_fi {fi : FI} {tg : TgD} {c : FT} {fk fv : FE} {own : List Nat} {E : Ev} {S Sf : Sm} {dd : D} (e : dcE fi tg c fk fv own E S = some (dd, Sf)) : ∃ items S1, fi E S = some (items, S1) := by
  unfold dcE at e
  split at e
  · rename_i items S1 q
    exact ⟨items, S1, q⟩
  · cases e
theorem rf_dcW {iX : TE → TI} {fX : FE → FI} (W : WD iX fX) {td : TE} {fd : FE} {g : TG} {tg : TgD} {own : List Nat} {tt : TT} {c : FT} {tk tv : TE} {fk fv : FE} (hd : RP td fd) (hg : RG g tg own) (ht : RT tt c) (hk : RE tk fk) (hv : RE tv fv) :
    RF (fun σ H Q => tLockE (tDc (iX td) g tt tk tv own) σ H Q ∨ tDc (iX td) g tt tk tv own σ H Q) (dcE (fX fd) tg c fk fv own) := fun {B E S σ I H} r {dd Sf} e {Q} k => by
  obtain ⟨items, S1, hf⟩ := dcE_fi e
  obtain ⟨ks, hks⟩ := W.1 hf
  rcases lock_or hd r hks with lk | ⟨d, u, hI, hu, lk⟩
  · exact .inr (dc_at hg ht hk hv r (W.2 r lk) e k)
  · refine .inl ⟨d, u, r.st.sub _ _ hI, mut_dict hu, fun od => ?_⟩
    obtain ⟨r1, l1⟩ := r.lock hI hu od
    refine dc_at hg ht hk hv r1 (W.2 r1 (lk od)) e fun v I' H' r' l' fr => ?_
    have hd' : I' d = some (.frz od u) := lock_stays r'.st (l' _ _ (.inl upd_same))
    have r2 := r'.unlock hd' hu (r.st.free hI hu)
    refine ⟨r'.st.sub _ _ hd', k v _ _ r2 (unlock_le hI l') ?_⟩
    obtain ⟨p, w, rfl, h1, h2, h3, h4, h5⟩ := fr
    have : p ≠ d := fun e => by rw [e, hd'] at h1; cases h1
    exact ⟨p, w, rfl, by rw [upd_ne this]; exact h1, h2, by rw [upd_ne this]; exact h3, h4.monoW (unlock_lw hd'), h5⟩
end M

set_option Elab.async false
set_option linter.all false
set_option maxRecDepth 100000
set_option maxHeartbeats 4000000
namespace M
open PySem L2

/-! ### a law that lays a new stream at each turn -/
def spStr (K : PySem.W.Frag) : Sp := fun vs H Q _ => ∃ (a : Addr) (ns : List Int), vs = [.ref a] ∧ SqL K H a (ns.map V.int) ∧ ∀ l s, H l = none → H s = none → s ≠ l → Q (.ref s) (upd (upd H l (.lst (ns.map V.int))) s (.lst [.ref l, .int 0, .int 0, .int 19]))
def Ext (H H' : Hp) : Prop := ∀ b o, H b = some o → H' b = some o
theorem Ext.new {H : Hp} {p : Addr} {u : HO} (h : H p = none) : Ext H (upd H p u) := fun b o e => by
  rw [upd_ne (fun z => by rw [z, h] at e; cases e)]
  exact e
theorem Ext.trans {H H1 H2 : Hp} (a : Ext H H1) (b : Ext H1 H2) : Ext H H2 := fun x o e => b x o (a x o e)
theorem sqL_on {K : PySem.W.Frag} {H H' : Hp} {a : Addr} {vs : List V} (s : SqL K H a vs) (e : ∀ o, H a = some o → H' a = some o) : SqL K H' a vs := by
  rcases s with (s | ⟨o, s⟩) | s
  · exact .inl (.inl (e _ s))
  · exact .inl (.inr ⟨o, e _ s⟩)
  · exact .inr s
/-- a base with nothing frozen and a stream just laid -/
theorem r_new {N : Nat} {H1 : Hp} {l q : Addr} {ns : List Int} {E : Ev} {σ : L2.St} (hl : H1 l = none) (hq : H1 q = none) (hne : q ≠ l) (len : σ.length = E.length)
    (hv : ∀ (i : Nat) d, E[i]? = some (.v d) → ∃ x, σ[i]? = some (some x) ∧ ∀ I, Den (some q) I x d) (ho : ∀ (i : Nat) d, E[i]? ≠ some (.o d)) :
    R ⟨some q, l, fun _ => none, upd (upd H1 l (.lst (ns.map V.int))) q (.lst [.ref l, .int 0, .int 0, .int 19]), fun _ => none⟩ E ⟨ns, 0, 0, 19⟩ σ (fun _ => none) (upd (upd H1 l (.lst (ns.map V.int))) q (.lst [.ref l, .int 0, .int 0, .int 19])) := by
  refine ⟨⟨(fun _ _ h => by cases h), Le.refl _, (fun _ _ h _ _ => h), (fun _ _ h => by cases h), ⟨fun z hz => ?_⟩, (fun _ _ _ h => by cases h), fun z hz => ?_, (fun _ _ h => by cases h)⟩, len, fun i x hi => ?_, fun i x hi => absurd hi (ho i x), fun i j x y p hij hi _ _ _ => absurd hi (ho i x)⟩
  · cases hz
    exact ⟨hne, rfl, rfl, upd_same, by rw [upd_ne (Ne.symm hne)]; exact upd_same⟩
  · obtain ⟨y, hy, hz⟩ := hz
    cases hy
    rcases hz with rfl | rfl
    · exact ⟨_, upd_same⟩
    · refine ⟨.lst (ns.map V.int), ?_⟩
      show upd (upd H1 z _) q _ z = _
      rw [upd_ne (Ne.symm hne)]
      exact upd_same
  · obtain ⟨y, h1, h2⟩ := hv i x hi
    exact ⟨y, h1, h2 _⟩
def lawEv (a : Addr) (N : Nat) (k : Nat) : Ev := .v (.far a) :: .v (.int (k : Int)) :: .v .strm :: List.replicate N .no
def rAddV : R2 := fun x y H Q => rI0 (fun i j => .int (i + j)) x y H Q ∨ (∃ i j, x = V.str i ∧ y = .str j ∧ i.length + j.length ≤ sizeLine ∧ Q (.str (i ++ j)) H) ∨ rCat x y H Q
def tStrArg (K : PySem.W.Frag) : TE := tOp rAddV (tCB (rListA K) (tCons (tVar 0) tNil)) (tLst (tCons (tVar 1) tNil))
def tTurn (K : PySem.W.Frag) (tb : TS) : TS := tSeq (tAsg (tCall (spStr K) [] E0 (tCons (tStrArg K) tNil)) (gName 2)) tb
theorem str_arg {K : PySem.W.Frag} {σ : L2.St} {H : Hp} {a : Addr} {ns : List Int} {k : Int} {Q : VK} (h0 : σ[0]? = some (some (.ref a))) (h2 : σ[1]? = some (some (.int k))) (sq : SqL K H a (ns.map V.int)) (hl : ns.length ≤ 100000)
    (fin : ∀ p H', H' p = some (.lst ((ns ++ [k]).map V.int)) → Ext H H' → Q (.ref p) H') : tStrArg K σ H Q := by
  refine ⟨.ref a, h0, .inl ⟨a, _, rfl, .inl sq, fun l1 e1 => ⟨.int k, h2, by show 1 ≤ sizeLine; decide, fun l2 e2 => .inr (.inr ⟨l1, l2, ns.map V.int, [.int k], rfl, rfl, ?_, upd_same, ?_, fun l3 e3 => ?_⟩)⟩⟩⟩
  · have : l1 ≠ l2 := fun z => by rw [z, ← z, upd_same] at e2; cases e2
    rw [upd_ne this]
    exact upd_same
  · rw [List.length_map]
    show ns.length + 1 ≤ sizeLine
    have : 1000000 ≤ sizeLine := by decide
    omega
  · refine fin l3 _ ?_ ((Ext.new e1).trans ((Ext.new e2).trans (Ext.new e3)))
    rw [upd_same, List.map_append]
    rfl
theorem turn_for {K : PySem.W.Frag} {n N : Nat} {a : Addr} {ns : List Int} {tb : TS} {g : FS} (hb : RS tb g) (hl : ns.length ≤ 100000)
    (run : ∀ k, k < n → ∃ E' S', g (lawEv a N k) ⟨ns ++ [(k : Int)], 0, 0, 19⟩ = some (.nx, E', S') ∧ E'[0]? = some (.v (.far a)) ∧ E'.length = N + 3)
    {Dn : Ends} {σ : L2.St} {H : Hp} (hn : n < 1000) {m : Int} (hm : m = (n : Int)) (h0 : σ[0]? = some (some (.ref a))) (len : σ.length = N + 3) (sq : SqL K H a (ns.map V.int)) (fin : ∀ σ' H', Dn.nx σ' H') :
    tFor (iRng1 (tCons (tC (.int m)) tNil)) (gName 1) (tTurn K tb) Dn σ H := by
  subst hm
  refine ⟨(n : Int), rfl, by omega, by omega, ?_⟩
  refine ⟨fun i m σ' H' => σ'[0]? = some (some (.ref a)) ∧ σ'.length = N + 3 ∧ SqL K H' a (ns.map V.int) ∧ m = n - i, ⟨_, h0, len, sq, rfl⟩, ?_⟩
  rintro i m σ1 H1 ⟨g0, g1, g2, rfl⟩
  by_cases hi : i < n
  · right
    refine ⟨by show i < (n : Int).toNat; omega, fun σ' H' => σ'[0]? = some (some (.ref a)) ∧ σ'.length = N + 3 ∧ SqL K H' a (ns.map V.int), fun σ' H' ⟨x1, x2, x3⟩ => ⟨_, by omega, x1, x2, x3, rfl⟩, ?_⟩
    rintro x H' ⟨rfl, rfl⟩
    show tTurn K tb _ (σ1.set 1 (some (.int (0 + (i : Int))))) H'
    have k0 : (σ1.set 1 (some (.int (0 + (i : Int)))))[0]? = some (some (.ref a)) := by rw [List.getElem?_set_ne (by decide)]; exact g0
    have k2 : (σ1.set 1 (some (.int (0 + (i : Int)))))[1]? = some (some (.int (i : Int))) := by rw [List.getElem?_set_self (by omega), Int.zero_add]
    refine str_arg k0 k2 g2 hl fun p H2 hp ex => ?_
    refine ⟨p, ns ++ [(i : Int)], rfl, .inl (.inl hp), fun l q el eq ne => ?_⟩
    obtain ⟨E', S', e, z0, zl⟩ := run i hi
    have r0 := r_new (N := N) (ns := ns ++ [(i : Int)]) (E := lawEv a N i) (σ := (σ1.set 1 (some (.int (0 + (i : Int))))).set 2 (some (.ref q))) el eq ne (by unfold lawEv; simp [g1]) (fun j d hj => ?_) (fun j d hj => ?_)
    · refine hb r0 e fun σ4 I4 H4 r4 _ => ?_
      obtain ⟨y, y1, y2⟩ := r4.v 0 _ z0
      cases y2
      refine ⟨y1, by rw [r4.len, zl], sqL_on g2 fun o ho => ?_⟩
      have h3 := ex _ _ ho
      have n1 : a ≠ l := fun z => by rw [z, el] at h3; cases h3
      have n2 : a ≠ q := fun z => by rw [z, eq] at h3; cases h3
      refine r4.st.keep a o ?_ rfl ?_
      · show upd (upd H2 l _) q _ a = _
        rw [upd_ne n2, upd_ne n1]
        exact h3
      · rintro ⟨s, hs, hz⟩
        cases hs
        rcases hz with hz | hz
        · exact n2 hz
        · exact n1 hz
    · match j, hj with
      | 0, hj => cases hj; exact ⟨.ref a, by rw [List.getElem?_set_ne (by decide)]; exact k0, fun _ => .far a⟩
      | 2, hj => cases hj; exact ⟨.ref q, by rw [List.getElem?_set_self (by rw [List.length_set]; omega)], fun _ => .strm rfl⟩
      | 1, hj => cases hj; exact ⟨.int (i : Int), by rw [List.getElem?_set_ne (by decide)]; exact k2, fun _ => .int _⟩
      | j + 3, hj =>
        have : (List.replicate N Sl.no)[j]? = some (.v d) := hj
        rw [List.getElem?_replicate] at this
        split at this <;> cases this
    · match j, hj with
      | 0, hj => cases hj
      | 1, hj => cases hj
      | 2, hj => cases hj
      | j + 3, hj =>
        have : (List.replicate N Sl.no)[j]? = some (.o d) := hj
        rw [List.getElem?_replicate] at this
        split at this <;> cases this
  · left
    exact ⟨by show (n : Int).toNat ≤ i; omega, fin _ _⟩
end M

set_option Elab.async false
set_option linter.all false
set_option maxRecDepth 100000
set_option maxHeartbeats 4000000
namespace M
open PySem PySem.Spec PyProof.Rows L2

/-! ### y = {.. for ..}; y = [.. for k in d] -/
section
variable {X : Cx}
theorem ps_setDc {i : Nat} {y : Str} {py : Pos} {kx vx tg iter : Expr} {ifs : List Expr} {scope : Scope} {own : List (Str × Nat)} {pos spos : Pos} {wi : TI} {g : TG} {tt : TT} {tk tv : TE} (hc : X.calm = true) (hN : X.N.Nodup) (hy : X.N[i]? = some y) (hyl : X.env.scope.names.lookup y = some .local)
    (hsw : swapsWith (.DictComp kx vx [⟨tg, iter, ifs, 0⟩] scope pos) (some (.Name y py)) spos.line X.env = pure true) (hi : PI X tg iter wi) (ok : BlkOk X.N X.env.scope scope own)
    (hg : ∀ (s : Shared) (H : Hp) (C : Addr) (cl : List (Str × Addr)) (fp : List Addr), PG (X.blk s H scope (compEnvC scope cl C X.env) fp) tg g) (ht : ∀ (s : Shared) (H : Hp) (C : Addr) (cl : List (Str × Addr)) (fp : List Addr), PTs (X.blk s H scope (compEnvC scope cl C X.env) fp) ifs tt)
    (hk : ∀ (s : Shared) (H : Hp) (C : Addr) (cl : List (Str × Addr)) (fp : List Addr), PE (X.blk s H scope (compEnvC scope cl C X.env) fp) kx tk)
    (he : ∀ (s : Shared) (H : Hp) (C : Addr) (cl : List (Str × Addr)) (fp : List Addr), PE (X.blk s H scope (compEnvC scope cl C X.env) fp) vx tv) (hs : ∀ x, foldedSetIterable iter X.env x = pure x := by intro _; rfl) :
    PS X (.Assign [.Name y py] (.DictComp kx vx [⟨tg, iter, ifs, 0⟩] scope pos) spos) (tAsg (tDc wi g tt tk tv (own.map (·.2))) (gName i)) := ⟨fun pins s σ H Dn I h => by
  rw [exec_Assign_Name_used _ _ _ _ hsw]
  refine wpAny_bind (wpAny_standAt (wpAny_bind ?_))
  show wpAny _ X.A (do let _ ← comprehension (.DictComp kx vx [⟨tg, iter, ifs, 0⟩] scope pos) scope X.env (firstIterPos [⟨tg, iter, ifs, 0⟩] pos) newDict false (eval iter X.env) (some (assign (.Name y py) X.env))) _ _ s
  have h : tDc wi g tt tk tv (own.map (·.2)) σ H (fun x H1 => gName i x σ H1 Dn.nx) := h
  refine wpAny_bind (thn (dc_core (Qf := fun _ s' => SP X pins Dn .next s') hc hN I hi ok hg ht hk he hs h fun D C s' m H' I' q hn f => ?_) fun _ s' hq => wpAny_pure (wpAny_pure hq))
  show wpAny _ _ (assign (.Name y py) X.env (.ref D)) _ _ _
  refine wpAny_assign_Name (store_ok2 (v := V.ref D) I' hN hy (.inl hyl) rfl (fun s2 I2 ⟨a, sb, ha⟩ => ?_) (.inr hyl))
  obtain ⟨f0, f1, f2, f3, f4, f5⟩ := f
  have haC : C ≠ a := ha.elim (fun z => by rw [z]; exact f1) fun z e => f4 y a z e.symm
  exact ⟨m, hn.sameBut sb haC, fun h3 sb3 => ⟨_, H', I2.turned (t' := s2.toks) (fun b o hb e => (sb3.2 b hb).trans e) f0 f1 f3 f4 f5, q⟩⟩⟩
theorem sw_trueD {kx vx : Expr} {gs : List Comprehension} {scope : Scope} {pos py : Pos} {y : Str} {l : Nat} {env : Env} (hk : env.scope.kind = .function) (hy : env.scope.names.lookup y = some .local) (hl : (py.line == pos.line) = true)
    (ha : (scope.names.any fun (n, k) => n == y && (k == .local || k == .cell)) = false) : swapsWith (.DictComp kx vx gs scope pos) (some (.Name y py)) l env = pure true := by
  have hb : env.blockKind = .function := by unfold Env.blockKind; rw [hk]; rfl
  have ky : env.kindOf y = some .local := hy
  unfold swapsWith
  simp only [hb, ky, ha, Expr.pos, hl]
  rfl
/-- the walked dict is locked, or is so already -/
theorem ps_asgW {st : Stmt} {t : TE} {i : Nat} (h : PS X st (tAsg t (gName i))) : PS X st (tAsg (fun σ H Q => tLockE t σ H Q ∨ t σ H Q) (gName i)) := ps_or (ps_lock h) h
end
end M

set_option Elab.async false
set_option linter.all false
set_option maxRecDepth 100000
set_option maxHeartbeats 4000000
namespace M
open PySem L2 PySem.Spec PyProof.Rows

/-! ### defs that call repr: they run where nothing is guarded -/
section
variable {P : Program} {w : World} {K : PySem.W.Frag} {mg : Str → Option Value} {base : Heap}
structure FnG (P : Program) (w : World) (K : PySem.W.Frag) (mg : Str → Option Value) (base : Heap) (k : Nat) (f : Addr) (fd : FuncData) (ps : List Str) (sp : Sp) : Prop where
  len : ∀ vs H Q E, sp vs H Q E → vs.length = ps.length
  run : ∀ (A : Around) (outer : List Env) (s : Shared) (H : Hp) (args : Args) (us : List Value) (vs : List V) (Q : VK) (E : XK), A.guards = some [] → Room k A → Env0 P w K mg base A outer s H → BindsTo s fd args (ps.zip us) → Vals vs us → sp vs H Q E →
    codeAny (model P w) A (.call (.ref f) args) (CR CX0 outer P w H s Q E) s
theorem deeper_guards {A : Around} {env : Env} (h : A.guards = some []) : (A.deeper env).guards = some [] := h
theorem fn_DG {x qual : Str} {st : Stmt} {f : Addr} {fd : FuncData} {N ps : List Str} {k : Nat} {g : FS} (F : Fun K x qual st f fd) (S : FnScope N ps (defScope st))
    (hbody : ∀ (cdv : Value) (A : Around) (outer : List Env) (s : Shared) (H : Hp), Room k (A.deeper (envOfC qual (defScope st) s.heap.objs.size f cdv)) → (A.deeper (envOfC qual (defScope st) s.heap.objs.size f cdv)).guards = some [] →
      ∃ t, PSs (cxOf CX0 P w K mg base N qual (defScope st) f cdv A outer s H E0).nox (defBody st) t ∧ RS t g) : FnG P w K mg base (k + 1) f fd ps (spD (runS N.length g) ps.length) := by
  have len : ∀ vs H Q E, spD (runS N.length g) ps.length vs H Q E → vs.length = ps.length := fun vs H Q E h => by
    obtain ⟨B, ds, S0, d, S', _, _, hd, hn, _⟩ := h
    rw [Paired.length hd, hn]
  refine ⟨len, fun A outer s H args us vs Q E hg hr e0 hb r h => run_at F S hr e0 hb r (len _ _ _ _ h) fun cdv rm => ?_⟩
  obtain ⟨B, ds, S0, d, S', hH, hs, hd, hn, e, kk⟩ := h
  obtain ⟨t, ht, hr⟩ := hbody cdv A outer s H rm (deeper_guards hg)
  refine ⟨t, ht, ?_⟩
  unfold runS at e
  have r0 := start_R (N := N) hH hs hd
  split at e
  · rename_i d' E' S1 q
    cases e
    exact hr r0 q fun v I' H' s' l' hd' => kk v I' H' s' hd'
  · rename_i E' S1 q
    cases e
    exact hr r0 q fun σ' I' H' r' l' => kk _ I' H' r'.st .non
  · cases e
structure CalG (P : Program) (w : World) (K : PySem.W.Frag) (mg : Str → Option Value) (base : Heap) (k : Nat) (x : Str) (sp : Sp) : Prop where
  ex : ∃ (f : Addr) (fd : FuncData) (ps : List Str), FnG P w K mg base k f fd ps sp ∧ mg x = some (.ref f) ∧ PySem.W.keepIn K (.ref f) = true ∧ Binds K fd ps []
end
section
variable {X : Cx} {k j : Nat} {sp : Sp} {x : Str} {p pos : Pos} {e : Expr} {es : List Expr} {t : TA}
theorem pe_cG (c : CalG X.prog X.w X.K X.mg X.base k x sp) (gd : X.A.guards = some []) (hr : Room j X.A) (hk : k ≤ j) (hg : Gl X x) (ha : PA X (e :: es) t)
    (hdb : (x == ("__debug__" : Str)) = false := by decide) (he : starEach (e :: es) X.env = (false, eval e X.env) :: starEach es X.env := by rfl) (hpl : (backTo pos (starEach es X.env)).any (·.1) = false := by rfl) :
    PE X (.Call (.Name x p) (e :: es) [] pos) (tCall sp [] E0 t) := by
  obtain ⟨f, fd, ps, F, hm, kp, b⟩ := c.ex
  refine ⟨fun pins s σ H Q I h => wpAny_Call_Name_kw (ld_glob I hg hm ?_ hdb)⟩
  refine PySem.W.callWith_K (h₀ := X.base) I.ok.mod.kin kp (thn (ha.run pos pins s σ H _ I h) fun us s1 ⟨vs, H1, I1, r, q⟩ => ⟨I1.kIn, ?_⟩) he hpl
  have q : sp (vs ++ []) H1 Q E0 := q
  rw [List.append_nil] at q
  have hl : us.length = ps.length := by rw [← r.length]; exact F.len _ _ _ _ q
  have bb := b s1 us I1.kIn (by rw [List.append_nil]; exact hl)
  rw [List.append_nil] at bb
  refine wpAny_call (codeAny_mono (F.run X.A X.stack s1 H1 ⟨us, []⟩ us vs Q E0 gd (hr.mono hk) I1.env0 bb r q) fun r s' hq => ?_)
  match r, hq with
  | .error e, hq => exact pass0 pins σ H1 s1 e s' I1 hq
  | .ok (.ret u), hq => exact I1.after hq
  | .ok .next, hq => exact hq.elim
  | .ok .brk, hq => exact hq.elim
  | .ok .cont, hq => exact hq.elim
end
end M

set_option Elab.async false
set_option linter.all false
set_option maxRecDepth 100000
set_option maxHeartbeats 4000000
namespace M
open PySem PySem.Spec PyProof.Rows L2

/-! ### for a, b, c in zip(u, v, w): lists -/
def Itz3 (K : PySem.W.Frag) (a b c : Addr) (N : Nat) : It :=
  ⟨fun i H => (∃ xs ys zs : List V, SqL K H a xs ∧ SqL K H b ys ∧ SqL K H c zs ∧ min (min xs.length ys.length) zs.length = N) ∧ i < N,
    fun i H v H' => ∃ T x y z, v = .ref T ∧ H T = none ∧ H' = upd H T (.tup [x, y, z]) ∧ (∀ xs, SqL K H a xs → xs[i]? = some x) ∧ (∀ ys, SqL K H b ys → ys[i]? = some y) ∧ ∀ zs, SqL K H c zs → zs[i]? = some z,
    fun i H => (∃ xs ys zs : List V, SqL K H a xs ∧ SqL K H b ys ∧ SqL K H c zs ∧ min (min xs.length ys.length) zs.length = N) ∧ N ≤ i⟩
theorem turn_zip3 {P : Program} {w : World} {K : PySem.W.Frag} {elts : List Expr} {kk : Nat} {tpos : Pos} {a b c z TI TO i1 i2 i3 : Addr} {N : Nat} (S : ZipSep3 z TI TO i1 i2 i3 [i1, a] [i2, b] [i3, c]) (na : a ≠ i1) (nb : b ≠ i2) (nc : c ≠ i3) :
    Turn P w K (.Tuple elts kk tpos) (Itz3 K a b c N) [z, TI, TO, i1, i2, i3] z (fun i h => i ≤ N ∧ IsZip h z TI TO .none ∧ IsTupOf3 h TI (.ref i1) (.ref i2) (.ref i3) ∧ (∃ a1 a2 a3, IsTupOf3 h TO a1 a2 a3) ∧ h.IsListIter i1 a i ∧ h.IsListIter i2 b i ∧ h.IsListIter i3 c i) where
  mem := by simp
  obj := fun i h st d hd => by
    obtain ⟨_, hz, hTI, ⟨x, y, u, hTO⟩, ⟨o1, e1, _, d1⟩, ⟨o2, e2, _, d2⟩, ⟨o3, e3, _, d3⟩⟩ := st
    have e' : d = z ∨ d = TI ∨ d = TO ∨ d = i1 ∨ d = i2 ∨ d = i3 := by simpa using hd
    rcases e' with rfl | rfl | rfl | rfl | rfl | rfl
    · exact ⟨_, hz, fun v q => nomatch q⟩
    · exact ⟨_, hTI, fun v q => nomatch q⟩
    · exact ⟨_, hTO, fun v q => nomatch q⟩
    · exact ⟨o1, e1, fun v q => by rw [d1] at q; cases q⟩
    · exact ⟨o2, e2, fun v q => by rw [d2] at q; cases q⟩
    · exact ⟨o3, e3, fun v q => by rw [d3] at q; cases q⟩
  keep := fun i h h' st k => by
    obtain ⟨hn, hz, hTI, ⟨x, y, u, hTO⟩, h1, h2, h3⟩ := st
    exact ⟨hn, k z (by simp) _ hz, k TI (by simp) _ hTI, ⟨x, y, u, k TO (by simp) _ hTO⟩, h1.at fun o q => k i1 (by simp) o q, h2.at fun o q => k i2 (by simp) o q, h3.at fun o q => k i3 (by simp) o q⟩
  item := by
    intro X hP hw hK hc i pins s σ H E I hf st hg
    subst hP hw hK
    obtain ⟨hn, hz, hTI, hTO, h1, h2, h3⟩ := st
    obtain ⟨⟨xs, ys, zs, hx, hy, hu, len⟩, hi⟩ := hg
    obtain ⟨its1, rv1, p1, _⟩ := I.list hx
    obtain ⟨its2, rv2, p2, _⟩ := I.list hy
    obtain ⟨its3, rv3, p3, _⟩ := I.list hu
    have hh : X.A.in1.handled = none := I.ok.hd hc
    have W := WalksT.zipD3 (prog := X.prog) (w := X.w) (A := X.A) S (Draws.list hh i1 a na its1.toArray) (Draws.list hh i2 b nb its2.toArray) (Draws.list hh i3 c nc its3.toArray)
    have l1 := rv1.length
    have l2 := rv2.length
    have l3 := rv3.length
    have hi' : i < min (min its1.toArray.size its2.toArray.size) its3.toArray.size := by
      rw [List.size_toArray, List.size_toArray, List.size_toArray]
      omega
    refine W.item i s _ E hi' ⟨hz, hTI, hTO, ⟨h1, p1.isList⟩, ⟨h2, p2.isList⟩, ⟨h3, p3.isList⟩⟩ fun T vals h' tk ev hT ht hm hk => ?_
    obtain ⟨u1, u2, u3, e1, e2, e3, rfl⟩ := ev
    have nT := W.apart _ _ _ hm
    refine ⟨_, rfl, W.go _ _ _ i T { s with heap := h', toks := tk } _ E hm fun h'' st'' hk2 => ?_⟩
    obtain ⟨z', TI', TO', ⟨h1', _⟩, ⟨h2', _⟩, ⟨h3', _⟩⟩ := st''
    have g1 : ∃ x, xs[i]? = some x ∧ RelV x u1 := by
      have hlt : i < xs.length := by omega
      obtain ⟨u, q1, q2⟩ := rv1.get (List.getElem?_eq_getElem hlt)
      have e1 : its1.toArray[i]? = some u1 := e1
      rw [List.getElem?_toArray, q1] at e1
      cases e1
      exact ⟨_, List.getElem?_eq_getElem hlt, q2⟩
    have g2 : ∃ x, ys[i]? = some x ∧ RelV x u2 := by
      have hlt : i < ys.length := by omega
      obtain ⟨u, q1, q2⟩ := rv2.get (List.getElem?_eq_getElem hlt)
      have e2 : its2.toArray[i]? = some u2 := e2
      rw [List.getElem?_toArray, q1] at e2
      cases e2
      exact ⟨_, List.getElem?_eq_getElem hlt, q2⟩
    have g3 : ∃ x, zs[i]? = some x ∧ RelV x u3 := by
      have hlt : i < zs.length := by omega
      obtain ⟨u, q1, q2⟩ := rv3.get (List.getElem?_eq_getElem hlt)
      have e3 : its3.toArray[i]? = some u3 := e3
      rw [List.getElem?_toArray, q1] at e3
      cases e3
      exact ⟨_, List.getElem?_eq_getElem hlt, q2⟩
    obtain ⟨x, x1, x2⟩ := g1
    obtain ⟨y, y1, y2⟩ := g2
    obtain ⟨v, v1, v2⟩ := g3
    obtain ⟨o, ho, hc1, n, hd⟩ := ht
    have new : ObjOk X.prog X.w (upd H T (.tup [x, y, v])) h'' T (.tup [x, y, v]) :=
      ⟨by show 3 ≤ sizeLine; decide, [u1, u2, u3], .cons x2 (.cons y2 (.cons v2 .nil)), ⟨o, hk2 _ _ nT ho, hc1, n, hd⟩⟩
    have wr : ∀ d, d ∉ [z, TI, TO, i1, i2, i3] → d ∉ [z, TO, i1, i2, i3] := fun d hd q => hd (by
      simp only [List.mem_cons] at q ⊢
      rcases q with q | q | q | q | q | q
      · exact .inl q
      · exact .inr (.inr (.inl q))
      · exact .inr (.inr (.inr (.inl q)))
      · exact .inr (.inr (.inr (.inr (.inl q))))
      · exact .inr (.inr (.inr (.inr (.inr (.inl q)))))
      · cases q)
    have I1 : Inv X pins σ (upd H T (.tup [x, y, v])) { s with heap := h'', toks := tk } :=
      I.turnedNew (t' := tk) (ch := [z, TI, TO, i1, i2, i3]) (fun d o hb q => hk2 d o (wr d hb) (hk d o (wr d hb) q)) hf hT new
    refine ⟨.ref T, _, I1, rfl, ⟨T, x, y, v, rfl, I.hok.fresh hT, rfl, fun l hl => by rw [I.list_inj hl hx]; exact x1, fun l hl => by rw [I.list_inj hl hy]; exact y1, fun l hl => by rw [I.list_inj hl hu]; exact v1⟩, ⟨by omega, z', TI', TO', h1', h2', h3'⟩, fun d hd => ?_⟩
    have hlt : d < s.heap.objs.size := by
      have e' : d = z ∨ d = TI ∨ d = TO ∨ d = i1 ∨ d = i2 ∨ d = i3 := by simpa using hd
      rcases e' with rfl | rfl | rfl | rfl | rfl | rfl
      · exact Heap.lt_size hz
      · exact Heap.lt_size hTI
      · obtain ⟨_, _, _, q⟩ := hTO; exact Heap.lt_size q
      · obtain ⟨_, q, _⟩ := h1; exact Heap.lt_size q
      · obtain ⟨_, q, _⟩ := h2; exact Heap.lt_size q
      · obtain ⟨_, q, _⟩ := h3; exact Heap.lt_size q
    rw [upd_ne (Nat.ne_of_lt (Nat.lt_of_lt_of_le hlt hT))]
    exact (hf d hd).1
  done := by
    intro X hP hw hK hc i pins s σ H E I hf st hg
    subst hP hw hK
    obtain ⟨hn, hz, hTI, hTO, h1, h2, h3⟩ := st
    obtain ⟨⟨xs, ys, zs, hx, hy, hu, len⟩, hi⟩ := hg
    obtain ⟨its1, rv1, p1, _⟩ := I.list hx
    obtain ⟨its2, rv2, p2, _⟩ := I.list hy
    obtain ⟨its3, rv3, p3, _⟩ := I.list hu
    have hh : X.A.in1.handled = none := I.ok.hd hc
    have W := WalksT.zipD3 (prog := X.prog) (w := X.w) (A := X.A) S (Draws.list hh i1 a na its1.toArray) (Draws.list hh i2 b nb its2.toArray) (Draws.list hh i3 c nc its3.toArray)
    have l1 := rv1.length
    have l2 := rv2.length
    have l3 := rv3.length
    have hi' : i = min (min its1.toArray.size its2.toArray.size) its3.toArray.size := by
      rw [List.size_toArray, List.size_toArray, List.size_toArray]
      omega
    subst hi'
    exact W.done s _ E ⟨hz, hTI, hTO, ⟨h1, p1.isList⟩, ⟨h2, p2.isList⟩, ⟨h3, p3.isList⟩⟩ fun h' tk hk => ⟨rfl, I.turnedL (t' := tk) (ch := [z, TI, TO, i1, i2, i3]) (fun d o hb q => hk d o (fun q' => hb (by
      simp only [List.mem_cons] at q' ⊢
      rcases q' with q | q | q | q | q | q
      · exact .inl q
      · exact .inr (.inr (.inl q))
      · exact .inr (.inr (.inr (.inl q)))
      · exact .inr (.inr (.inr (.inr (.inl q))))
      · exact .inr (.inr (.inr (.inr (.inr (.inl q)))))
      · cases q)) q) hf⟩
  self := fun A i s Q E st h => wpAny_pyIter_zip st.2.1 h
end M

set_option Elab.async false
set_option linter.all false
set_option maxRecDepth 100000
set_option maxHeartbeats 400000
namespace M
open PySem PySem.Spec PyProof.Rows L2

def iZip3 (K : PySem.W.Frag) (ta : TA) : TI := fun σ H R => ta σ H fun vs H1 => ∃ a b c xs ys zs, vs = [.ref a, .ref b, .ref c] ∧ SqL K H1 a xs ∧ SqL K H1 b ys ∧ SqL K H1 c zs ∧ R (Itz3 K a b c (min (min xs.length ys.length) zs.length)) H1
theorem pi_zip3 {X : Cx} {e e2 e3 : Expr} {ta : TA} {p pos tpos : Pos} {elts : List Expr} {kk : Nat} (hg : Gl X "zip") (hm : X.mg "zip" = none) (ha : PA X [e, e2, e3] ta)
    (hs : starEach [e, e2, e3] X.env = (false, eval e X.env) :: starEach [e2, e3] X.env := by rfl) (hpl : (backTo pos (starEach [e2, e3] X.env)).any (·.1) = false := by rfl) :
    PI X (.Tuple elts kk tpos) (.Call (.Name "zip" p) [e, e2, e3] [] pos) (iZip3 X.K ta) := by
  refine ⟨fun pins s σ H R I h => ?_⟩
  refine Call_ (ld_blt I hg hm PyProof.Rows.boot_zip (PyProof.Rows.callWith_type1 (thn (ha.run pos pins s σ H _ I h) fun us s1 ⟨vs, H1, I1, r1, q1⟩ => ?_) hs hpl))
  obtain ⟨a, b, c, xs, ys, zs, ex, hx, hy, hu, q⟩ := q1
  subst ex
  cases r1 with
  | cons r rr =>
    cases rr with
    | cons r' rr =>
      cases rr with
      | cons r'' rr =>
      cases rr
      cases r
      cases r'
      cases r''
      obtain ⟨its1, rv1, p1, _⟩ := I1.list hx
      obtain ⟨its2, rv2, p2, _⟩ := I1.list hy
      obtain ⟨its3, rv3, p3, _⟩ := I1.list hu
      have la : a < s1.heap.objs.size := p1.lt
      have lb : b < s1.heap.objs.size := p2.lt
      have lc : c < s1.heap.objs.size := p3.lt
      have sep := zip_sep3 (N := s1.heap.objs.size) (fp1 := [a]) (fp2 := [b]) (fp3 := [c]) (by simpa using la) (by simpa using lb) (by simpa using lc)
      refine zip_begins3 (begins_list a its1.toArray) (begins_list b its2.toArray) (begins_list c its3.toArray) p1.isList p2.isList p3.isList fun h' hz hTI hTO h1 h2 h3 hsz hk => wpAny_pyIter_zip hz ?_
      have I2 : Inv X pins σ H1 { s1 with heap := h' } := I1.kept (t' := s1.toks) hk
      refine ⟨s1.heap.objs.size + 5, [s1.heap.objs.size + 5, s1.heap.objs.size + 3, s1.heap.objs.size + 4, s1.heap.objs.size, s1.heap.objs.size + 1, s1.heap.objs.size + 2], _, _, H1, rfl, I2, turn_zip3 sep (Nat.ne_of_lt la) (show b ≠ s1.heap.objs.size + 1 from fun q => absurd (q ▸ lb) (Nat.not_lt.mpr (Nat.le_add_right _ _))) (show c ≠ s1.heap.objs.size + 2 from fun q => absurd (q ▸ lc) (Nat.not_lt.mpr (Nat.le_add_right _ _))), ⟨Nat.zero_le _, hz, hTI, ⟨_, _, _, hTO⟩, ⟨_, h1, rfl, rfl⟩, ⟨_, h2, rfl, rfl⟩, ⟨_, h3, rfl, rfl⟩⟩, fun d hd => ?_, q⟩
      have hle : s1.heap.objs.size ≤ d := by
        have e' : d = s1.heap.objs.size + 5 ∨ d = s1.heap.objs.size + 3 ∨ d = s1.heap.objs.size + 4 ∨ d = s1.heap.objs.size ∨ d = s1.heap.objs.size + 1 ∨ d = s1.heap.objs.size + 2 := by simpa using hd
        rcases e' with z | z | z | z | z | z <;> rw [z] <;> first | exact Nat.le_refl _ | exact Nat.le_add_right _ _
      exact I1.fpOk hle (I1.hok.fresh hle)
end M
  
set_option Elab.async false
set_option linter.all false
set_option maxRecDepth 100000
set_option maxHeartbeats 4000000
namespace M
open PySem PySem.Spec PyProof.Rows L2

def zip3D : List D → List D → List D → List D
  | x :: xs, y :: ys, z :: zs => .tup [x, y, z] :: zip3D xs ys zs
  | _, _, _ => []
theorem zip3D_len : ∀ xs ys zs : List D, (zip3D xs ys zs).length = min (min xs.length ys.length) zs.length
  | x :: xs, y :: ys, z :: zs => by rw [zip3D, List.length_cons, zip3D_len xs ys zs, List.length_cons, List.length_cons, List.length_cons]; omega
  | [], _, _ => by simp [zip3D]
  | x :: xs, [], _ => by simp [zip3D]
  | x :: xs, y :: ys, [] => by simp [zip3D]
theorem zip3D_get : ∀ (xs ys zs : List D) (i : Nat) (d : D), (zip3D xs ys zs)[i]? = some d → ∃ x y z, xs[i]? = some x ∧ ys[i]? = some y ∧ zs[i]? = some z ∧ d = .tup [x, y, z]
  | x :: xs, y :: ys, z :: zs, 0, d, h => by cases h; exact ⟨x, y, z, rfl, rfl, rfl, rfl⟩
  | x :: xs, y :: ys, z :: zs, i + 1, d, h => zip3D_get xs ys zs i d h
  | [], _, _, i, d, h => by simp [zip3D] at h
  | x :: xs, [], _, i, d, h => by simp [zip3D] at h
  | x :: xs, y :: ys, [], i, d, h => by simp [zip3D] at h
theorem it_zip3 {K : PySem.W.Frag} {cc : Option Addr} {I0 : Hp} {a b c : Addr} {vs ws us : List V} {ds es fs : List D} (hr : Rd I0 a (.lst vs)) (hl : DenL cc I0 vs ds) (hr2 : Rd I0 b (.lst ws)) (hl2 : DenL cc I0 ws es) (hr3 : Rd I0 c (.lst us)) (hl3 : DenL cc I0 us fs) :
    ItD cc (Itz3 K a b c (min (min vs.length ws.length) us.length)) I0 (zip3D ds es fs) := fun B E S σ I H hc r l i => by
  have s1 : SqL K H a vs := exL r (l _ _ hr)
  have s2 : SqL K H b ws := exL r (l _ _ hr2)
  have s3 : SqL K H c us := exL r (l _ _ hr3)
  have n1 := Paired.length hl
  have n2 := Paired.length hl2
  have n3 := Paired.length hl3
  rw [zip3D_len]
  refine ⟨fun hi => ⟨⟨vs, ws, us, s1, s2, s3, rfl⟩, by omega⟩, fun hi => ⟨⟨vs, ws, us, s1, s2, s3, rfl⟩, by omega⟩, fun x H' d hd y => ?_⟩
  obtain ⟨T, z1, z2, z3, rfl, hT, rfl, y1, y2, y3⟩ := y
  obtain ⟨d1, d2, d3, h1, h2, h3, rfl⟩ := zip3D_get ds es fs i d hd
  obtain ⟨v1, g1, g1'⟩ := denL_get hl h1
  obtain ⟨v2, g2, g2'⟩ := denL_get hl2 h2
  obtain ⟨v3, g3, g3'⟩ := denL_get hl3 h3
  rw [y1 vs s1] at g1
  rw [y2 ws s2] at g2
  rw [y3 us s3] at g3
  cases g1
  cases g2
  cases g3
  subst hc
  exact newT r hT (.cons (g1'.mono l) (.cons (g2'.mono l) (.cons (g3'.mono l) .nil)))
def zip3A (f : FA) : FI := fun E S => match f E S with
  | some ([.lst xs, .lst ys, .lst zs], S1) => some (zip3D xs ys zs, S1)
  | _ => none
theorem ri_zip3 {K : PySem.W.Frag} {ta : TA} {f : FA} (h : RA ta f) : RI (iZip3 K ta) (zip3A f) := fun {B E S σ I H} r {items S'} e {Rq} k => by
  unfold zip3A at e
  split at e
  · rename_i xs ys zs S1 q
    cases e
    refine h r q fun vs I' H' r' l hd => ?_
    match vs, hd with
    | [_, _, _], .cons h1 (.cons h2 (.cons h3 .nil)) =>
      obtain ⟨a, as, rfl, hr, hl⟩ := h1.toL
      obtain ⟨b, bs, rfl, hr2, hl2⟩ := h2.toL
      obtain ⟨c, cs, rfl, hr3, hl3⟩ := h3.toL
      exact ⟨a, b, c, as, bs, cs, rfl, exL r' hr, exL r' hr2, exL r' hr3, k _ I' H' r' l (it_zip3 hr hl hr2 hl2 hr3 hl3)⟩
  · cases e
end M

set_option Elab.async false
set_option linter.all false
set_option maxRecDepth 100000
set_option maxHeartbeats 4000000
namespace M
open PySem PySem.Spec PyProof.Rows L2

/-! ### repr of any data: dicts within dicts, lists within dicts -/
section
variable {P : Program} {w : World} {B : Bs} {I H : Hp} {S : Sm} {h : Heap}
theorem flats_noDict : ∀ {ds : List PyData}, ds.all flatP = true → PyData.hasDictAll ds = false
  | [], _ => rfl
  | d :: ds, f => by
    rw [List.all_cons, Bool.and_eq_true] at f
    rw [PyData.hasDictAll, flats_noDict f.2, Bool.or_false]
    cases d <;> first | rfl | cases f.1
mutual
theorem item_reprA (ok : HOk P w H h) (st : Stt B I H S) : ∀ (d : D), okP d = true → (toP d).showable = true → (toP d).shown.length ≤ sizeLine → ∀ {x : V} {u : Value}, Den B.c I x d → RelV x u → ∃ bs, ReadAtMost h (toP d).depth bs ∧ ReprK P w bs h (toP d).depth u (toP d).shown
  | .non, hk, hs, hz, x, u, hd, hr => by
    obtain ⟨as, r⟩ := reads_of ok st .non hk hd hr
    exact ReprK.of_reads r hs (fun z => by cases z) hz
  | .bl b, hk, hs, hz, x, u, hd, hr => by
    obtain ⟨as, r⟩ := reads_of ok st (.bl b) hk hd hr
    exact ReprK.of_reads r hs (fun z => by cases z) hz
  | .int i, hk, hs, hz, x, u, hd, hr => by
    obtain ⟨as, r⟩ := reads_of ok st (.int i) hk hd hr
    exact ReprK.of_reads r hs (fun z => by cases z) hz
  | .str z, hk, hs, hz, x, u, hd, hr => by
    obtain ⟨as, r⟩ := reads_of ok st (.str z) hk hd hr
    exact ReprK.of_reads r hs (fun z => by cases z) hz
  | .lst ds, hk, hs, hz, x, u, hd, hr => by
    obtain ⟨as, r⟩ := reads_of ok st (.lst ds) hk hd hr
    obtain ⟨a, vs, rfl, hrd, hl⟩ := hd.toL
    cases (show u = Value.ref a from hr)
    obtain ⟨_, its, n, rv, ho⟩ := (show ObjOk P w H h a (.lst vs) from ok a _ (st.exL hrd))
    rw [toP, PyData.shown] at hz
    rw [toP] at hs r
    rw [okP] at hk
    rw [PyData.showable] at hs
    obtain ⟨bs, hb, k⟩ := items_reprA ok st ds hk hs (fun t ht => Nat.le_trans (listText_mem_le ht) hz) hl rv
    have hna : a ∉ bs := not_mem_of_deeper r (by rw [PyData.depth]; omega) hb
    rw [toP, PyData.shown]
    refine ⟨a :: bs, ReadAtMost.cons r (Nat.le_refl _) (hb.mono (by rw [PyData.depth]; omega)), ?_⟩
    rw [PyData.depth]
    match its, ho, k with
    | [], ho, k =>
      cases ds with
      | nil => rw [toPs, PyData.shownAll, listText_nil]; exact ReprK.listEmpty ho rfl rfl
      | cons d ds => rw [toPs, PyData.shownAll] at k; cases k
    | y :: l, ho, k => exact ReprK.list ho rfl rfl hna (by simpa using k.length_eq) fun i y e => k.item i y (by simpa using e)
  | .tup ds, hk, hs, hz, x, u, hd, hr => by
    obtain ⟨as, r⟩ := reads_of ok st (.tup ds) hk hd hr
    obtain ⟨a, vs, rfl, hrd, hl⟩ := hd.toT
    cases (show u = Value.ref a from hr)
    obtain ⟨_, its, rv, o, ho, hc, n, hdt⟩ := (show ObjOk P w H h a (.tup vs) from ok a _ (st.exT hrd))
    rw [toP, PyData.shown] at hz
    rw [toP] at hs r
    rw [okP] at hk
    rw [PyData.showable] at hs
    obtain ⟨bs, hb, k⟩ := items_reprA ok st ds hk hs (fun t ht => Nat.le_trans (tupleText_mem_le ht) hz) hl rv
    have hna : a ∉ bs := not_mem_of_deeper r (by rw [PyData.depth]; omega) hb
    rw [toP, PyData.shown]
    refine ⟨a :: bs, ReadAtMost.cons r (Nat.le_refl _) (hb.mono (by rw [PyData.depth]; omega)), ?_⟩
    rw [PyData.depth]
    exact ReprK.tuple ho hc hdt hna (by simpa using k)
  | .dic kds, hk, hs, hz, x, u, hd, hr => by
    obtain ⟨as, r⟩ := reads_of ok st (.dic kds) hk hd hr
    obtain ⟨a, kvs, rfl, hrd, hl⟩ := hd.toD
    cases (show u = Value.ref a from hr)
    obtain ⟨_, hsm, vs, rel, o, es, ep, ho, hex, hdt, _, hp, _⟩ := dk_rd ok (st.sub.rd hrd)
    rw [toP, PyData.shown] at hz
    rw [toP] at hs r
    rw [okP] at hk
    rw [PyData.showable] at hs
    obtain ⟨hs1, hs2⟩ := PyData.showableKv_split _ hs
    obtain ⟨b2, hb2, k2⟩ := kvs_reprA ok st kds hk hs2 (fun t ht => let ⟨p, hp, hl⟩ := PyData.shownKv_val_le _ t ht; Nat.le_trans hl (Nat.le_trans (dictText_mem_le hp) hz)) hl rel
    rw [← pairs_vals hp] at k2
    obtain ⟨as1, rk⟩ := pairs_keys (h := h) hp
    have e1 : vs.map (fun p => kP p.1) = (toPk kds).map (·.1) := by
      rw [toPk_keys]
      have h1 := kv_keys rel
      have h2 := hl.keys
      have h3 := congrArg (List.map kP) (h1.symm.trans h2)
      simpa only [List.map_map, Function.comp_def] using h3
    rw [e1] at rk
    obtain ⟨b1, hb1, k1⟩ := ReprAllK.of_readsAll (prog := P) (w := w) rk hs1 (fun z => by rw [flats_noDict (flat_keys kds)] at z; cases z) (fun t ht => let ⟨p, hp, hl⟩ := PyData.shownKv_key_le _ t ht; Nat.le_trans hl (Nat.le_trans (dictText_mem_le hp) hz))
    have hb : ReadAtMost h (PyData.depthKv (toPk kds)) (b1 ++ b2) := (hb1.mono (PyData.depthAll_keys_le _)).append (hb2.mono (PyData.depthAll_vals_le _))
    have hna : a ∉ b1 ++ b2 := not_mem_of_deeper r (by rw [PyData.depth]; omega) hb
    rw [toP, PyData.shown, PyData.shownKv_eq]
    refine ⟨a :: (b1 ++ b2), ReadAtMost.cons r (Nat.le_refl _) (hb.mono (by rw [PyData.depth]; omega)), ?_⟩
    rw [PyData.depth]
    exact ReprK.dict ho hex.1 hdt hsm hna (ReprEntriesK.of_two es.toList _ _ (k1.more_le (fun b hb => List.mem_append_left _ hb) (PyData.depthAll_keys_le _)) (k2.more_le (fun b hb => List.mem_append_right _ hb) (PyData.depthAll_vals_le _)))
  | .dtk _, hk, _, _, _, _, _, _ => by rw [okP] at hk; cases hk
  | .ins _ _, hk, _, _, _, _, _, _ => by rw [okP] at hk; cases hk
  | .strm, hk, _, _, _, _, _, _ => by rw [okP] at hk; cases hk
  | .far _, hk, _, _, _, _, _, _ => by rw [okP] at hk; cases hk
theorem items_reprA (ok : HOk P w H h) (st : Stt B I H S) : ∀ (ds : List D), okPs ds = true → PyData.showableAll (toPs ds) = true → (∀ t ∈ PyData.shownAll (toPs ds), t.length ≤ sizeLine) → ∀ {vs : List V} {us : List Value}, DenL B.c I vs ds → Vals vs us →
    ∃ bs, ReadAtMost h (PyData.depthAll (toPs ds)) bs ∧ ReprAllK P w bs h (PyData.depthAll (toPs ds)) us (PyData.shownAll (toPs ds))
  | [], _, _, _, _, _, .nil, .nil => ⟨[], (fun _ z => by cases z), by rw [toPs, PyData.shownAll]; exact .nil⟩
  | d :: ds, hk, hs, hz, _, _, .cons hd td, .cons hr tr => by
    rw [okPs, Bool.and_eq_true] at hk
    rw [toPs, PyData.showableAll, Bool.and_eq_true] at hs
    rw [toPs, PyData.shownAll] at hz
    obtain ⟨b1, m1, k1⟩ := item_reprA ok st d hk.1 hs.1 (hz _ List.mem_cons_self) hd hr
    obtain ⟨b2, m2, k2⟩ := items_reprA ok st ds hk.2 hs.2 (fun t ht => hz t (List.mem_cons_of_mem _ ht)) td tr
    rw [toPs, PyData.depthAll, PyData.shownAll]
    exact ⟨b1 ++ b2, (m1.mono (Nat.le_max_left _ _)).append (m2.mono (Nat.le_max_right _ _)), .cons ((k1.more fun c hc => List.mem_append_left _ hc).level_le (Nat.le_max_left _ _)) (k2.more_le (fun c hc => List.mem_append_right _ hc) (Nat.le_max_right _ _))⟩
theorem kvs_reprA (ok : HOk P w H h) (st : Stt B I H S) : ∀ (kds : List (Key × D)), okPk kds = true → PyData.showableAll ((toPk kds).map (·.2)) = true → (∀ t ∈ PyData.shownAll ((toPk kds).map (·.2)), t.length ≤ sizeLine) → ∀ {kvs : List (Key × V)} {vs : List (Key × Value)}, DenP B.c I kvs kds → KV kvs vs →
    ∃ bs, ReadAtMost h (PyData.depthAll ((toPk kds).map (·.2))) bs ∧ ReprAllK P w bs h (PyData.depthAll ((toPk kds).map (·.2))) (vs.map (·.2)) (PyData.shownAll ((toPk kds).map (·.2)))
  | [], _, _, _, _, _, .nil, .nil => ⟨[], (fun _ z => by cases z), by rw [toPk, List.map_nil, PyData.shownAll]; exact .nil⟩
  | (k, d) :: kds, hk, hs, hz, _, _, .cons hd td, .cons hr tr => by
    rw [okPk, Bool.and_eq_true] at hk
    rw [toPk, List.map_cons, PyData.showableAll, Bool.and_eq_true] at hs
    rw [toPk, List.map_cons, PyData.shownAll] at hz
    obtain ⟨b1, m1, k1⟩ := item_reprA ok st d hk.1 hs.1 (hz _ List.mem_cons_self) hd.2 hr.2
    obtain ⟨b2, m2, k2⟩ := kvs_reprA ok st kds hk.2 hs.2 (fun t ht => hz t (List.mem_cons_of_mem _ ht)) td tr
    rw [toPk, List.map_cons, PyData.depthAll, PyData.shownAll]
    exact ⟨b1 ++ b2, (m1.mono (Nat.le_max_left _ _)).append (m2.mono (Nat.le_max_right _ _)), .cons ((k1.more fun c hc => List.mem_append_left _ hc).level_le (Nat.le_max_left _ _)) (k2.more_le (fun c hc => List.mem_append_right _ hc) (Nat.le_max_right _ _))⟩
end
end
end M

set_option Elab.async false
set_option linter.all false
set_option maxRecDepth 100000
set_option maxHeartbeats 4000000
namespace M
open PySem PySem.Spec PyProof.Rows L2

def reprOkA (d : D) : Bool := okP d && (toP d).showable && decide ((toP d).shown.length ≤ 10000000) && decide ((toP d).depth ≤ 40) && (match d with
  | .lst _ => true
  | .tup _ => true
  | _ => false)
def rReprA : List V → Hp → VK → Prop := fun vs H Q => ∃ (v : V) (d : D) (B : Bs) (I : Hp) (S : Sm), vs = [v] ∧ Stt B I H S ∧ Den B.c I v d ∧ reprOkA d = true ∧ Q (.str (toP d).shown) H
theorem cr_reprA {X : Cx} (hg : X.A.guards = some []) (hu : X.A.units + 64 < cLine) : CallR X (.builtin "repr") rReprA := by
  intro pins s σ H xs us Q I r h
  obtain ⟨v, d, B, I0, S, rfl, st, hd, hok, q⟩ := h
  unfold reprOkA at hok
  simp only [Bool.and_eq_true, decide_eq_true_eq] at hok
  obtain ⟨⟨⟨⟨h1, h2⟩, h3⟩, h4⟩, h5⟩ := hok
  have hz : (toP d).shown.length ≤ sizeLine := by rw [sizeLine_eq]; omega
  cases d with
  | lst ds =>
    obtain ⟨a, vs, rfl, hrd, hl⟩ := hd.toL
    have ha := st.exL hrd
    rw [Vals.ref1 r]
    obtain ⟨_, its, n, rv, ho⟩ := (show ObjOk X.prog X.w H s.heap a (.lst vs) from I.hok a _ ha)
    obtain ⟨as, rd⟩ := reads_of I.hok st (.lst ds) h1 hd (u := .ref a) rfl
    rw [toP, PyData.shown] at hz q
    rw [toP] at h2 rd h4
    rw [okP] at h1
    rw [PyData.showable] at h2
    rw [PyData.depth] at h4
    obtain ⟨bs, hb, k⟩ := items_reprA (w := X.w) I.hok st ds h1 h2 (fun t ht => Nat.le_trans (listText_mem_le ht) hz) hl rv
    have hna : a ∉ bs := not_mem_of_deeper rd (by rw [PyData.depth]; omega) hb
    refine PySem.call_repr_slot (by omega) (T := "list") ⟨_, ho, rfl⟩ PySem.F.slot_list_repr.toG ?_
    match its, ho, k with
    | [], ho, k =>
      cases ds with
      | nil =>
        rw [toPs, PyData.shownAll, listText_nil] at q
        exact call_list_repr_empty ⟨_, ho, rfl⟩ ho rfl ⟨_, _, rfl, .str _, H, I.kept (t' := s.toks + 1) fun _ _ e => e, ⟨_, rfl⟩, q⟩
      | cons d ds => rw [toPs, PyData.shownAll] at k; cases k
    | y :: l, ho, k =>
      exact call_list_reprK ho rfl rfl hna (by simpa using k.length_eq) (fun i y e => k.item i y (by simpa using e)) (A := X.A.in1) hg (fun b _ => Clear.nil b) (by show X.A.units + 1 + _ < cLine; omega) (fun _ _ e => e) (fun h' u tk hk => ⟨_, u, rfl, .str _, H, I.kept hk, ⟨u, rfl⟩, q⟩) hz
  | tup ds =>
    obtain ⟨a, vs, rfl, hrd, hl⟩ := hd.toT
    have ha := st.exT hrd
    rw [Vals.ref1 r]
    obtain ⟨_, its, rv, o, ho, hc, n, hdt⟩ := (show ObjOk X.prog X.w H s.heap a (.tup vs) from I.hok a _ ha)
    obtain ⟨as, rd⟩ := reads_of I.hok st (.tup ds) h1 hd (u := .ref a) rfl
    rw [toP, PyData.shown] at hz q
    rw [toP] at h2 rd h4
    rw [okP] at h1
    rw [PyData.showable] at h2
    rw [PyData.depth] at h4
    obtain ⟨bs, hb, k⟩ := items_reprA (w := X.w) I.hok st ds h1 h2 (fun t ht => Nat.le_trans (tupleText_mem_le ht) hz) hl rv
    have hna : a ∉ bs := not_mem_of_deeper rd (by rw [PyData.depth]; omega) hb
    refine PySem.call_repr_slot (by omega) (T := "tuple") ⟨o, ho, hc⟩ PySem.F.slot_tuple_repr ?_
    exact call_tuple_reprK ho hc hdt hna (by simpa using k) (A := X.A.in1) hg (fun b _ => Clear.nil b) (by show X.A.units + 1 + _ < cLine; omega) (fun _ _ e => e) (fun h' u tk hk => ⟨_, u, rfl, .str _, H, I.kept hk, ⟨u, rfl⟩, q⟩) hz
  | _ => cases h5
def reprA : OpN
  | [d] => if reprOkA d = true then some (.str (toP d).shown) else none
  | _ => none
theorem rc_reprA : RC rReprA reprA := fun {B E S σ I H} r {vs ds d} hv e {Q} k => by
  unfold reprA at e
  split at e
  · split at e <;> cases e
    rename_i d hok
    obtain ⟨v, rfl, h⟩ := one1 hv
    exact ⟨v, d, B, I, S, rfl, r.st, h, hok, k _ I H r le_rfl (.str _)⟩
  · cases e
end M

set_option Elab.async false
set_option linter.all false
set_option maxRecDepth 100000
set_option maxHeartbeats 4000000
namespace M
open PySem L2
def topS (i : Nat) : Stmt := PySem.Challenge.pw_stillfirst_k40_whole_costs_and_bills.main.body.getD i (.Pass ⟨0, 0, 0, 0⟩)
structure Tx (K : PySem.W.Frag) (mg : Str → Option Value) (C : Addr) (tL : Tok) : Prop where
  b_abs : mg "abs" = none
  b_all : mg "all" = none
  b_bool : mg "bool" = none
  b_dict : mg "dict" = none
  b_enumerate : mg "enumerate" = none
  b_int : mg "int" = none
  b_isinstance : mg "isinstance" = none
  b_len : mg "len" = none
  b_list : mg "list" = none
  b_max : mg "max" = none
  b_min : mg "min" = none
  b_range : mg "range" = none
  b_repr : mg "repr" = none
  b_sorted : mg "sorted" = none
  b_str : mg "str" = none
  b_sum : mg "sum" = none
  b_tuple : mg "tuple" = none
  b_zip : mg "zip" = none
  c_LETTERS : mg "LETTERS" = some (.str "abcdefghijklmnopqrstuvwxyz" tL)
  g_Season : mg "Season" = some (.ref C)
  na_own_games : NoAttr K C "own_games"
  na_own_wins : NoAttr K C "own_wins"
  cl : Cls K C
  ow : OwnC K C
section
variable {P : Program} {w : World} {K : PySem.W.Frag} {mg : Str → Option Value} {base : Heap} {C : Addr} {tL : Tok}
abbrev s_is_list : Stmt := topS 2
theorem sc_is_list : FnScope ["thing"] ["thing"] (defScope s_is_list) := ⟨rfl, rfl, rfl, by decide +kernel, rfl, by decide +kernel, by decide +kernel⟩
noncomputable def g_is_list : FS := (retS (isE ["list", "tuple"] (vE 0)))
noncomputable def m_is_list : FM := runS 1 (g_is_list)
theorem ok_is_list {f : Addr} {fd : FuncData} (F : Fun K "is_list" "is_list" s_is_list f fd) (T : Tx K mg C tL) : FnOk P w K mg base CX0 1 f fd ["thing"] (spD (m_is_list) 1) :=
  fn_D F sc_is_list fun cdv A outer s H hr => ⟨_, (pss_one (ps_ret (pe_callB call_isiT (by rfl) T.b_isinstance (by decide +kernel) (pa_cons (pv 0) (pa_cons (pe_tup (pa_cons (pe_bltn (v := .ty "list") (u := .type "list") (by rfl) T.b_list (by decide +kernel) rfl) (pa_cons (pe_bltn (v := .ty "tuple") (u := .type "tuple") (by rfl) T.b_tuple (by decide +kernel) rfl) pa_nil))) pa_nil))))), (rs_ret (re_isT (ns := ["list", "tuple"]) (by decide) (by decide) re_v))⟩
abbrev s_is_whole : Stmt := topS 3
theorem sc_is_whole : FnScope ["thing"] ["thing"] (defScope s_is_whole) := ⟨rfl, rfl, rfl, by decide +kernel, rfl, by decide +kernel, by decide +kernel⟩
noncomputable def g_is_whole : FS := (retS (andE (isE ["int"] (vE 0)) (notE (isE ["bool"] (vE 0)))))
noncomputable def m_is_whole : FM := runS 1 (g_is_whole)
theorem ok_is_whole {f : Addr} {fd : FuncData} (F : Fun K "is_whole" "is_whole" s_is_whole f fd) (T : Tx K mg C tL) : FnOk P w K mg base CX0 1 f fd ["thing"] (spD (m_is_whole) 1) :=
  fn_D F sc_is_whole fun cdv A outer s H hr => ⟨_, (pss_one (ps_ret (pe_and (pe_callB call_isi (by rfl) T.b_isinstance (by decide +kernel) (pa_cons (pv 0) (pa_cons (pe_bltn (v := .ty "int") (u := .type "int") (by rfl) T.b_int (by decide +kernel) rfl) pa_nil))) (pe_one (pe_not (pe_callB call_isi (by rfl) T.b_isinstance (by decide +kernel) (pa_cons (pv 0) (pa_cons (pe_bltn (v := .ty "bool") (u := .type "bool") (by rfl) T.b_bool (by decide +kernel) rfl) pa_nil)))))))), (rs_ret (re_and (re_is1 (by decide) re_v) (re_not (re_is1 (by decide) re_v))))⟩
abbrev s_is_number : Stmt := topS 4
theorem sc_is_number : FnScope ["thing"] ["thing"] (defScope s_is_number) := ⟨rfl, rfl, rfl, by decide +kernel, rfl, by decide +kernel, by decide +kernel⟩
noncomputable def g_is_number : FS := (retS (andE (mE m_is_whole 1 (consA (vE 0) nilA)) (opE geI (vE 0) (cE (.int 0)))))
noncomputable def m_is_number : FM := runS 1 (g_is_number)
theorem ok_is_number {f : Addr} {fd : FuncData} (F : Fun K "is_number" "is_number" s_is_number f fd) (T : Tx K mg C tL) (c_is_whole : Cal P w K mg base 1 "is_whole" (spD (m_is_whole) 1)) : FnOk P w K mg base CX0 2 f fd ["thing"] (spD (m_is_number) 1) :=
  fn_D F sc_is_number fun cdv A outer s H hr => ⟨_, (pss_one (ps_ret (pe_and (pe_c c_is_whole hr (by decide) (by rfl) (pa_cons (pv 0) pa_nil)) (pe_one (pe_cmpR op_ge (pv 0) pe_int (nomark _)))))), (rs_ret (re_and (re_fn (ra_cons re_v ra_nil)) (re_op rb_ge re_v re_int)))⟩
abbrev s_is_row : Stmt := topS 5
theorem sc_is_row : FnScope ["thing", "many"] ["thing", "many"] (defScope s_is_row) := ⟨rfl, rfl, rfl, by decide +kernel, rfl, by decide +kernel, by decide +kernel⟩
noncomputable def g_is_row : FS := (retS (andE (mE m_is_list 1 (consA (vE 0) nilA)) (opE eqA (callE lenN (consA (vE 0) nilA)) (vE 1))))
noncomputable def m_is_row : FM := runS 2 (g_is_row)
theorem ok_is_row {f : Addr} {fd : FuncData} (F : Fun K "is_row" "is_row" s_is_row f fd) (T : Tx K mg C tL) (c_is_list : Cal P w K mg base 1 "is_list" (spD (m_is_list) 1)) : FnOk P w K mg base CX0 2 f fd ["thing", "many"] (spD (m_is_row) 2) :=
  fn_D F sc_is_row fun cdv A outer s H hr => ⟨_, (pss_one (ps_ret (pe_and (pe_c c_is_list hr (by decide) (by rfl) (pa_cons (pv 0) pa_nil)) (pe_one (pe_cmpR op_eq (pe_callB call_lenA (by rfl) T.b_len (by decide +kernel) (pa_cons (pv 0) pa_nil)) (pv 1) (nomark _)))))), (rs_ret (re_and (re_fn (ra_cons re_v ra_nil)) (re_op rb_eq (re_call rc_len (ra_cons re_v ra_nil)) re_v)))⟩
abbrev s_is_name : Stmt := topS 6
theorem sc_is_name : FnScope ["thing", "sign"] ["thing"] (defScope s_is_name) := ⟨rfl, rfl, rfl, by decide +kernel, rfl, by decide +kernel, by decide +kernel⟩
noncomputable def g_is_name : FS := (retS (andE (isE ["str"] (vE 0)) (andE (chE ltA ltA (cE (.int 0)) (callE lenN (consA (vE 0) nilA)) (cE (.int 9))) (callE allN (consA (lcE (itF (vE 0)) (tgN 1) yesT (inE (vE 1) (cE (.str "abcdefghijklmnopqrstuvwxyz"))) [1]) nilA)))))
noncomputable def m_is_name : FM := runS 2 (g_is_name)
theorem ok_is_name {f : Addr} {fd : FuncData} (F : Fun K "is_name" "is_name" s_is_name f fd) (T : Tx K mg C tL) : FnOk P w K mg base CX0 1 f fd ["thing"] (spD (m_is_name) 1) :=
  fn_D F sc_is_name fun cdv A outer s H hr => ⟨_, (pss_one (ps_ret (pe_and (pe_callB call_isi (by rfl) T.b_isinstance (by decide +kernel) (pa_cons (pv 0) (pa_cons (pe_bltn (v := .ty "str") (u := .type "str") (by rfl) T.b_str (by decide +kernel) rfl) pa_nil))) (pe_and (pe_chain op_ltA op_ltA pe_int (pe_callB call_lenA (by rfl) T.b_len (by decide +kernel) (pa_cons (pv 0) pa_nil)) pe_int) (pe_one (pe_callB (cr_all rfl) (by rfl) T.b_all (by decide +kernel) (pa_cons (pe_lc (own := [("sign", 1)]) rfl sc_is_name.nd (pi_or (pi_list (pv 0)) (pi_or (pi_tup (pv 0)) (pi_str (pv 0)))) (blkOk_by (N := ["thing", "sign"]) (sc := defScope s_is_name) (by decide +kernel)) (fun _ _ _ _ _ => (pg_name (i := 1) sc_is_name.nd rfl (by first | exact Or.inl rfl | exact Or.inr rfl))) (fun _ _ _ _ _ => pts_nil) (fun _ _ _ _ _ => (pe_or2 (pe_cmpR (OpR.or op_in_seq op_in_sign) (pv 1) (pe_glob (v := .str "abcdefghijklmnopqrstuvwxyz") (by rfl) T.c_LETTERS ⟨_, rfl⟩) (by rfl)) (pe_cmp (pc_din (hu_of hr) (pv 1) (pe_glob (v := .str "abcdefghijklmnopqrstuvwxyz") (by rfl) T.c_LETTERS ⟨_, rfl⟩)))))) pa_nil))))))), (rs_ret (re_and (re_is1 (by decide) re_v) (re_and (re_chain rb_ltA rb_ltA re_int (re_call rc_len (ra_cons re_v ra_nil)) re_int) (re_call rc_all (ra_cons (RF.e (rf_lc (own := [1]) (ri_seq re_v) (rg_name (i := 1) (by decide)) rt_yes (re_in re_v re_str))) ra_nil)))))⟩
abbrev s_first_bad_row : Stmt := topS 16
theorem sc_first_bad_row : FnScope ["rows", "known", "index", "row"] ["rows"] (defScope s_first_bad_row) := ⟨rfl, rfl, rfl, by decide +kernel, rfl, by decide +kernel, by decide +kernel⟩
noncomputable def g_first_bad_row : FS := (seqS (ownS 1 (cE (.dic []))) (seqS (ifS (notT (bT (mE m_is_list 1 (consA (vE 0) nilA)))) (retS (cE (.int 0))) nextS) (seqS (forS (enA (consA (vE 0) nilA)) (tgT 2 (tgCons (tgN 2) (tgCons (tgN 3) tgNil))) (seqS (ifS (orT (notT (bT (mE m_is_row 2 (consA (vE 3) (consA (cE (.int 2)) nilA))))) (orT (notT (bT (mE m_is_name 1 (consA (subE (vE 3) (cE (.int 0))) nilA)))) (orT (bT (inOE (subE (vE 3) (cE (.int 0))) 1)) (notT (bT (mE m_is_number 1 (consA (subE (vE 3) (cE (.int 1))) nilA))))))) (retS (vE 2)) nextS) (dputS 1 (subE (vE 3) (cE (.int 0))) (cE (.bl true))))) (retS (cE .non)))))
noncomputable def m_first_bad_row : FM := runS 4 (g_first_bad_row)
theorem ok_first_bad_row {f : Addr} {fd : FuncData} (F : Fun K "first_bad_row" "first_bad_row" s_first_bad_row f fd) (T : Tx K mg C tL) (c_is_list : Cal P w K mg base 1 "is_list" (spD (m_is_list) 1)) (c_is_row : Cal P w K mg base 2 "is_row" (spD (m_is_row) 2)) (c_is_name : Cal P w K mg base 1 "is_name" (spD (m_is_name) 1)) (c_is_number : Cal P w K mg base 2 "is_number" (spD (m_is_number) 1)) : FnOk P w K mg base CX0 3 f fd ["rows"] (spD (m_first_bad_row) 1) :=
  fn_D F sc_first_bad_row fun cdv A outer s H hr => ⟨_, (pss_cons (ps_set (i := 1) sc_first_bad_row.nd rfl (by first | exact Or.inl rfl | exact Or.inr rfl) pe_dnewK) (pss_cons (ps_if (pt_not (pt_val (pe_c c_is_list hr (by decide) (by rfl) (pa_cons (pv 0) pa_nil)))) (pss_one (ps_ret pe_int)) pss_nil) (pss_cons (ps_for PassesOwn.never rfl (pi_enumA (by rfl) T.b_enumerate (pa_cons (pv 0) pa_nil)) (pg_tupK (K := K) rfl rfl (pgs_cons (pg_name (i := 2) sc_first_bad_row.nd rfl (by first | exact Or.inl rfl | exact Or.inr rfl)) (pgs_cons (pg_name (i := 3) sc_first_bad_row.nd rfl (by first | exact Or.inl rfl | exact Or.inr rfl)) pgs_nil))) (pss_cons (ps_if ((pw_or (pt_not (pt_val (pe_c c_is_row hr (by decide) (by rfl) (pa_cons (pv 3) (pa_cons pe_int pa_nil))))) (pw_or (pt_not (pt_val (pe_c c_is_name hr (by decide) (by rfl) (pa_cons (pe_or2 (pe_ix ix_seq (pv 3) pe_int (fun _ _ => rfl)) (pe_dget (hu_of hr) (pv 3) pe_int (fun _ _ => rfl))) pa_nil)))) (pw_or (pt_or (pt_cmpR (OpR.or op_in_seq op_in_sign) (pe_or2 (pe_ix ix_seq (pv 3) pe_int (fun _ _ => rfl)) (pe_dget (hu_of hr) (pv 3) pe_int (fun _ _ => rfl))) (pv 1) (by rfl)) (pt_cmp (pc_din (hu_of hr) (pe_or2 (pe_ix ix_seq (pv 3) pe_int (fun _ _ => rfl)) (pe_dget (hu_of hr) (pv 3) pe_int (fun _ _ => rfl))) (pv 1)))) (pw_or1 (pt_not (pt_val (pe_c c_is_number hr (by decide) (by rfl) (pa_cons (pe_or2 (pe_ix ix_seq (pv 3) pe_int (fun _ _ => rfl)) (pe_dget (hu_of hr) (pv 3) pe_int (fun _ _ => rfl))) pa_nil))))))))).pt (pss_one (ps_ret (pv 2))) pss_nil) (pss_one (ps_dput (hu_of hr) (pv 1) (pe_or2 (pe_ix ix_seq (pv 3) pe_int (fun _ _ => rfl)) (pe_dget (hu_of hr) (pv 3) pe_int (fun _ _ => rfl))) pe_bl rfl)))) (pss_one (ps_ret pe_non))))), (rs_seq (rs_own rf_dK) (rs_seq (rs_if (rt_not (rt_B (re_fn (ra_cons re_v ra_nil)))) (rs_ret re_int) rs_next) (rs_seq (rs_for (own := [2, 3]) (ri_enumA (ra_cons re_v ra_nil)) (rg_tup (rgs_cons (rg_name (i := 2) (by decide)) (rgs_cons (rg_name (i := 3) (by decide)) rgs_nil))) (rs_seq (rs_if (rt_or (rt_not (rt_B (re_fn (ra_cons re_v (ra_cons re_int ra_nil))))) (rt_or (rt_not (rt_B (re_fn (ra_cons (re_sub re_v re_int) ra_nil)))) (rt_or (rt_in2 (re_inO (re_sub re_v re_int))) (rt_not (rt_B (re_fn (ra_cons (re_sub re_v re_int) ra_nil))))))) (rs_ret re_v) rs_next) (rs_dput (re_sub re_v re_int) re_bl))) (rs_ret re_non))))⟩
abbrev s_Season_is_game : Stmt := inClass (topS 17) 1
theorem sc_Season_is_game : FnScope ["self", "thing", "team"] ["self", "thing"] (defScope s_Season_is_game) := ⟨rfl, rfl, rfl, by decide +kernel, rfl, by decide +kernel, by decide +kernel⟩
noncomputable def g_Season_is_game (C : Addr) : FS := (seqS (ifS (orT (notT (bT (mE m_is_row 2 (consA (vE 1) (consA (cE (.int 2)) nilA))))) (notT (bT (callE allN (consA (lcE (itF (vE 1)) (tgN 2) yesT (andE (isE ["str"] (vE 2)) (inE (vE 2) (fldE C "own_wins" (vE 0)))) [2]) nilA))))) (retS (cE (.bl false))) nextS) (retS (opE (notO eqA) (subE (vE 1) (cE (.int 0))) (subE (vE 1) (cE (.int 1))))))
noncomputable def m_Season_is_game (C : Addr) : FM := runS 3 (g_Season_is_game C)
theorem ok_Season_is_game {f : Addr} {fd : FuncData} (F : Fun K "is_game" "Season.is_game" s_Season_is_game f fd) (T : Tx K mg C tL) (c_is_row : Cal P w K mg base 2 "is_row" (spD (m_is_row) 2)) : FnOk P w K mg base CX0 3 f fd ["self", "thing"] (spD (m_Season_is_game C) 2) :=
  fn_D F sc_Season_is_game fun cdv A outer s H hr => ⟨_, (pss_cons (ps_if ((pw_or (pt_not (pt_val (pe_c c_is_row hr (by decide) (by rfl) (pa_cons (pv 1) (pa_cons pe_int pa_nil))))) (pw_or1 (pt_not (pt_val (pe_callB (cr_all rfl) (by rfl) T.b_all (by decide +kernel) (pa_cons (pe_lc (own := [("team", 2)]) rfl sc_Season_is_game.nd (pi_or (pi_list (pv 1)) (pi_or (pi_tup (pv 1)) (pi_str (pv 1)))) (blkOk_by (N := ["self", "thing", "team"]) (sc := defScope s_Season_is_game) (by decide +kernel)) (fun _ _ _ _ _ => (pg_name (i := 2) sc_Season_is_game.nd rfl (by first | exact Or.inl rfl | exact Or.inr rfl))) (fun _ _ _ _ _ => pts_nil) (fun _ _ _ _ _ => (pe_and (pe_callB call_isi (by rfl) T.b_isinstance (by decide +kernel) (pa_cons (pv 2) (pa_cons (pe_bltn (v := .ty "str") (u := .type "str") (by rfl) T.b_str (by decide +kernel) rfl) pa_nil))) (pe_one (pe_or2 (pe_cmpR (OpR.or op_in_seq op_in_sign) (pv 2) (pe_fld (pv 0) rfl) (by rfl)) (pe_cmp (pc_din (hu_of hr) (pv 2) (pe_fld (pv 0) rfl)))))))) pa_nil))))))).pt (pss_one (ps_ret pe_bl)) pss_nil) (pss_one (ps_ret (pe_cmpR op_ne (pe_or2 (pe_ix ix_seq (pv 1) pe_int (fun _ _ => rfl)) (pe_dget (hu_of hr) (pv 1) pe_int (fun _ _ => rfl))) (pe_or2 (pe_ix ix_seq (pv 1) pe_int (fun _ _ => rfl)) (pe_dget (hu_of hr) (pv 1) pe_int (fun _ _ => rfl))) (nomark _))))), (rs_seq (rs_if (rt_or (rt_not (rt_B (re_fn (ra_cons re_v (ra_cons re_int ra_nil))))) (rt_not (rt_B (re_call rc_all (ra_cons (RF.e (rf_lc (own := [2]) (ri_seq re_v) (rg_name (i := 2) (by decide)) rt_yes (re_and (re_is1 (by decide) re_v) (re_in re_v (re_fld T.cl T.na_own_wins re_v))))) ra_nil))))) (rs_ret re_bl) rs_next) (rs_ret (re_op rb_ne (re_sub re_v re_int) (re_sub re_v re_int))))⟩
abbrev s_Season_wins : Stmt := inClass (topS 17) 3
theorem sc_Season_wins : FnScope ["self", "team", "wins"] ["self"] (defScope s_Season_wins) := ⟨rfl, rfl, rfl, by decide +kernel, rfl, by decide +kernel, by decide +kernel⟩
noncomputable def g_Season_wins (C : Addr) : FS := (retS (dcE (itemsF (fldE C "own_wins" (vE 0))) (tgT 2 (tgCons (tgN 1) (tgCons (tgN 2) tgNil))) yesT (vE 1) (vE 2) [1, 2]))
noncomputable def m_Season_wins (C : Addr) : FM := runS 3 (g_Season_wins C)
theorem ok_Season_wins {f : Addr} {fd : FuncData} (F : Fun K "wins" "Season.wins" s_Season_wins f fd) (T : Tx K mg C tL) : FnOk P w K mg base CX0 1 f fd ["self"] (spD (m_Season_wins C) 1) :=
  fn_D F sc_Season_wins fun cdv A outer s H hr => ⟨_, (pss_one (ps_ret (pe_or2 (pe_lock (pe_dc (own := [("team", 1), ("wins", 2)]) rfl sc_Season_wins.nd (pi_items (pe_fld (pv 0) rfl)) (blkOk_by (N := ["self", "team", "wins"]) (sc := defScope s_Season_wins) (by decide +kernel)) (fun _ _ _ _ _ => (pg_tupK (K := K) rfl rfl (pgs_cons (pg_name (i := 1) sc_Season_wins.nd rfl (by first | exact Or.inl rfl | exact Or.inr rfl)) (pgs_cons (pg_name (i := 2) sc_Season_wins.nd rfl (by first | exact Or.inl rfl | exact Or.inr rfl)) pgs_nil)))) (fun _ _ _ _ _ => pts_nil) (fun _ _ _ _ _ => (pv 1)) (fun _ _ _ _ _ => (pv 2)))) (pe_dc (own := [("team", 1), ("wins", 2)]) rfl sc_Season_wins.nd (pi_items (pe_fld (pv 0) rfl)) (blkOk_by (N := ["self", "team", "wins"]) (sc := defScope s_Season_wins) (by decide +kernel)) (fun _ _ _ _ _ => (pg_tupK (K := K) rfl rfl (pgs_cons (pg_name (i := 1) sc_Season_wins.nd rfl (by first | exact Or.inl rfl | exact Or.inr rfl)) (pgs_cons (pg_name (i := 2) sc_Season_wins.nd rfl (by first | exact Or.inl rfl | exact Or.inr rfl)) pgs_nil)))) (fun _ _ _ _ _ => pts_nil) (fun _ _ _ _ _ => (pv 1)) (fun _ _ _ _ _ => (pv 2)))))), (rs_ret (RF.e (rf_dcW (own := [1, 2]) wd_items (rp_fld T.cl T.na_own_wins rp_v) (rg_tup (rgs_cons (rg_name (i := 1) (by decide)) (rgs_cons (rg_name (i := 2) (by decide)) rgs_nil))) rt_yes re_v re_v)))⟩
abbrev s_Season_games : Stmt := inClass (topS 17) 4
theorem sc_Season_games : FnScope ["self"] ["self"] (defScope s_Season_games) := ⟨rfl, rfl, rfl, by decide +kernel, rfl, by decide +kernel, by decide +kernel⟩
noncomputable def g_Season_games (C : Addr) : FS := (retS (callE listA (consA (fldE C "own_games" (vE 0)) nilA)))
noncomputable def m_Season_games (C : Addr) : FM := runS 1 (g_Season_games C)
theorem ok_Season_games {f : Addr} {fd : FuncData} (F : Fun K "games" "Season.games" s_Season_games f fd) (T : Tx K mg C tL) : FnOk P w K mg base CX0 1 f fd ["self"] (spD (m_Season_games C) 1) :=
  fn_D F sc_Season_games fun cdv A outer s H hr => ⟨_, (pss_one (ps_ret (pe_callTy (call_listA rfl) (by rfl) T.b_list (by decide +kernel) (pa_cons (pe_fld (pv 0) rfl) pa_nil)))), (rs_ret (RF.e (rf_call rcf_listA (ra_cons (re_fld T.cl T.na_own_games re_v) ra_nil))))⟩
abbrev s_check_season : Stmt := topS 20
theorem sc_check_season : FnScope ["season"] ["season"] (defScope s_check_season) := ⟨rfl, rfl, rfl, by decide +kernel, rfl, by decide +kernel, by decide +kernel⟩
noncomputable def g_check_season (C : Addr) : FS := (ifS (notT (bT (isCE C (vE 0)))) neverS nextS)
noncomputable def m_check_season (C : Addr) : FM := runS 1 (g_check_season C)
theorem ok_check_season {f : Addr} {fd : FuncData} (F : Fun K "check_season" "check_season" s_check_season f fd) (T : Tx K mg C tL) : FnOk P w K mg base CX0 1 f fd ["season"] (spD (m_check_season C) 1) :=
  fn_D F sc_check_season fun cdv A outer s H hr => ⟨_, (pss_one (ps_if (pt_not (pt_val (pe_callB call_isi (by rfl) T.b_isinstance (by decide +kernel) (pa_cons (pv 0) (pa_cons (pe_glob (v := .ref C) (by rfl) T.g_Season rfl) pa_nil))))) (pss_one ps_never) pss_nil)), (rs_if (rt_not (rt_B (re_isC T.ow re_v))) rs_never rs_next)⟩
abbrev s_fault_of_outcome : Stmt := topS 22
theorem sc_fault_of_outcome : FnScope ["season", "thing", "index", "team"] ["season", "thing"] (defScope s_fault_of_outcome) := ⟨rfl, rfl, rfl, by decide +kernel, rfl, by decide +kernel, by decide +kernel⟩
noncomputable def g_fault_of_outcome (C : Addr) : FS := (seqS (ifS (notT (bT (mE m_is_row 2 (consA (vE 1) (consA (callE lenN (consA (fldE C "own_games" (vE 0)) nilA)) nilA))))) (retS (tupE (consA (cE (.str "form")) nilA))) nextS) (seqS (forS (enA (consA (vE 1) nilA)) (tgT 2 (tgCons (tgN 2) (tgCons (tgN 3) tgNil))) (ifS (orT (notT (bT (isE ["str"] (vE 3)))) (bT (ninE (vE 3) (subE (fldE C "own_games" (vE 0)) (vE 2))))) (retS (tupE (consA (cE (.str "game")) (consA (vE 2) nilA)))) nextS)) (retS (cE .non))))
noncomputable def m_fault_of_outcome (C : Addr) : FM := runS 4 (g_fault_of_outcome C)
theorem ok_fault_of_outcome {f : Addr} {fd : FuncData} (F : Fun K "fault_of_outcome" "fault_of_outcome" s_fault_of_outcome f fd) (T : Tx K mg C tL) (c_is_row : Cal P w K mg base 2 "is_row" (spD (m_is_row) 2)) : FnOk P w K mg base CX0 3 f fd ["season", "thing"] (spD (m_fault_of_outcome C) 2) :=
  fn_D F sc_fault_of_outcome fun cdv A outer s H hr => ⟨_, (pss_cons (ps_if (pt_not (pt_val (pe_c c_is_row hr (by decide) (by rfl) (pa_cons (pv 1) (pa_cons (pe_callB call_lenA (by rfl) T.b_len (by decide +kernel) (pa_cons (pe_fld (pv 0) rfl) pa_nil)) pa_nil))))) (pss_one (ps_ret (pe_tup (pa_cons pe_str pa_nil)))) pss_nil) (pss_cons (ps_for PassesOwn.never rfl (pi_enumA (by rfl) T.b_enumerate (pa_cons (pv 1) pa_nil)) (pg_tupK (K := K) rfl rfl (pgs_cons (pg_name (i := 2) sc_fault_of_outcome.nd rfl (by first | exact Or.inl rfl | exact Or.inr rfl)) (pgs_cons (pg_name (i := 3) sc_fault_of_outcome.nd rfl (by first | exact Or.inl rfl | exact Or.inr rfl)) pgs_nil))) (pss_one (ps_if ((pw_or (pt_not (pt_val (pe_callB call_isi (by rfl) T.b_isinstance (by decide +kernel) (pa_cons (pv 3) (pa_cons (pe_bltn (v := .ty "str") (u := .type "str") (by rfl) T.b_str (by decide +kernel) rfl) pa_nil))))) (pw_or1 (pt_or (pt_cmpR (OpR.or op_notIn_seq op_notIn_sign) (pv 3) (pe_or2 (pe_ix ix_seq (pe_fld (pv 0) rfl) (pv 2) (fun _ _ => rfl)) (pe_dget (hu_of hr) (pe_fld (pv 0) rfl) (pv 2) (fun _ _ => rfl))) (by rfl)) (pt_cmp (pc_dnotin (hu_of hr) (pv 3) (pe_or2 (pe_ix ix_seq (pe_fld (pv 0) rfl) (pv 2) (fun _ _ => rfl)) (pe_dget (hu_of hr) (pe_fld (pv 0) rfl) (pv 2) (fun _ _ => rfl))))))))).pt (pss_one (ps_ret (pe_tup (pa_cons pe_str (pa_cons (pv 2) pa_nil))))) pss_nil))) (pss_one (ps_ret pe_non)))), (rs_seq (rs_if (rt_not (rt_B (re_fn (ra_cons re_v (ra_cons (re_call rc_len (ra_cons (re_fld T.cl T.na_own_games re_v) ra_nil)) ra_nil))))) (rs_ret (RF.e (rf_tup (ra_cons re_str ra_nil)))) rs_next) (rs_seq (rs_for (own := [2, 3]) (ri_enumA (ra_cons re_v ra_nil)) (rg_tup (rgs_cons (rg_name (i := 2) (by decide)) (rgs_cons (rg_name (i := 3) (by decide)) rgs_nil))) (rs_if (rt_or (rt_not (rt_B (re_is1 (by decide) re_v))) (rt_in2 (re_nin re_v (re_sub (re_fld T.cl T.na_own_games re_v) re_v)))) (rs_ret (RF.e (rf_tup (ra_cons re_str (ra_cons re_v ra_nil))))) rs_next)) (rs_ret re_non)))⟩
abbrev s_table_made : Stmt := topS 23
theorem sc_table_made : FnScope ["season", "outcome", "found", "team", "wins"] ["season", "outcome"] (defScope s_table_made) := ⟨rfl, rfl, rfl, by decide +kernel, rfl, by decide +kernel, by decide +kernel⟩
noncomputable def g_table_made (C : Addr) : FS := (seqS (ownS 2 (dcE (itemsF (fldE C "own_wins" (vE 0))) (tgT 2 (tgCons (tgN 3) (tgCons (tgN 4) tgNil))) yesT (vE 3) (vE 4) [3, 4])) (seqS (forS (itF (vE 1)) (tgN 3) (dputS 2 (vE 3) (opE addA (subOE 2 (vE 3)) (cE (.int 1))))) (giveQ 2 (retS (vE 2)))))
noncomputable def m_table_made (C : Addr) : FM := runS 5 (g_table_made C)
theorem ok_table_made {f : Addr} {fd : FuncData} (F : Fun K "table_made" "table_made" s_table_made f fd) (T : Tx K mg C tL) : FnOk P w K mg base CX0 1 f fd ["season", "outcome"] (spD (m_table_made C) 2) :=
  fn_D F sc_table_made fun cdv A outer s H hr => ⟨_, (pss_cons (ps_asgW (ps_setDc (i := 2) (own := [("team", 3), ("wins", 4)]) rfl sc_table_made.nd rfl rfl (sw_trueD rfl rfl rfl (by decide +kernel)) (pi_items (pe_fld (pv 0) rfl)) (blkOk_by (N := ["season", "outcome", "found", "team", "wins"]) (sc := defScope s_table_made) (by decide +kernel)) (fun _ _ _ _ _ => (pg_tupK (K := K) rfl rfl (pgs_cons (pg_name (i := 3) sc_table_made.nd rfl (by first | exact Or.inl rfl | exact Or.inr rfl)) (pgs_cons (pg_name (i := 4) sc_table_made.nd rfl (by first | exact Or.inl rfl | exact Or.inr rfl)) pgs_nil)))) (fun _ _ _ _ _ => pts_nil) (fun _ _ _ _ _ => (pv 3)) (fun _ _ _ _ _ => (pv 4)))) (pss_cons (ps_for PassesOwn.never rfl (pi_or (pi_list (pv 1)) (pi_or (pi_tup (pv 1)) (pi_str (pv 1)))) (pg_name (i := 3) sc_table_made.nd rfl (by first | exact Or.inl rfl | exact Or.inr rfl)) (pss_one (ps_dput (hu_of hr) (pv 2) (pv 3) (pe_op op_addA (pe_or2 (pe_ix ix_seq (pv 2) (pv 3) (fun _ _ => rfl)) (pe_dget (hu_of hr) (pv 2) (pv 3) (fun _ _ => rfl))) pe_int) rfl))) (pss_one (ps_ret (pv 2))))), (rs_seq (rs_own (rf_dcW (own := [3, 4]) wd_items (rp_fld T.cl T.na_own_wins rp_v) (rg_tup (rgs_cons (rg_name (i := 3) (by decide)) (rgs_cons (rg_name (i := 4) (by decide)) rgs_nil))) rt_yes re_v re_v)) (rs_seq (rs_for (own := [3]) (ri_seq re_v) (rg_name (i := 3) (by decide)) (rs_dput re_v (re_op rb_addA (re_subO re_v) re_int))) (rs_giveQ (rs_ret re_v))))⟩
abbrev s_is_bounds_of : Stmt := topS 25
theorem sc_is_bounds_of : FnScope ["season", "thing", "team", "pair"] ["season", "thing"] (defScope s_is_bounds_of) := ⟨rfl, rfl, rfl, by decide +kernel, rfl, by decide +kernel, by decide +kernel⟩
noncomputable def g_is_bounds_of (C : Addr) : FS := (seqS (ifS (orT (notT (bT (isE ["dict"] (vE 1)))) (bT (opE (notO eqA) (callE lenN (consA (vE 1) nilA)) (callE lenN (consA (fldE C "own_wins" (vE 0)) nilA))))) (retS (cE (.bl false))) nextS) (seqS (ifS (notT (bT (callE allN (consA (lcE (keysF (vE 1)) (tgN 2) yesT (andE (isE ["str"] (vE 2)) (inE (vE 2) (fldE C "own_wins" (vE 0)))) [2]) nilA)))) (retS (cE (.bl false))) nextS) (retS (callE allN (consA (lcE (valsF (vE 1)) (tgN 3) yesT (andE (mE m_is_row 2 (consA (vE 3) (consA (cE (.int 2)) nilA))) (andE (mE m_is_number 1 (consA (subE (vE 3) (cE (.int 0))) nilA)) (andE (mE m_is_number 1 (consA (subE (vE 3) (cE (.int 1))) nilA)) (opE leI (subE (vE 3) (cE (.int 0))) (subE (vE 3) (cE (.int 1))))))) [3]) nilA)))))
noncomputable def m_is_bounds_of (C : Addr) : FM := runS 4 (g_is_bounds_of C)
theorem ok_is_bounds_of {f : Addr} {fd : FuncData} (F : Fun K "is_bounds_of" "is_bounds_of" s_is_bounds_of f fd) (T : Tx K mg C tL) (c_is_row : Cal P w K mg base 2 "is_row" (spD (m_is_row) 2)) (c_is_number : Cal P w K mg base 2 "is_number" (spD (m_is_number) 1)) : FnOk P w K mg base CX0 3 f fd ["season", "thing"] (spD (m_is_bounds_of C) 2) :=
  fn_D F sc_is_bounds_of fun cdv A outer s H hr => ⟨_, (pss_cons (ps_if ((pw_or (pt_not (pt_val (pe_callB call_isi (by rfl) T.b_isinstance (by decide +kernel) (pa_cons (pv 1) (pa_cons (pe_bltn (v := .ty "dict") (u := .type "dict") (by rfl) T.b_dict (by decide +kernel) rfl) pa_nil))))) (pw_or1 (pt_cmpR op_ne (pe_callB call_lenA (by rfl) T.b_len (by decide +kernel) (pa_cons (pv 1) pa_nil)) (pe_callB call_lenA (by rfl) T.b_len (by decide +kernel) (pa_cons (pe_fld (pv 0) rfl) pa_nil)) (nomark _))))).pt (pss_one (ps_ret pe_bl)) pss_nil) (pss_cons (ps_if (pt_not (pt_val (pe_callB (cr_all rfl) (by rfl) T.b_all (by decide +kernel) (pa_cons (pe_or2 (pe_lock (pe_lc (own := [("team", 2)]) rfl sc_is_bounds_of.nd (pi_keys (pv 1)) (blkOk_by (N := ["season", "thing", "team", "pair"]) (sc := defScope s_is_bounds_of) (by decide +kernel)) (fun _ _ _ _ _ => (pg_name (i := 2) sc_is_bounds_of.nd rfl (by first | exact Or.inl rfl | exact Or.inr rfl))) (fun _ _ _ _ _ => pts_nil) (fun _ _ _ _ _ => (pe_and (pe_callB call_isi (by rfl) T.b_isinstance (by decide +kernel) (pa_cons (pv 2) (pa_cons (pe_bltn (v := .ty "str") (u := .type "str") (by rfl) T.b_str (by decide +kernel) rfl) pa_nil))) (pe_one (pe_or2 (pe_cmpR (OpR.or op_in_seq op_in_sign) (pv 2) (pe_fld (pv 0) rfl) (by rfl)) (pe_cmp (pc_din (hu_of hr) (pv 2) (pe_fld (pv 0) rfl))))))))) (pe_lc (own := [("team", 2)]) rfl sc_is_bounds_of.nd (pi_keys (pv 1)) (blkOk_by (N := ["season", "thing", "team", "pair"]) (sc := defScope s_is_bounds_of) (by decide +kernel)) (fun _ _ _ _ _ => (pg_name (i := 2) sc_is_bounds_of.nd rfl (by first | exact Or.inl rfl | exact Or.inr rfl))) (fun _ _ _ _ _ => pts_nil) (fun _ _ _ _ _ => (pe_and (pe_callB call_isi (by rfl) T.b_isinstance (by decide +kernel) (pa_cons (pv 2) (pa_cons (pe_bltn (v := .ty "str") (u := .type "str") (by rfl) T.b_str (by decide +kernel) rfl) pa_nil))) (pe_one (pe_or2 (pe_cmpR (OpR.or op_in_seq op_in_sign) (pv 2) (pe_fld (pv 0) rfl) (by rfl)) (pe_cmp (pc_din (hu_of hr) (pv 2) (pe_fld (pv 0) rfl))))))))) pa_nil)))) (pss_one (ps_ret pe_bl)) pss_nil) (pss_one (ps_ret (pe_callB (cr_all rfl) (by rfl) T.b_all (by decide +kernel) (pa_cons (pe_or2 (pe_lock (pe_lc (own := [("pair", 3)]) rfl sc_is_bounds_of.nd (pi_values (pv 1)) (blkOk_by (N := ["season", "thing", "team", "pair"]) (sc := defScope s_is_bounds_of) (by decide +kernel)) (fun _ _ _ _ _ => (pg_name (i := 3) sc_is_bounds_of.nd rfl (by first | exact Or.inl rfl | exact Or.inr rfl))) (fun _ _ _ _ _ => pts_nil) (fun _ _ _ _ _ => (pe_and (pe_c c_is_row hr (by decide) (by rfl) (pa_cons (pv 3) (pa_cons pe_int pa_nil))) (pe_and (pe_c c_is_number hr (by decide) (by rfl) (pa_cons (pe_or2 (pe_ix ix_seq (pv 3) pe_int (fun _ _ => rfl)) (pe_dget (hu_of hr) (pv 3) pe_int (fun _ _ => rfl))) pa_nil)) (pe_and (pe_c c_is_number hr (by decide) (by rfl) (pa_cons (pe_or2 (pe_ix ix_seq (pv 3) pe_int (fun _ _ => rfl)) (pe_dget (hu_of hr) (pv 3) pe_int (fun _ _ => rfl))) pa_nil)) (pe_one (pe_cmpR op_le (pe_or2 (pe_ix ix_seq (pv 3) pe_int (fun _ _ => rfl)) (pe_dget (hu_of hr) (pv 3) pe_int (fun _ _ => rfl))) (pe_or2 (pe_ix ix_seq (pv 3) pe_int (fun _ _ => rfl)) (pe_dget (hu_of hr) (pv 3) pe_int (fun _ _ => rfl))) (nomark _))))))))) (pe_lc (own := [("pair", 3)]) rfl sc_is_bounds_of.nd (pi_values (pv 1)) (blkOk_by (N := ["season", "thing", "team", "pair"]) (sc := defScope s_is_bounds_of) (by decide +kernel)) (fun _ _ _ _ _ => (pg_name (i := 3) sc_is_bounds_of.nd rfl (by first | exact Or.inl rfl | exact Or.inr rfl))) (fun _ _ _ _ _ => pts_nil) (fun _ _ _ _ _ => (pe_and (pe_c c_is_row hr (by decide) (by rfl) (pa_cons (pv 3) (pa_cons pe_int pa_nil))) (pe_and (pe_c c_is_number hr (by decide) (by rfl) (pa_cons (pe_or2 (pe_ix ix_seq (pv 3) pe_int (fun _ _ => rfl)) (pe_dget (hu_of hr) (pv 3) pe_int (fun _ _ => rfl))) pa_nil)) (pe_and (pe_c c_is_number hr (by decide) (by rfl) (pa_cons (pe_or2 (pe_ix ix_seq (pv 3) pe_int (fun _ _ => rfl)) (pe_dget (hu_of hr) (pv 3) pe_int (fun _ _ => rfl))) pa_nil)) (pe_one (pe_cmpR op_le (pe_or2 (pe_ix ix_seq (pv 3) pe_int (fun _ _ => rfl)) (pe_dget (hu_of hr) (pv 3) pe_int (fun _ _ => rfl))) (pe_or2 (pe_ix ix_seq (pv 3) pe_int (fun _ _ => rfl)) (pe_dget (hu_of hr) (pv 3) pe_int (fun _ _ => rfl))) (nomark _))))))))) pa_nil)))))), (rs_seq (rs_if (rt_or (rt_not (rt_B (re_is1 (by decide) re_v))) (rt_test (re_op rb_ne (re_call rc_len (ra_cons re_v ra_nil)) (re_call rc_len (ra_cons (re_fld T.cl T.na_own_wins re_v) ra_nil))))) (rs_ret re_bl) rs_next) (rs_seq (rs_if (rt_not (rt_B (re_call rc_all (ra_cons (RF.e (rf_lcK (own := [2]) rp_v (rg_name (i := 2) (by decide)) rt_yes (re_and (re_is1 (by decide) re_v) (re_in re_v (re_fld T.cl T.na_own_wins re_v))))) ra_nil)))) (rs_ret re_bl) rs_next) (rs_ret (re_call rc_all (ra_cons (RF.e (rf_lcW (own := [3]) wd_vals rp_v (rg_name (i := 3) (by decide)) rt_yes (re_and (re_fn (ra_cons re_v (ra_cons re_int ra_nil))) (re_and (re_fn (ra_cons (re_sub re_v re_int) ra_nil)) (re_and (re_fn (ra_cons (re_sub re_v re_int) ra_nil)) (re_op rb_le (re_sub re_v re_int) (re_sub re_v re_int))))))) ra_nil)))))⟩
abbrev s_check_bounds : Stmt := topS 26
theorem sc_check_bounds : FnScope ["season", "bounds"] ["season", "bounds"] (defScope s_check_bounds) := ⟨rfl, rfl, rfl, by decide +kernel, rfl, by decide +kernel, by decide +kernel⟩
noncomputable def g_check_bounds (C : Addr) : FS := (seqS (dropS (mE (m_check_season C) 1 (consA (vE 0) nilA))) (ifS (notT (bT (mE (m_is_bounds_of C) 2 (consA (vE 0) (consA (vE 1) nilA))))) neverS nextS))
noncomputable def m_check_bounds (C : Addr) : FM := runS 2 (g_check_bounds C)
theorem ok_check_bounds {f : Addr} {fd : FuncData} (F : Fun K "check_bounds" "check_bounds" s_check_bounds f fd) (T : Tx K mg C tL) (c_check_season : Cal P w K mg base 1 "check_season" (spD (m_check_season C) 1)) (c_is_bounds_of : Cal P w K mg base 3 "is_bounds_of" (spD (m_is_bounds_of C) 2)) : FnOk P w K mg base CX0 4 f fd ["season", "bounds"] (spD (m_check_bounds C) 2) :=
  fn_D F sc_check_bounds fun cdv A outer s H hr => ⟨_, (pss_cons (ps_expr (pe_c c_check_season hr (by decide) (by rfl) (pa_cons (pv 0) pa_nil))) (pss_one (ps_if (pt_not (pt_val (pe_c c_is_bounds_of hr (by decide) (by rfl) (pa_cons (pv 0) (pa_cons (pv 1) pa_nil))))) (pss_one ps_never) pss_nil))), (rs_seq (rs_drop (re_fn (ra_cons re_v ra_nil))) (rs_if (rt_not (rt_B (re_fn (ra_cons re_v (ra_cons re_v ra_nil))))) rs_never rs_next))⟩
abbrev s_other_of : Stmt := topS 27
theorem sc_other_of : FnScope ["season", "index", "team", "one", "other"] ["season", "index", "team"] (defScope s_other_of) := ⟨rfl, rfl, rfl, by decide +kernel, rfl, by decide +kernel, by decide +kernel⟩
noncomputable def g_other_of (C : Addr) : FS := (seqS (asgS (subE (fldE C "own_games" (vE 0)) (vE 1)) (tgT 2 (tgCons (tgN 3) (tgCons (tgN 4) tgNil)))) (retS (ifE (bT (opE eqA (vE 2) (vE 3))) (vE 4) (vE 3))))
noncomputable def m_other_of (C : Addr) : FM := runS 5 (g_other_of C)
theorem ok_other_of {f : Addr} {fd : FuncData} (F : Fun K "other_of" "other_of" s_other_of f fd) (T : Tx K mg C tL) : FnOk P w K mg base CX0 1 f fd ["season", "index", "team"] (spD (m_other_of C) 3) :=
  fn_D F sc_other_of fun cdv A outer s H hr => ⟨_, (pss_cons (ps_asg (pe_or2 (pe_ix ix_seq (pe_fld (pv 0) rfl) (pv 1) (fun _ _ => rfl)) (pe_dget (hu_of hr) (pe_fld (pv 0) rfl) (pv 1) (fun _ _ => rfl))) (pg_tupK (K := K) rfl rfl (pgs_cons (pg_name (i := 3) sc_other_of.nd rfl (by first | exact Or.inl rfl | exact Or.inr rfl)) (pgs_cons (pg_name (i := 4) sc_other_of.nd rfl (by first | exact Or.inl rfl | exact Or.inr rfl)) pgs_nil)))) (pss_one (ps_ret (pe_ifExp (pt_cmpR op_eq (pv 2) (pv 3) (nomark _)) (pv 4) (pv 3))))), (rs_seq (rs_asg (own := [3, 4]) (re_sub (re_fld T.cl T.na_own_games re_v) re_v) (rg_tup (rgs_cons (rg_name (i := 3) (by decide)) (rgs_cons (rg_name (i := 4) (by decide)) rgs_nil)))) (rs_ret (re_if (rt_test (re_op rb_eq re_v re_v)) re_v re_v)))⟩
abbrev s_cost_of : Stmt := topS 33
theorem sc_cost_of : FnScope ["outcome", "forecast", "prices", "index", "team"] ["outcome", "forecast", "prices"] (defScope s_cost_of) := ⟨rfl, rfl, rfl, by decide +kernel, rfl, by decide +kernel, by decide +kernel⟩
noncomputable def g_cost_of : FS := (retS (callE sumN (consA (lcE (enA (consA (vE 0) nilA)) (tgT 2 (tgCons (tgN 3) (tgCons (tgN 4) tgNil))) (bT (opE (notO eqA) (vE 4) (subE (vE 1) (vE 3)))) (subE (vE 2) (vE 3)) [3, 4]) nilA)))
noncomputable def m_cost_of : FM := runS 5 (g_cost_of)
theorem ok_cost_of {f : Addr} {fd : FuncData} (F : Fun K "cost_of" "cost_of" s_cost_of f fd) (T : Tx K mg C tL) : FnOk P w K mg base CX0 1 f fd ["outcome", "forecast", "prices"] (spD (m_cost_of) 3) :=
  fn_D F sc_cost_of fun cdv A outer s H hr => ⟨_, (pss_one (ps_ret (pe_callB (cr_sum rfl) (by rfl) T.b_sum (by decide +kernel) (pa_cons (pe_lc (own := [("index", 3), ("team", 4)]) rfl sc_cost_of.nd (pi_enumA (by rfl) T.b_enumerate (pa_cons (pv 0) pa_nil)) (blkOk_by (N := ["outcome", "forecast", "prices", "index", "team"]) (sc := defScope s_cost_of) (by decide +kernel)) (fun _ _ _ _ _ => (pg_tupK (K := K) rfl rfl (pgs_cons (pg_name (i := 3) sc_cost_of.nd rfl (by first | exact Or.inl rfl | exact Or.inr rfl)) (pgs_cons (pg_name (i := 4) sc_cost_of.nd rfl (by first | exact Or.inl rfl | exact Or.inr rfl)) pgs_nil)))) (fun _ _ _ _ _ => (pts_one (pt_cmpR op_ne (pv 4) (pe_or2 (pe_ix ix_seq (pv 1) (pv 3) (fun _ _ => rfl)) (pe_dget (hu_of hr) (pv 1) (pv 3) (fun _ _ => rfl))) (nomark _)))) (fun _ _ _ _ _ => (pe_or2 (pe_ix ix_seq (pv 2) (pv 3) (fun _ _ => rfl)) (pe_dget (hu_of hr) (pv 2) (pv 3) (fun _ _ => rfl))))) pa_nil)))), (rs_ret (re_call rc_sum (ra_cons (RF.e (rf_lc (own := [3, 4]) (ri_enumA (ra_cons re_v ra_nil)) (rg_tup (rgs_cons (rg_name (i := 3) (by decide)) (rgs_cons (rg_name (i := 4) (by decide)) rgs_nil))) (rt_test (re_op rb_ne re_v (re_sub re_v re_v))) (re_sub re_v re_v))) ra_nil)))⟩
abbrev s_check_forecast : Stmt := topS 35
theorem sc_check_forecast : FnScope ["season", "forecast", "prices", "price"] ["season", "forecast", "prices"] (defScope s_check_forecast) := ⟨rfl, rfl, rfl, by decide +kernel, rfl, by decide +kernel, by decide +kernel⟩
noncomputable def g_check_forecast (C : Addr) : FS := (seqS (dropS (mE (m_check_season C) 1 (consA (vE 0) nilA))) (seqS (ifS (bT (notNE (mE (m_fault_of_outcome C) 2 (consA (vE 0) (consA (vE 1) nilA))))) neverS nextS) (ifS (orT (notT (bT (mE m_is_row 2 (consA (vE 2) (consA (callE lenN (consA (fldE C "own_games" (vE 0)) nilA)) nilA))))) (notT (bT (callE allN (consA (lcE (itF (vE 2)) (tgN 3) yesT (mE m_is_number 1 (consA (vE 3) nilA)) [3]) nilA))))) neverS nextS)))
noncomputable def m_check_forecast (C : Addr) : FM := runS 4 (g_check_forecast C)
theorem ok_check_forecast {f : Addr} {fd : FuncData} (F : Fun K "check_forecast" "check_forecast" s_check_forecast f fd) (T : Tx K mg C tL) (c_check_season : Cal P w K mg base 1 "check_season" (spD (m_check_season C) 1)) (c_fault_of_outcome : Cal P w K mg base 3 "fault_of_outcome" (spD (m_fault_of_outcome C) 2)) (c_is_row : Cal P w K mg base 2 "is_row" (spD (m_is_row) 2)) (c_is_number : Cal P w K mg base 2 "is_number" (spD (m_is_number) 1)) : FnOk P w K mg base CX0 4 f fd ["season", "forecast", "prices"] (spD (m_check_forecast C) 3) :=
  fn_D F sc_check_forecast fun cdv A outer s H hr => ⟨_, (pss_cons (ps_expr (pe_c c_check_season hr (by decide) (by rfl) (pa_cons (pv 0) pa_nil))) (pss_cons (ps_if (pt_cmp (pc_notN (pe_c c_fault_of_outcome hr (by decide) (by rfl) (pa_cons (pv 0) (pa_cons (pv 1) pa_nil))))) (pss_one ps_never) pss_nil) (pss_one (ps_if ((pw_or (pt_not (pt_val (pe_c c_is_row hr (by decide) (by rfl) (pa_cons (pv 2) (pa_cons (pe_callB call_lenA (by rfl) T.b_len (by decide +kernel) (pa_cons (pe_fld (pv 0) rfl) pa_nil)) pa_nil))))) (pw_or1 (pt_not (pt_val (pe_callB (cr_all rfl) (by rfl) T.b_all (by decide +kernel) (pa_cons (pe_lc (own := [("price", 3)]) rfl sc_check_forecast.nd (pi_or (pi_list (pv 2)) (pi_or (pi_tup (pv 2)) (pi_str (pv 2)))) (blkOk_by (N := ["season", "forecast", "prices", "price"]) (sc := defScope s_check_forecast) (by decide +kernel)) (fun _ _ _ _ _ => (pg_name (i := 3) sc_check_forecast.nd rfl (by first | exact Or.inl rfl | exact Or.inr rfl))) (fun _ _ _ _ _ => pts_nil) (fun _ _ _ _ _ => (pe_c c_is_number hr (by decide) (by rfl) (pa_cons (pv 3) pa_nil)))) pa_nil))))))).pt (pss_one ps_never) pss_nil)))), (rs_seq (rs_drop (re_fn (ra_cons re_v ra_nil))) (rs_seq (rs_if (rt_B (re_notN (re_fn (ra_cons re_v (ra_cons re_v ra_nil))))) rs_never rs_next) (rs_if (rt_or (rt_not (rt_B (re_fn (ra_cons re_v (ra_cons (re_call rc_len (ra_cons (re_fld T.cl T.na_own_games re_v) ra_nil)) ra_nil))))) (rt_not (rt_B (re_call rc_all (ra_cons (RF.e (rf_lc (own := [3]) (ri_seq re_v) (rg_name (i := 3) (by decide)) rt_yes (re_fn (ra_cons re_v ra_nil)))) ra_nil))))) rs_never rs_next)))⟩
abbrev s_check_task : Stmt := topS 36
theorem sc_check_task : FnScope ["season", "bounds", "forecast", "prices"] ["season", "bounds", "forecast", "prices"] (defScope s_check_task) := ⟨rfl, rfl, rfl, by decide +kernel, rfl, by decide +kernel, by decide +kernel⟩
noncomputable def g_check_task (C : Addr) : FS := (seqS (dropS (mE (m_check_bounds C) 2 (consA (vE 0) (consA (vE 1) nilA)))) (dropS (mE (m_check_forecast C) 3 (consA (vE 0) (consA (vE 2) (consA (vE 3) nilA))))))
noncomputable def m_check_task (C : Addr) : FM := runS 4 (g_check_task C)
theorem ok_check_task {f : Addr} {fd : FuncData} (F : Fun K "check_task" "check_task" s_check_task f fd) (T : Tx K mg C tL) (c_check_bounds : Cal P w K mg base 4 "check_bounds" (spD (m_check_bounds C) 2)) (c_check_forecast : Cal P w K mg base 4 "check_forecast" (spD (m_check_forecast C) 3)) : FnOk P w K mg base CX0 5 f fd ["season", "bounds", "forecast", "prices"] (spD (m_check_task C) 4) :=
  fn_D F sc_check_task fun cdv A outer s H hr => ⟨_, (pss_cons (ps_expr (pe_c c_check_bounds hr (by decide) (by rfl) (pa_cons (pv 0) (pa_cons (pv 1) pa_nil)))) (pss_one (ps_expr (pe_c c_check_forecast hr (by decide) (by rfl) (pa_cons (pv 0) (pa_cons (pv 2) (pa_cons (pv 3) pa_nil))))))), (rs_seq (rs_drop (re_fn (ra_cons re_v (ra_cons re_v ra_nil)))) (rs_drop (re_fn (ra_cons re_v (ra_cons re_v (ra_cons re_v ra_nil))))))⟩
abbrev s_cost : Stmt := topS 37
theorem sc_cost : FnScope ["season", "forecast", "prices", "outcome"] ["season", "forecast", "prices", "outcome"] (defScope s_cost) := ⟨rfl, rfl, rfl, by decide +kernel, rfl, by decide +kernel, by decide +kernel⟩
noncomputable def g_cost (C : Addr) : FS := (seqS (dropS (mE (m_check_forecast C) 3 (consA (vE 0) (consA (vE 1) (consA (vE 2) nilA))))) (seqS (ifS (bT (notNE (mE (m_fault_of_outcome C) 2 (consA (vE 0) (consA (vE 3) nilA))))) neverS nextS) (retS (mE m_cost_of 3 (consA (vE 3) (consA (vE 1) (consA (vE 2) nilA)))))))
noncomputable def m_cost (C : Addr) : FM := runS 4 (g_cost C)
theorem ok_cost {f : Addr} {fd : FuncData} (F : Fun K "cost" "cost" s_cost f fd) (T : Tx K mg C tL) (c_check_forecast : Cal P w K mg base 4 "check_forecast" (spD (m_check_forecast C) 3)) (c_fault_of_outcome : Cal P w K mg base 3 "fault_of_outcome" (spD (m_fault_of_outcome C) 2)) (c_cost_of : Cal P w K mg base 1 "cost_of" (spD (m_cost_of) 3)) : FnOk P w K mg base CX0 5 f fd ["season", "forecast", "prices", "outcome"] (spD (m_cost C) 4) :=
  fn_D F sc_cost fun cdv A outer s H hr => ⟨_, (pss_cons (ps_expr (pe_c c_check_forecast hr (by decide) (by rfl) (pa_cons (pv 0) (pa_cons (pv 1) (pa_cons (pv 2) pa_nil))))) (pss_cons (ps_if (pt_cmp (pc_notN (pe_c c_fault_of_outcome hr (by decide) (by rfl) (pa_cons (pv 0) (pa_cons (pv 3) pa_nil))))) (pss_one ps_never) pss_nil) (pss_one (ps_ret (pe_c c_cost_of hr (by decide) (by rfl) (pa_cons (pv 3) (pa_cons (pv 1) (pa_cons (pv 2) pa_nil)))))))), (rs_seq (rs_drop (re_fn (ra_cons re_v (ra_cons re_v (ra_cons re_v ra_nil))))) (rs_seq (rs_if (rt_B (re_notN (re_fn (ra_cons re_v (ra_cons re_v ra_nil))))) rs_never rs_next) (rs_ret (re_fn (ra_cons re_v (ra_cons re_v (ra_cons re_v ra_nil)))))))⟩
abbrev s_are_pulls : Stmt := topS 38
theorem sc_are_pulls : FnScope ["season", "thing", "team"] ["season", "thing"] (defScope s_are_pulls) := ⟨rfl, rfl, rfl, by decide +kernel, rfl, by decide +kernel, by decide +kernel⟩
noncomputable def g_are_pulls (C : Addr) : FS := (seqS (ifS (orT (notT (bT (isE ["dict"] (vE 1)))) (bT (opE (notO eqA) (callE lenN (consA (vE 1) nilA)) (callE lenN (consA (fldE C "own_wins" (vE 0)) nilA))))) (retS (cE (.bl false))) nextS) (retS (callE allN (consA (lcE (keysF (vE 1)) (tgN 2) yesT (andE (isE ["str"] (vE 2)) (andE (inE (vE 2) (fldE C "own_wins" (vE 0))) (mE m_is_whole 1 (consA (subE (vE 1) (vE 2)) nilA)))) [2]) nilA))))
noncomputable def m_are_pulls (C : Addr) : FM := runS 3 (g_are_pulls C)
theorem ok_are_pulls {f : Addr} {fd : FuncData} (F : Fun K "are_pulls" "are_pulls" s_are_pulls f fd) (T : Tx K mg C tL) (c_is_whole : Cal P w K mg base 1 "is_whole" (spD (m_is_whole) 1)) : FnOk P w K mg base CX0 2 f fd ["season", "thing"] (spD (m_are_pulls C) 2) :=
  fn_D F sc_are_pulls fun cdv A outer s H hr => ⟨_, (pss_cons (ps_if ((pw_or (pt_not (pt_val (pe_callB call_isi (by rfl) T.b_isinstance (by decide +kernel) (pa_cons (pv 1) (pa_cons (pe_bltn (v := .ty "dict") (u := .type "dict") (by rfl) T.b_dict (by decide +kernel) rfl) pa_nil))))) (pw_or1 (pt_cmpR op_ne (pe_callB call_lenA (by rfl) T.b_len (by decide +kernel) (pa_cons (pv 1) pa_nil)) (pe_callB call_lenA (by rfl) T.b_len (by decide +kernel) (pa_cons (pe_fld (pv 0) rfl) pa_nil)) (nomark _))))).pt (pss_one (ps_ret pe_bl)) pss_nil) (pss_one (ps_ret (pe_callB (cr_all rfl) (by rfl) T.b_all (by decide +kernel) (pa_cons (pe_or2 (pe_lock (pe_lc (own := [("team", 2)]) rfl sc_are_pulls.nd (pi_keys (pv 1)) (blkOk_by (N := ["season", "thing", "team"]) (sc := defScope s_are_pulls) (by decide +kernel)) (fun _ _ _ _ _ => (pg_name (i := 2) sc_are_pulls.nd rfl (by first | exact Or.inl rfl | exact Or.inr rfl))) (fun _ _ _ _ _ => pts_nil) (fun _ _ _ _ _ => (pe_and (pe_callB call_isi (by rfl) T.b_isinstance (by decide +kernel) (pa_cons (pv 2) (pa_cons (pe_bltn (v := .ty "str") (u := .type "str") (by rfl) T.b_str (by decide +kernel) rfl) pa_nil))) (pe_and (pe_or2 (pe_cmpR (OpR.or op_in_seq op_in_sign) (pv 2) (pe_fld (pv 0) rfl) (by rfl)) (pe_cmp (pc_din (hu_of hr) (pv 2) (pe_fld (pv 0) rfl)))) (pe_one (pe_c c_is_whole hr (by decide) (by rfl) (pa_cons (pe_or2 (pe_ix ix_seq (pv 1) (pv 2) (fun _ _ => rfl)) (pe_dget (hu_of hr) (pv 1) (pv 2) (fun _ _ => rfl))) pa_nil)))))))) (pe_lc (own := [("team", 2)]) rfl sc_are_pulls.nd (pi_keys (pv 1)) (blkOk_by (N := ["season", "thing", "team"]) (sc := defScope s_are_pulls) (by decide +kernel)) (fun _ _ _ _ _ => (pg_name (i := 2) sc_are_pulls.nd rfl (by first | exact Or.inl rfl | exact Or.inr rfl))) (fun _ _ _ _ _ => pts_nil) (fun _ _ _ _ _ => (pe_and (pe_callB call_isi (by rfl) T.b_isinstance (by decide +kernel) (pa_cons (pv 2) (pa_cons (pe_bltn (v := .ty "str") (u := .type "str") (by rfl) T.b_str (by decide +kernel) rfl) pa_nil))) (pe_and (pe_or2 (pe_cmpR (OpR.or op_in_seq op_in_sign) (pv 2) (pe_fld (pv 0) rfl) (by rfl)) (pe_cmp (pc_din (hu_of hr) (pv 2) (pe_fld (pv 0) rfl)))) (pe_one (pe_c c_is_whole hr (by decide) (by rfl) (pa_cons (pe_or2 (pe_ix ix_seq (pv 1) (pv 2) (fun _ _ => rfl)) (pe_dget (hu_of hr) (pv 1) (pv 2) (fun _ _ => rfl))) pa_nil)))))))) pa_nil))))), (rs_seq (rs_if (rt_or (rt_not (rt_B (re_is1 (by decide) re_v))) (rt_test (re_op rb_ne (re_call rc_len (ra_cons re_v ra_nil)) (re_call rc_len (ra_cons (re_fld T.cl T.na_own_wins re_v) ra_nil))))) (rs_ret re_bl) rs_next) (rs_ret (re_call rc_all (ra_cons (RF.e (rf_lcK (own := [2]) rp_v (rg_name (i := 2) (by decide)) rt_yes (re_and (re_is1 (by decide) re_v) (re_and (re_in re_v (re_fld T.cl T.na_own_wins re_v)) (re_fn (ra_cons (re_sub re_v re_v) ra_nil)))))) ra_nil))))⟩
abbrev s_bill_of : Stmt := topS 39
theorem sc_bill_of : FnScope ["season", "bounds", "forecast", "prices", "pulls", "table", "found", "team", "pull", "index", "winner"] ["season", "bounds", "forecast", "prices", "pulls"] (defScope s_bill_of) := ⟨rfl, rfl, rfl, by decide +kernel, rfl, by decide +kernel, by decide +kernel⟩
noncomputable def g_bill_of (C : Addr) : FS := (seqS (parvvS 5 6 (mE (m_table_made C) 2 (consA (vE 0) (consA (vE 2) nilA))) (cE (.int 0))) (seqS (forS (itemsF (vE 4)) (tgT 2 (tgCons (tgN 7) (tgCons (tgN 8) tgNil))) (setS 6 (opE addA (vE 6) (opE mulA (vE 8) (opE subI (subE (subE (vE 1) (vE 7)) (ifE (bT (opE geI (vE 8) (cE (.int 0)))) (cE (.int 0)) (cE (.int 1)))) (subE (vE 5) (vE 7))))))) (seqS (forS (enA (consA (vE 2) nilA)) (tgT 2 (tgCons (tgN 9) (tgCons (tgN 10) tgNil))) (setS 6 (opE addA (vE 6) (callE min2N (consA (cE (.int 0)) (consA (opE subI (opE addA (subE (vE 3) (vE 9)) (subE (vE 4) (vE 10))) (subE (vE 4) (mE (m_other_of C) 3 (consA (vE 0) (consA (vE 9) (consA (vE 10) nilA)))))) nilA)))))) (retS (vE 6)))))
noncomputable def m_bill_of (C : Addr) : FM := runS 11 (g_bill_of C)
theorem ok_bill_of {f : Addr} {fd : FuncData} (F : Fun K "bill_of" "bill_of" s_bill_of f fd) (T : Tx K mg C tL) (c_table_made : Cal P w K mg base 1 "table_made" (spD (m_table_made C) 2)) (c_other_of : Cal P w K mg base 1 "other_of" (spD (m_other_of C) 3)) : FnOk P w K mg base CX0 2 f fd ["season", "bounds", "forecast", "prices", "pulls"] (spD (m_bill_of C) 5) :=
  fn_D F sc_bill_of fun cdv A outer s H hr => ⟨_, (pss_cons (ps_parA sc_bill_of.nd rfl rfl (pa_cons (pe_c c_table_made hr (by decide) (by rfl) (pa_cons (pv 0) (pa_cons (pv 2) pa_nil))) (pa_cons pe_int pa_nil))) (pss_cons (ps_or (ps_lock (ps_for PassesOwn.never rfl (pi_items (pv 4)) (pg_tupK (K := K) rfl rfl (pgs_cons (pg_name (i := 7) sc_bill_of.nd rfl (by first | exact Or.inl rfl | exact Or.inr rfl)) (pgs_cons (pg_name (i := 8) sc_bill_of.nd rfl (by first | exact Or.inl rfl | exact Or.inr rfl)) pgs_nil))) (pss_one (ps_set (i := 6) sc_bill_of.nd rfl (by first | exact Or.inl rfl | exact Or.inr rfl) (pe_op op_addA (pv 6) (pe_op op_mulA (pv 8) (pe_op op_sub (pe_or2 (pe_ix ix_seq (pe_or2 (pe_ix ix_seq (pv 1) (pv 7) (fun _ _ => rfl)) (pe_dget (hu_of hr) (pv 1) (pv 7) (fun _ _ => rfl))) (pe_ifExp (pt_cmpR op_ge (pv 8) pe_int (nomark _)) pe_int pe_int) (fun _ _ => rfl)) (pe_dget (hu_of hr) (pe_or2 (pe_ix ix_seq (pv 1) (pv 7) (fun _ _ => rfl)) (pe_dget (hu_of hr) (pv 1) (pv 7) (fun _ _ => rfl))) (pe_ifExp (pt_cmpR op_ge (pv 8) pe_int (nomark _)) pe_int pe_int) (fun _ _ => rfl))) (pe_or2 (pe_ix ix_seq (pv 5) (pv 7) (fun _ _ => rfl)) (pe_dget (hu_of hr) (pv 5) (pv 7) (fun _ _ => rfl)))))))))) (ps_for PassesOwn.never rfl (pi_items (pv 4)) (pg_tupK (K := K) rfl rfl (pgs_cons (pg_name (i := 7) sc_bill_of.nd rfl (by first | exact Or.inl rfl | exact Or.inr rfl)) (pgs_cons (pg_name (i := 8) sc_bill_of.nd rfl (by first | exact Or.inl rfl | exact Or.inr rfl)) pgs_nil))) (pss_one (ps_set (i := 6) sc_bill_of.nd rfl (by first | exact Or.inl rfl | exact Or.inr rfl) (pe_op op_addA (pv 6) (pe_op op_mulA (pv 8) (pe_op op_sub (pe_or2 (pe_ix ix_seq (pe_or2 (pe_ix ix_seq (pv 1) (pv 7) (fun _ _ => rfl)) (pe_dget (hu_of hr) (pv 1) (pv 7) (fun _ _ => rfl))) (pe_ifExp (pt_cmpR op_ge (pv 8) pe_int (nomark _)) pe_int pe_int) (fun _ _ => rfl)) (pe_dget (hu_of hr) (pe_or2 (pe_ix ix_seq (pv 1) (pv 7) (fun _ _ => rfl)) (pe_dget (hu_of hr) (pv 1) (pv 7) (fun _ _ => rfl))) (pe_ifExp (pt_cmpR op_ge (pv 8) pe_int (nomark _)) pe_int pe_int) (fun _ _ => rfl))) (pe_or2 (pe_ix ix_seq (pv 5) (pv 7) (fun _ _ => rfl)) (pe_dget (hu_of hr) (pv 5) (pv 7) (fun _ _ => rfl)))))))))) (pss_cons (ps_for PassesOwn.never rfl (pi_enumA (by rfl) T.b_enumerate (pa_cons (pv 2) pa_nil)) (pg_tupK (K := K) rfl rfl (pgs_cons (pg_name (i := 9) sc_bill_of.nd rfl (by first | exact Or.inl rfl | exact Or.inr rfl)) (pgs_cons (pg_name (i := 10) sc_bill_of.nd rfl (by first | exact Or.inl rfl | exact Or.inr rfl)) pgs_nil))) (pss_one (ps_set (i := 6) sc_bill_of.nd rfl (by first | exact Or.inl rfl | exact Or.inr rfl) (pe_op op_addA (pv 6) (pe_callB (call_min2 rfl) (by rfl) T.b_min (by decide +kernel) (pa_cons pe_int (pa_cons (pe_op op_sub (pe_op op_addA (pe_or2 (pe_ix ix_seq (pv 3) (pv 9) (fun _ _ => rfl)) (pe_dget (hu_of hr) (pv 3) (pv 9) (fun _ _ => rfl))) (pe_or2 (pe_ix ix_seq (pv 4) (pv 10) (fun _ _ => rfl)) (pe_dget (hu_of hr) (pv 4) (pv 10) (fun _ _ => rfl)))) (pe_or2 (pe_ix ix_seq (pv 4) (pe_c c_other_of hr (by decide) (by rfl) (pa_cons (pv 0) (pa_cons (pv 9) (pa_cons (pv 10) pa_nil)))) (fun _ _ => rfl)) (pe_dget (hu_of hr) (pv 4) (pe_c c_other_of hr (by decide) (by rfl) (pa_cons (pv 0) (pa_cons (pv 9) (pa_cons (pv 10) pa_nil)))) (fun _ _ => rfl)))) pa_nil))))))) (pss_one (ps_ret (pv 6)))))), (rs_seq (rs_parvv (by decide) (re_fn (ra_cons re_v (ra_cons re_v ra_nil))) re_int) (rs_seq (rs_forW (own := [7, 8]) wd_items rp_v (rg_tup (rgs_cons (rg_name (i := 7) (by decide)) (rgs_cons (rg_name (i := 8) (by decide)) rgs_nil))) (rs_set (re_op rb_addA re_v (re_op rb_mulA re_v (re_op rb_sub (re_sub (re_sub re_v re_v) (re_if (rt_test (re_op rb_ge re_v re_int)) re_int re_int)) (re_sub re_v re_v)))))) (rs_seq (rs_for (own := [9, 10]) (ri_enumA (ra_cons re_v ra_nil)) (rg_tup (rgs_cons (rg_name (i := 9) (by decide)) (rgs_cons (rg_name (i := 10) (by decide)) rgs_nil))) (rs_set (re_op rb_addA re_v (re_call rc_min2 (ra_cons re_int (ra_cons (re_op rb_sub (re_op rb_addA (re_sub re_v re_v) (re_sub re_v re_v)) (re_sub re_v (re_fn (ra_cons re_v (ra_cons re_v (ra_cons re_v ra_nil)))))) ra_nil)))))) (rs_ret re_v))))⟩
abbrev s_bill : Stmt := topS 40
theorem sc_bill : FnScope ["season", "bounds", "forecast", "prices", "pulls"] ["season", "bounds", "forecast", "prices", "pulls"] (defScope s_bill) := ⟨rfl, rfl, rfl, by decide +kernel, rfl, by decide +kernel, by decide +kernel⟩
noncomputable def g_bill (C : Addr) : FS := (seqS (dropS (mE (m_check_task C) 4 (consA (vE 0) (consA (vE 1) (consA (vE 2) (consA (vE 3) nilA)))))) (seqS (ifS (notT (bT (mE (m_are_pulls C) 2 (consA (vE 0) (consA (vE 4) nilA))))) neverS nextS) (retS (mE (m_bill_of C) 5 (consA (vE 0) (consA (vE 1) (consA (vE 2) (consA (vE 3) (consA (vE 4) nilA)))))))))
noncomputable def m_bill (C : Addr) : FM := runS 5 (g_bill C)
theorem ok_bill {f : Addr} {fd : FuncData} (F : Fun K "bill" "bill" s_bill f fd) (T : Tx K mg C tL) (c_check_task : Cal P w K mg base 5 "check_task" (spD (m_check_task C) 4)) (c_are_pulls : Cal P w K mg base 2 "are_pulls" (spD (m_are_pulls C) 2)) (c_bill_of : Cal P w K mg base 2 "bill_of" (spD (m_bill_of C) 5)) : FnOk P w K mg base CX0 6 f fd ["season", "bounds", "forecast", "prices", "pulls"] (spD (m_bill C) 5) :=
  fn_D F sc_bill fun cdv A outer s H hr => ⟨_, (pss_cons (ps_expr (pe_c c_check_task hr (by decide) (by rfl) (pa_cons (pv 0) (pa_cons (pv 1) (pa_cons (pv 2) (pa_cons (pv 3) pa_nil)))))) (pss_cons (ps_if (pt_not (pt_val (pe_c c_are_pulls hr (by decide) (by rfl) (pa_cons (pv 0) (pa_cons (pv 4) pa_nil))))) (pss_one ps_never) pss_nil) (pss_one (ps_ret (pe_c c_bill_of hr (by decide) (by rfl) (pa_cons (pv 0) (pa_cons (pv 1) (pa_cons (pv 2) (pa_cons (pv 3) (pa_cons (pv 4) pa_nil)))))))))), (rs_seq (rs_drop (re_fn (ra_cons re_v (ra_cons re_v (ra_cons re_v (ra_cons re_v ra_nil)))))) (rs_seq (rs_if (rt_not (rt_B (re_fn (ra_cons re_v (ra_cons re_v ra_nil))))) rs_never rs_next) (rs_ret (re_fn (ra_cons re_v (ra_cons re_v (ra_cons re_v (ra_cons re_v (ra_cons re_v ra_nil)))))))))⟩
end
end M

set_option Elab.async false
set_option linter.all false
set_option maxRecDepth 100000
set_option maxHeartbeats 4000000
namespace M
open PySem L2
section
variable {P : Program} {w : World} {K : PySem.W.Frag} {mg : Str → Option Value} {base : Heap} {C : Addr} {tL : Tok}
abbrev s_Season_init : Stmt := inClass (topS 17) 0
theorem sc_Season_init : FnScope ["self", "rows", "games", "wrong", "team", "wins", "row", "index", "game"] ["self", "rows", "games"] (defScope s_Season_init) := ⟨rfl, rfl, rfl, by decide +kernel, rfl, by decide +kernel, by decide +kernel⟩
noncomputable def i1_Season (C : Addr) : FE := (mE m_first_bad_row 1 (consA (vE 1) nilA))
noncomputable def i2_Season (C : Addr) : FE := (dcE (itF (callE sortN (consA (lcE (itF (vE 1)) (tgN 6) yesT (callE tupN (consA (vE 6) nilA)) [6]) nilA))) (tgT 2 (tgCons (tgN 4) (tgCons (tgN 5) tgNil))) yesT (vE 4) (vE 5) [4, 5])
noncomputable def i3_Season (C : Addr) : FT := (notT (bT (mE m_is_list 1 (consA (vE 2) nilA))))
noncomputable def it_Season (C : Addr) : FT := (notT (bT (methE C "is_game" (m_Season_is_game C) 2 (vE 0) (consA (vE 8) nilA))))
noncomputable def i4_Season (C : Addr) : FS := (forS (enA (consA (vE 2) nilA)) (tgT 2 (tgCons (tgN 7) (tgCons (tgN 8) tgNil))) (ifS (notT (bT (methE C "is_game" (m_Season_is_game C) 2 (vE 0) (consA (vE 8) nilA)))) neverS nextS))
noncomputable def i5_Season (C : Addr) : FE := (callE sortN (consA (lcE (itF (vE 2)) (tgN 8) yesT (tupE (consA (callE (bestN minZ minS) (consA (vE 8) nilA)) (consA (callE (bestN maxZ maxS) (consA (vE 8) nilA)) nilA))) [8]) nilA))
def iE_Season (rows games : D) : Ev := [.no, .v rows, .v games, .no, .no, .no, .no, .no, .no]
noncomputable def mk_m_Season (C : Addr) : FI1 := fun ds S => match ds with
  | [rows, games] => match i1_Season C (iE_Season rows games) S with
    | some (.non, S1) => match i2_Season C (iE_Season rows games) S1 with
      | some (dw, S2) => match i3_Season C (iE_Season rows games) S2 with
        | some (false, S3) => match i4_Season C ((iE_Season rows games).set 0 (.v (.ins C [("own_wins", dw)]))) S3 with
          | some (.nx, _, S4) => match i5_Season C (iE_Season rows games) S4 with
            | some (dg, S5) => some ([("own_wins", dw), ("own_games", dg)], S5)
            | none => none
          | _ => none
        | _ => none
      | none => none
    | _ => none
  | _ => none
theorem ok_Season_init {f : Addr} {fd : FuncData} (F : Fun K "__init__" "Season.__init__" s_Season_init f fd) (T : Tx K mg C tL) (c_first_bad_row : Cal P w K mg base 3 "first_bad_row" (spD m_first_bad_row 1)) (c_is_list : Cal P w K mg base 1 "is_list" (spD m_is_list 1)) (c_Season_is_game : Met P w K mg base 3 C "is_game" (spD (m_Season_is_game C) 2)) : FnOk P w K mg base CX0 4 f fd ["self", "rows", "games"] (spI C (mk_m_Season C) 2) := by
  refine F.ok sc_Season_init (fun vs H Q E h => ?_) (fun cdv A outer s H vs Q E hr h => ?_)
  · obtain ⟨B, ds, S, fs, S', x, dx, vs', H0, rfl, _, _, _, _, _, _, hd, hn, _⟩ := h
    rw [List.length_cons, Paired.length hd, hn]
    rfl
  · obtain ⟨B, ds, S, fs, S', x, dx, vs', H0, rfl, hx, hdx, hne, rfl, rfl, st, hd, hn, em, kk⟩ := h
    obtain ⟨te1, te3, tt4, wi5, g5, tt5, te6, hPS, h1, h3, h4, hi5, hg5, h5, h6⟩ : ∃ te1 te3 tt4 wi5 g5 tt5 te6, PSs (cxOf CX0 P w K mg base ["self", "rows", "games", "wrong", "team", "wins", "row", "index", "game"] "Season.__init__" (defScope s_Season_init) f cdv A outer s (upd (upd B.H dx (.own x)) x (.ins C dx [])) E0).nox (defBody s_Season_init) (tSeq (tAsg te1 (gName 3)) (tSeq (tIfS (tB (tNotN (tVar 3))) tNever tNext) (tSeq (sFld K (tVar 0) te3 "own_wins") (tSeq (tIfS tt4 tNever tNext) (tSeq (tFor wi5 g5 (tIfS tt5 tNever tNext)) (sFld K (tVar 0) te6 "own_games")))))) ∧
        RE te1 (i1_Season C) ∧ RF te3 (i2_Season C) ∧ RT tt4 (i3_Season C) ∧ RI wi5 (enA (consA (vE 2) nilA)) ∧ RG g5 (tgT 2 (tgCons (tgN 7) (tgCons (tgN 8) tgNil))) [7, 8] ∧ RT tt5 (it_Season C) ∧ RF te6 (i5_Season C) :=
      ⟨_, _, _, _, _, _, _, pss_cons (ps_set (i := 3) sc_Season_init.nd rfl (by first | exact Or.inl rfl | exact Or.inr rfl) (pe_c c_first_bad_row hr (by decide) (by rfl) (pa_cons (pv 1) pa_nil))) (pss_cons (ps_if (pt_cmp (pc_notN (pv 3))) (pss_one ps_never) pss_nil) (pss_cons (ps_fld (pv 0) (pe_dc (own := [("team", 4), ("wins", 5)]) rfl sc_Season_init.nd (pi_or (pi_list (pe_callB (cr_sortA hr.units) (by rfl) T.b_sorted (by decide +kernel) (pa_cons (pe_lc (own := [("row", 6)]) rfl sc_Season_init.nd (pi_or (pi_list (pv 1)) (pi_or (pi_tup (pv 1)) (pi_str (pv 1)))) (blkOk_by (N := ["self", "rows", "games", "wrong", "team", "wins", "row", "index", "game"]) (sc := defScope s_Season_init) (by decide +kernel)) (fun _ _ _ _ _ => (pg_name (i := 6) sc_Season_init.nd rfl (by first | exact Or.inl rfl | exact Or.inr rfl))) (fun _ _ _ _ _ => pts_nil) (fun _ _ _ _ _ => (pe_callTy call_tuple_of (by rfl) T.b_tuple (by decide +kernel) (pa_cons (pv 6) pa_nil)))) pa_nil))) (pi_or (pi_tup (pe_callB (cr_sortA hr.units) (by rfl) T.b_sorted (by decide +kernel) (pa_cons (pe_lc (own := [("row", 6)]) rfl sc_Season_init.nd (pi_or (pi_list (pv 1)) (pi_or (pi_tup (pv 1)) (pi_str (pv 1)))) (blkOk_by (N := ["self", "rows", "games", "wrong", "team", "wins", "row", "index", "game"]) (sc := defScope s_Season_init) (by decide +kernel)) (fun _ _ _ _ _ => (pg_name (i := 6) sc_Season_init.nd rfl (by first | exact Or.inl rfl | exact Or.inr rfl))) (fun _ _ _ _ _ => pts_nil) (fun _ _ _ _ _ => (pe_callTy call_tuple_of (by rfl) T.b_tuple (by decide +kernel) (pa_cons (pv 6) pa_nil)))) pa_nil))) (pi_str (pe_callB (cr_sortA hr.units) (by rfl) T.b_sorted (by decide +kernel) (pa_cons (pe_lc (own := [("row", 6)]) rfl sc_Season_init.nd (pi_or (pi_list (pv 1)) (pi_or (pi_tup (pv 1)) (pi_str (pv 1)))) (blkOk_by (N := ["self", "rows", "games", "wrong", "team", "wins", "row", "index", "game"]) (sc := defScope s_Season_init) (by decide +kernel)) (fun _ _ _ _ _ => (pg_name (i := 6) sc_Season_init.nd rfl (by first | exact Or.inl rfl | exact Or.inr rfl))) (fun _ _ _ _ _ => pts_nil) (fun _ _ _ _ _ => (pe_callTy call_tuple_of (by rfl) T.b_tuple (by decide +kernel) (pa_cons (pv 6) pa_nil)))) pa_nil))))) (blkOk_by (N := ["self", "rows", "games", "wrong", "team", "wins", "row", "index", "game"]) (sc := defScope s_Season_init) (by decide +kernel)) (fun _ _ _ _ _ => (pg_tupK (K := K) rfl rfl (pgs_cons (pg_name (i := 4) sc_Season_init.nd rfl (by first | exact Or.inl rfl | exact Or.inr rfl)) (pgs_cons (pg_name (i := 5) sc_Season_init.nd rfl (by first | exact Or.inl rfl | exact Or.inr rfl)) pgs_nil)))) (fun _ _ _ _ _ => pts_nil) (fun _ _ _ _ _ => (pv 4)) (fun _ _ _ _ _ => (pv 5))) rfl) (pss_cons (ps_if (pt_not (pt_val (pe_c c_is_list hr (by decide) (by rfl) (pa_cons (pv 2) pa_nil)))) (pss_one ps_never) pss_nil) (pss_cons (ps_for PassesOwn.never rfl (pi_enumA (by rfl) T.b_enumerate (pa_cons (pv 2) pa_nil)) (pg_tupK (K := K) rfl rfl (pgs_cons (pg_name (i := 7) sc_Season_init.nd rfl (by first | exact Or.inl rfl | exact Or.inr rfl)) (pgs_cons (pg_name (i := 8) sc_Season_init.nd rfl (by first | exact Or.inl rfl | exact Or.inr rfl)) pgs_nil))) (pss_one (ps_if (pt_not (pt_val (pe_mt c_Season_is_game hr (by decide) (pv 0) (pa_cons (pv 8) pa_nil)))) (pss_one ps_never) pss_nil))) (pss_one (ps_fld (pv 0) (pe_callB (cr_sortA hr.units) (by rfl) T.b_sorted (by decide +kernel) (pa_cons (pe_lc (own := [("game", 8)]) rfl sc_Season_init.nd (pi_or (pi_list (pv 2)) (pi_or (pi_tup (pv 2)) (pi_str (pv 2)))) (blkOk_by (N := ["self", "rows", "games", "wrong", "team", "wins", "row", "index", "game"]) (sc := defScope s_Season_init) (by decide +kernel)) (fun _ _ _ _ _ => (pg_name (i := 8) sc_Season_init.nd rfl (by first | exact Or.inl rfl | exact Or.inr rfl))) (fun _ _ _ _ _ => pts_nil) (fun _ _ _ _ _ => (pe_tup (pa_cons (pe_callB (cr_minA rfl hr.units) (by rfl) T.b_min (by decide +kernel) (pa_cons (pv 8) pa_nil)) (pa_cons (pe_callB (cr_maxA rfl hr.units) (by rfl) T.b_max (by decide +kernel) (pa_cons (pv 8) pa_nil)) pa_nil))))) pa_nil)) rfl)))))), (re_fn (ra_cons re_v ra_nil)), (rf_dc (own := [4, 5]) (ri_seq (RF.e (rf_call rcf_sortA (ra_cons (RF.e (rf_lc (own := [6]) (ri_seq re_v) (rg_name (i := 6) (by decide)) rt_yes (re_call rc_tuple (ra_cons re_v ra_nil)))) ra_nil)))) (rg_tup (rgs_cons (rg_name (i := 4) (by decide)) (rgs_cons (rg_name (i := 5) (by decide)) rgs_nil))) rt_yes re_v re_v), (rt_not (rt_B (re_fn (ra_cons re_v ra_nil)))), (ri_enumA (ra_cons re_v ra_nil)), (rg_tup (rgs_cons (rg_name (i := 7) (by decide)) (rgs_cons (rg_name (i := 8) (by decide)) rgs_nil))), (rt_not (rt_B (re_meth re_v (ra_cons re_v ra_nil)))), (rf_call rcf_sortA (ra_cons (RF.e (rf_lc (own := [8]) (ri_seq re_v) (rg_name (i := 8) (by decide)) rt_yes (RF.e (rf_tup (ra_cons (re_call rc_best (ra_cons re_v ra_nil)) (ra_cons (re_call rc_best (ra_cons re_v ra_nil)) ra_nil)))))) ra_nil))⟩
    refine ⟨_, hPS, ?_⟩
    obtain ⟨rows, games, rfl⟩ : ∃ rows games, ds = [rows, games] := by
      match ds, hn with
      | [a, b], _ => exact ⟨a, b, rfl⟩
    obtain ⟨v1, v2, rfl, hv1, hv2⟩ := two2 hd
    unfold mk_m_Season at em
    simp only at em
    -- the new instance
    have nx : B.fr x = none := st.noFr hx
    have ndx : B.fr dx = none := st.noFr hdx
    have hx1 : (upd B.H dx (.own x)) x = none := by rw [upd_ne (Ne.symm hne)]; exact hx
    have xI : B.I x = none := st.freeI hx
    have xS : ¬ B.isSt x := st.notSt hx
    have dxS : ¬ B.isSt dx := st.notSt hdx
    have dxI : B.I dx = none := st.freeI hdx
    have ev : ∀ {B2 : Bs} {σ : L2.St} {I H : Hp} {S : Sm}, B2.c = B.c → Stt B2 I H S → Le B.I I → σ.length = 9 → σ[1]? = some (some v1) → σ[2]? = some (some v2) → R B2 (iE_Season rows games) S σ I H := fun {B2 σ I H S} hc s l hl h1 h2 => by
      refine ⟨s, hl, fun i d hi => ?_, fun i d hi => ?_, fun i j d e p hij h1 h2 _ _ => ?_⟩
      · match i, hi with
        | 1, hi => cases hi; exact ⟨v1, h1, hc ▸ hv1.mono l⟩
        | 2, hi => cases hi; exact ⟨v2, h2, hc ▸ hv2.mono l⟩
        | 0, hi => cases hi
        | 3, hi => cases hi
        | 4, hi => cases hi
        | 5, hi => cases hi
        | 6, hi => cases hi
        | 7, hi => cases hi
        | 8, hi => cases hi
        | n + 9, hi => cases hi
      · match i, hi with
        | 0, hi => cases hi
        | 1, hi => cases hi
        | 2, hi => cases hi
        | 3, hi => cases hi
        | 4, hi => cases hi
        | 5, hi => cases hi
        | 6, hi => cases hi
        | 7, hi => cases hi
        | 8, hi => cases hi
        | n + 9, hi => cases hi
      · match i, h1 with
        | 0, hi => cases hi
        | 1, hi => cases hi
        | 2, hi => cases hi
        | 3, hi => cases hi
        | 4, hi => cases hi
        | 5, hi => cases hi
        | 6, hi => cases hi
        | 7, hi => cases hi
        | 8, hi => cases hi
        | n + 9, hi => cases hi
    have rA := ev (B2 := B) (σ := L2.start ["self", "rows", "games", "wrong", "team", "wins", "row", "index", "game"] [.ref x, v1, v2]) rfl st le_rfl rfl rfl rfl
    have r0 := (rA.cell (u := .own x) hdx (fun _ => nofun)).cell (u := .ins C dx []) hx1 (fun _ => nofun)
    have fx : (B.cell dx (.own x)).fr x = none := by
      show upd B.fr dx _ x = none
      rw [upd_ne (Ne.symm hne)]
      exact nx
    split at em
    · rename_i S1 q1
      split at em
      · rename_i dw S2 q2
        split at em
        · rename_i S3 q3
          split at em
          · rename_i Ef S4 q4
            split at em
            · rename_i dg S5 q5
              cases em
              refine h1 r0 q1 fun w1 I1 H1 r1 l1 hw1 => ?_
              cases den_non hw1
              refine ⟨.non, rfl, false, rfl, ?_⟩
              show (if false = true then _ else _)
              rw [if_neg Bool.false_ne_true]
              have r1' := ev (σ := (L2.start ["self", "rows", "games", "wrong", "team", "wins", "row", "index", "game"] [.ref x, v1, v2]).set 3 (some .non)) (by rfl) r1.st l1 rfl rfl rfl
              refine h3 r1' q2 fun y1 I2 H2 r2 l2 fr2 => ?_
              obtain ⟨hx2, _, _, _⟩ := r2.cellAt
              refine ⟨.ref x, rfl, x, C, dx, [], rfl, hx2, T.cl, T.na_own_wins, by decide, ?_⟩
              obtain ⟨I3, r3, l3, hdw⟩ := r2.freeze fr2
              have r3' := r3.cellSet (w := .ins C dx [("own_wins", y1)]) (fun _ => nofun)
              refine h4 r3' q3 fun I4 H4 r4 l4 => ?_
              show (if false = true then _ else _)
              rw [if_neg Bool.false_ne_true]
              obtain ⟨hx4, hi4, _, _⟩ := r4.cellAt
              have r4u := r4.uncell fx
              have st5 := r4u.st.freeze hi4 hx fx hx4 xS (fun _ _ => nofun)
              have l5 : Le I4 (upd I4 x (.ins C dx [("own_wins", y1)])) := Le.new hi4
              have la : Le B.I I4 := l1.trans (l2.trans (l3.trans l4))
              have dself : Den B.c (upd I4 x (.ins C dx [("own_wins", y1)])) (.ref x) (.ins C [("own_wins", dw)]) := den_ins (.inl upd_same) (.cons ⟨rfl, hdw.mono (l4.trans l5)⟩ .nil)
              have r5 := (ev (σ := (L2.start ["self", "rows", "games", "wrong", "team", "wins", "row", "index", "game"] [.ref x, v1, v2]).set 3 (some .non)) (by rfl) st5 (la.trans l5) rfl rfl rfl).setV (i := 0) (d := .ins C [("own_wins", dw)]) (show 0 < 9 by decide) dself
              refine for_test hi5 hg5 h5 (fun σ : L2.St => σ.length = 9 ∧ σ[0]? = some (some (.ref x)) ∧ σ[1]? = some (some v1) ∧ σ[2]? = some (some v2)) (fun (σ σ' : L2.St) hl hs hp => by
                obtain ⟨a1, a2, a3, a4⟩ := hp
                refine ⟨hl.trans a1, ?_, ?_, ?_⟩
                · have := hs 0 (by decide); rw [this]; exact a2
                · have := hs 1 (by decide); rw [this]; exact a3
                · have := hs 2 (by decide); rw [this]; exact a4) r5 ⟨rfl, rfl, rfl, rfl⟩ q4 fun σ6 I6 H6 r6 l6 hp6 => ?_
              obtain ⟨p1, p2, p3, p4⟩ := hp6
              have hx6 : H6 x = some (.ins C dx [("own_wins", y1)]) := r6.st.exI (l6 _ _ (.inl upd_same))
              have st6 := r6.st.thaw (p := x) xI
              have l7 : Le I4 (delI I6 x) := le_del hi4 (l5.trans l6)
              have st7 := st6.pin hx6 delI_same hx (fun _ => nofun)
              have r7 := ev (σ := σ6) (by rfl) st7 (la.trans l7) p1 p3 p4
              refine h6 r7 q5 fun y2 I8 H8 r8 l8 fr8 => ?_
              obtain ⟨hx8, _, _, _⟩ := r8.cellAt
              refine ⟨.ref x, p2, x, C, dx, _, rfl, hx8, T.cl, T.na_own_games, (by decide : 1 < 1000), ?_⟩
              obtain ⟨I9, r9, l9, hdg⟩ := r8.freeze fr8
              have r9' := (r9.cellSet (w := .ins C dx [("own_wins", y1), ("own_games", y2)]) (fun _ => nofun))
              obtain ⟨hx9, hi9, _, _⟩ := r9'.cellAt
              have r10 := (r9'.uncell fx).uncell ndx
              have st10 := r10.st.freeze hi9 hx nx hx9 xS (fun _ _ => nofun)
              have l10 : Le I9 (upd I9 x (.ins C dx [("own_wins", y1), ("own_games", y2)])) := Le.new hi9
              exact kk _ _ st10 (den_ins (.inl upd_same) (.cons ⟨rfl, hdw.mono (l4.trans (l7.trans (l8.trans (l9.trans l10))))⟩ (.cons ⟨rfl, hdg.mono l10⟩ .nil)))
            · cases em
          · cases em
        · cases em
      · cases em
    · cases em
end
end M

set_option Elab.async false
set_option linter.all false
set_option maxRecDepth 100000
set_option maxHeartbeats 4000000
namespace M
open PySem L2
section
variable {P : Program} {w : World} {K : PySem.W.Frag} {mg : Str → Option Value} {base : Heap} {C : Addr} {tL : Tok}
abbrev s_law_draw : Stmt := topS 43
theorem sc_law_draw : FnScope ["stream", "many", "cell", "digit", "mixed"] ["stream", "many"] (defScope s_law_draw) := ⟨rfl, rfl, rfl, by decide +kernel, rfl, by decide +kernel, by decide +kernel⟩
noncomputable def g_law_draw : FS := (seqS (stS 0 2 (opE addA (stE 0 2) (cE (.int 1)))) (seqS (whS (andT (bT (opE eqA (stE 0 1) (cE (.int 0)))) (bT (neNilE 0))) (seqS (setS 2 (callE absN (consA (popE 0) nilA))) (seqS (stS 0 3 (opE modI (callE intN (consA (opE addA (opE addA (opE mulA (stE 0 3) (cE (.int 6151))) (vE 2)) (cE (.int 7))) nilA)) (cE (.int 2147483629)))) (stS 0 1 (ifE (bT (opE geI (vE 2) (opE powI (cE (.int 10)) (cE (.int 18))))) (vE 2) (cE (.int 0))))))) (seqS (ifS (bT (opE gtI (stE 0 1) (cE (.int 0)))) (seqS (setS 3 (opE modI (callE intN (consA (stE 0 1) nilA)) (vE 1))) (seqS (stS 0 1 (opE divI (stE 0 1) (vE 1))) (retS (vE 3)))) nextS) (seqS (setS 4 (opE modI (callE intN (consA (opE powI (opE addA (opE addA (stE 0 3) (opE mulA (cE (.int 8191)) (stE 0 2))) (cE (.int 50021))) (cE (.int 5))) nilA)) (cE (.int 2147483587)))) (retS (opE modI (opE modI (callE intN (consA (opE powI (opE addA (opE addA (opE mulA (vE 4) (cE (.int 40009))) (opE mulA (cE (.int 20011)) (stE 0 2))) (cE (.int 31))) (cE (.int 3))) nilA)) (cE (.int 1000000009))) (vE 1)))))))
noncomputable def m_law_draw : FM := runS 5 (g_law_draw)
theorem ok_law_draw {f : Addr} {fd : FuncData} (F : Fun K "_law_draw" "_law_draw" s_law_draw f fd) (T : Tx K mg C tL) : FnOk P w K mg base CX0 1 f fd ["stream", "many"] (spD (m_law_draw) 2) :=
  fn_D F sc_law_draw fun cdv A outer s H hr => ⟨_, (pss_cons (ps_asg (pe_op op_addA (pe_ix ix_seq (pv 0) pe_int (fun _ _ => rfl)) pe_int) (pg_sub (pv 0) pe_int set_list)) (pss_cons (ps_while PassesOwn.never ((pw_and (pt_cmpR op_eq (pe_ix ix_seq (pv 0) pe_int (fun _ _ => rfl)) pe_int (nomark _)) (pw_and1 (pt_cmpR (op_neNil hr.units) (pe_ix ix_seq (pv 0) pe_int (fun _ _ => rfl)) (pe_lst pa_nil) (nomark _))))).pt (pss_cons (ps_set (i := 2) sc_law_draw.nd rfl (by first | exact Or.inl rfl | exact Or.inr rfl) (pe_callB call_abs (by rfl) T.b_abs (by decide +kernel) (pa_cons (pe_bm PySem.F.plainAttrs_list PySem.F.slot_list_pop PySem.F.type_list_pop mt_popAt (pe_ix ix_seq (pv 0) pe_int (fun _ _ => rfl)) (pa_cons pe_int pa_nil)) pa_nil))) (pss_cons (ps_asg (pe_op op_mod (pe_callTy call_int1 (by rfl) T.b_int (by decide +kernel) (pa_cons (pe_op op_addA (pe_op op_addA (pe_op op_mulA (pe_ix ix_seq (pv 0) pe_int (fun _ _ => rfl)) pe_int) (pv 2)) pe_int) pa_nil)) pe_int) (pg_sub (pv 0) pe_int set_list)) (pss_one (ps_asg (pe_ifExp (pt_cmpR op_ge (pv 2) (pe_op op_powB pe_int pe_int) (nomark _)) (pv 2) pe_int) (pg_sub (pv 0) pe_int set_list)))))) (pss_cons (ps_if (pt_cmpR op_gt (pe_ix ix_seq (pv 0) pe_int (fun _ _ => rfl)) pe_int (nomark _)) (pss_cons (ps_set (i := 3) sc_law_draw.nd rfl (by first | exact Or.inl rfl | exact Or.inr rfl) (pe_op op_mod (pe_callTy call_int1 (by rfl) T.b_int (by decide +kernel) (pa_cons (pe_ix ix_seq (pv 0) pe_int (fun _ _ => rfl)) pa_nil)) (pv 1))) (pss_cons (ps_asg (pe_op op_fdiv (pe_ix ix_seq (pv 0) pe_int (fun _ _ => rfl)) (pv 1)) (pg_sub (pv 0) pe_int set_list)) (pss_one (ps_ret (pv 3))))) pss_nil) (pss_cons (ps_set (i := 4) sc_law_draw.nd rfl (by first | exact Or.inl rfl | exact Or.inr rfl) (pe_op op_mod (pe_callTy call_int1 (by rfl) T.b_int (by decide +kernel) (pa_cons (pe_op op_powB (pe_op op_addA (pe_op op_addA (pe_ix ix_seq (pv 0) pe_int (fun _ _ => rfl)) (pe_op op_mulA pe_int (pe_ix ix_seq (pv 0) pe_int (fun _ _ => rfl)))) pe_int) pe_int) pa_nil)) pe_int)) (pss_one (ps_ret (pe_op op_mod (pe_op op_mod (pe_callTy call_int1 (by rfl) T.b_int (by decide +kernel) (pa_cons (pe_op op_powB (pe_op op_addA (pe_op op_addA (pe_op op_mulA (pv 4) pe_int) (pe_op op_mulA pe_int (pe_ix ix_seq (pv 0) pe_int (fun _ _ => rfl)))) pe_int) pe_int) pa_nil)) pe_int) (pv 1)))))))), (rs_seq (rs_st (re_op rb_addA re_st re_int)) (rs_seq (rs_while (rt_and (rt_test (re_op rb_eq re_st re_int)) (rt_test re_neNil)) (rs_seq (rs_set (re_call rc_abs (ra_cons re_pop ra_nil))) (rs_seq (rs_st (re_op rb_mod (re_call rc_int (ra_cons (re_op rb_addA (re_op rb_addA (re_op rb_mulA re_st re_int) re_v) re_int) ra_nil)) re_int)) (rs_st (re_if (rt_test (re_op rb_ge re_v (re_op rb_pow re_int re_int))) re_v re_int))))) (rs_seq (rs_if (rt_test (re_op rb_gt re_st re_int)) (rs_seq (rs_set (re_op rb_mod (re_call rc_int (ra_cons re_st ra_nil)) re_v)) (rs_seq (rs_st (re_op rb_div re_st re_v)) (rs_ret re_v))) rs_next) (rs_seq (rs_set (re_op rb_mod (re_call rc_int (ra_cons (re_op rb_pow (re_op rb_addA (re_op rb_addA re_st (re_op rb_mulA re_int re_st)) re_int) re_int) ra_nil)) re_int)) (rs_ret (re_op rb_mod (re_op rb_mod (re_call rc_int (ra_cons (re_op rb_pow (re_op rb_addA (re_op rb_addA (re_op rb_mulA re_v re_int) (re_op rb_mulA re_int re_st)) re_int) re_int) ra_nil)) re_int) re_v))))))⟩
abbrev s_law_pick : Stmt := topS 44
theorem sc_law_pick : FnScope ["stream", "things"] ["stream", "things"] (defScope s_law_pick) := ⟨rfl, rfl, rfl, by decide +kernel, rfl, by decide +kernel, by decide +kernel⟩
noncomputable def g_law_pick : FS := (retS (subE (vE 1) (mE m_law_draw 2 (consA (vE 0) (consA (callE lenN (consA (vE 1) nilA)) nilA)))))
noncomputable def m_law_pick : FM := runS 2 (g_law_pick)
theorem ok_law_pick {f : Addr} {fd : FuncData} (F : Fun K "_law_pick" "_law_pick" s_law_pick f fd) (T : Tx K mg C tL) (c_law_draw : Cal P w K mg base 1 "_law_draw" (spD (m_law_draw) 2)) : FnOk P w K mg base CX0 2 f fd ["stream", "things"] (spD (m_law_pick) 2) :=
  fn_D F sc_law_pick fun cdv A outer s H hr => ⟨_, (pss_one (ps_ret (pe_or2 (pe_ix ix_seq (pv 1) (pe_c c_law_draw hr (by decide) (by rfl) (pa_cons (pv 0) (pa_cons (pe_callB call_lenA (by rfl) T.b_len (by decide +kernel) (pa_cons (pv 1) pa_nil)) pa_nil))) (fun _ _ => rfl)) (pe_dget (hu_of hr) (pv 1) (pe_c c_law_draw hr (by decide) (by rfl) (pa_cons (pv 0) (pa_cons (pe_callB call_lenA (by rfl) T.b_len (by decide +kernel) (pa_cons (pv 1) pa_nil)) pa_nil))) (fun _ _ => rfl))))), (rs_ret (re_sub re_v (re_fn (ra_cons re_v (ra_cons (re_call rc_len (ra_cons re_v ra_nil)) ra_nil)))))⟩
abbrev s_law_mixed : Stmt := topS 45
theorem sc_law_mixed : FnScope ["stream", "things", "left", "found", "k"] ["stream", "things"] (defScope s_law_mixed) := ⟨rfl, rfl, rfl, by decide +kernel, rfl, by decide +kernel, by decide +kernel⟩
noncomputable def g_law_mixed : FS := (seqS (parooS 2 3 (callE listA (consA (vE 1) nilA)) (lstE nilA)) (seqS (forS (rng1F (consA (lenOE 2) nilA)) (tgN 4) (appPopS 3 2 (mE m_law_draw 2 (consA (vE 0) (consA (lenOE 2) nilA))))) (giveQ 3 (retS (vE 3)))))
noncomputable def m_law_mixed : FM := runS 5 (g_law_mixed)
theorem ok_law_mixed {f : Addr} {fd : FuncData} (F : Fun K "_law_mixed" "_law_mixed" s_law_mixed f fd) (T : Tx K mg C tL) (c_law_draw : Cal P w K mg base 1 "_law_draw" (spD (m_law_draw) 2)) : FnOk P w K mg base CX0 2 f fd ["stream", "things"] (spD (m_law_mixed) 2) :=
  fn_D F sc_law_mixed fun cdv A outer s H hr => ⟨_, (pss_cons (ps_parA sc_law_mixed.nd rfl rfl (pa_cons (pe_callTy (call_listA rfl) (by rfl) T.b_list (by decide +kernel) (pa_cons (pv 1) pa_nil)) (pa_cons (pe_lst pa_nil) pa_nil))) (pss_cons (ps_for PassesOwn.never rfl (pi_range1 rfl T.b_range (pa_cons (pe_callB call_len (by rfl) T.b_len (by decide +kernel) (pa_cons (pv 2) pa_nil)) pa_nil)) (pg_name (i := 4) sc_law_mixed.nd rfl (by first | exact Or.inl rfl | exact Or.inr rfl)) (pss_one (ps_expr (pe_bm PySem.F.plainAttrs_list PySem.F.slot_list_append PySem.F.type_list_append mt_append (pv 3) (pa_cons (pe_bm PySem.F.plainAttrs_list PySem.F.slot_list_pop PySem.F.type_list_pop mt_popAt (pv 2) (pa_cons (pe_c c_law_draw hr (by decide) (by rfl) (pa_cons (pv 0) (pa_cons (pe_callB call_len (by rfl) T.b_len (by decide +kernel) (pa_cons (pv 2) pa_nil)) pa_nil))) pa_nil)) pa_nil))))) (pss_one (ps_ret (pv 3))))), (rs_seq (rs_paroo (by decide) (rf_call rcf_listA (ra_cons re_v ra_nil)) (rf_lst ra_nil)) (rs_seq (rs_for (own := [4]) (ri_rng1 (ra_cons re_lenO ra_nil)) (rg_name (i := 4) (by decide)) (rs_appPop (by decide) (re_fn (ra_cons re_v (ra_cons re_lenO ra_nil))))) (rs_giveQ (rs_ret re_v))))⟩
abbrev s_law_same : Stmt := topS 46
theorem sc_law_same : FnScope ["found", "due", "mine", "theirs"] ["found", "due"] (defScope s_law_same) := ⟨rfl, rfl, rfl, by decide +kernel, rfl, by decide +kernel, by decide +kernel⟩
noncomputable def g_law_same (self : FM) : FS := (seqS (ifS (bT (isE ["list", "tuple"] (vE 1))) (seqS (ifS (orT (bT (opE (notO eqA) (isE ["list"] (vE 0)) (isE ["list"] (vE 1)))) (bT (opE (notO eqA) (isE ["tuple"] (vE 0)) (isE ["tuple"] (vE 1))))) (retS (cE (.bl false))) nextS) (retS (andE (opE eqA (callE lenN (consA (vE 0) nilA)) (callE lenN (consA (vE 1) nilA))) (callE allN (consA (lcE (zipA (consA (vE 0) (consA (vE 1) nilA))) (tgT 2 (tgCons (tgN 2) (tgCons (tgN 3) tgNil))) yesT (mE self 2 (consA (vE 2) (consA (vE 3) nilA))) [2, 3]) nilA))))) nextS) (seqS (ifS (bT (isE ["dict"] (vE 1))) (retS (andE (isE ["dict"] (vE 0)) (mE self 2 (consA (itemsE (vE 0)) (consA (itemsE (vE 1)) nilA))))) nextS) (seqS (ifS (orT (bT (isE ["bool"] (vE 1))) (bT (isE ["bool"] (vE 0)))) (retS (andE (isE ["bool"] (vE 1)) (andE (isE ["bool"] (vE 0)) (opE eqA (vE 0) (vE 1))))) nextS) (seqS (ifS (orT (bT (isNE (vE 1))) (bT (isNE (vE 0)))) (retS (andE (isNE (vE 1)) (isNE (vE 0)))) nextS) (seqS (ifS (orT (bT (opE (notO eqA) (isE ["int"] (vE 1)) (isE ["int"] (vE 0)))) (bT (opE (notO eqA) (isE ["str"] (vE 1)) (isE ["str"] (vE 0))))) (retS (cE (.bl false))) nextS) (retS (andE (notE (isE ["list", "tuple", "dict"] (vE 0))) (opE eqA (vE 0) (vE 1)))))))))
noncomputable def m_law_same : Nat → FM
  | 0 => fun _ _ => none
  | n + 1 => runS 4 (g_law_same (m_law_same n))
theorem ok_law_same {f : Addr} {fd : FuncData} (F : Fun K "_law_same" "_law_same" s_law_same f fd) (hm : mg "_law_same" = some (.ref f)) (hb : Binds K fd ["found", "due"] []) (T : Tx K mg C tL) : ∀ n, FnOk P w K mg base CX0 (1 + n) f fd ["found", "due"] (spD (m_law_same n) 2)
  | 0 => ⟨fun vs H Q E h => by obtain ⟨B, ds, S, d, S', _, _, hd, hn, _⟩ := h; rw [Paired.length hd, hn]; rfl, fun A outer s H args us vs Q E hr he hbd hv h => by obtain ⟨B, ds, S, d, S', _, _, hd, hn, e, _⟩ := h; cases e⟩
  | n + 1 => by
    have c_law_same : Cal P w K mg base (1 + n) "_law_same" (spD (m_law_same n) 2) := ⟨f, fd, _, ok_law_same F hm hb T n, hm, F.kp, hb⟩
    exact fn_D F sc_law_same fun cdv A outer s H hr => ⟨_, (pss_cons (ps_if (pt_val (pe_callB call_isiT (by rfl) T.b_isinstance (by decide +kernel) (pa_cons (pv 1) (pa_cons (pe_tup (pa_cons (pe_bltn (v := .ty "list") (u := .type "list") (by rfl) T.b_list (by decide +kernel) rfl) (pa_cons (pe_bltn (v := .ty "tuple") (u := .type "tuple") (by rfl) T.b_tuple (by decide +kernel) rfl) pa_nil))) pa_nil)))) (pss_cons (ps_if ((pw_or (pt_cmpR op_ne (pe_callB call_isi (by rfl) T.b_isinstance (by decide +kernel) (pa_cons (pv 0) (pa_cons (pe_bltn (v := .ty "list") (u := .type "list") (by rfl) T.b_list (by decide +kernel) rfl) pa_nil))) (pe_callB call_isi (by rfl) T.b_isinstance (by decide +kernel) (pa_cons (pv 1) (pa_cons (pe_bltn (v := .ty "list") (u := .type "list") (by rfl) T.b_list (by decide +kernel) rfl) pa_nil))) (nomark _)) (pw_or1 (pt_cmpR op_ne (pe_callB call_isi (by rfl) T.b_isinstance (by decide +kernel) (pa_cons (pv 0) (pa_cons (pe_bltn (v := .ty "tuple") (u := .type "tuple") (by rfl) T.b_tuple (by decide +kernel) rfl) pa_nil))) (pe_callB call_isi (by rfl) T.b_isinstance (by decide +kernel) (pa_cons (pv 1) (pa_cons (pe_bltn (v := .ty "tuple") (u := .type "tuple") (by rfl) T.b_tuple (by decide +kernel) rfl) pa_nil))) (nomark _))))).pt (pss_one (ps_ret pe_bl)) pss_nil) (pss_one (ps_ret (pe_and (pe_cmpR op_eq (pe_callB call_lenA (by rfl) T.b_len (by decide +kernel) (pa_cons (pv 0) pa_nil)) (pe_callB call_lenA (by rfl) T.b_len (by decide +kernel) (pa_cons (pv 1) pa_nil)) (nomark _)) (pe_one (pe_callB (cr_all rfl) (by rfl) T.b_all (by decide +kernel) (pa_cons (pe_lc (own := [("mine", 2), ("theirs", 3)]) rfl sc_law_same.nd (RZ.pi_zipA (by rfl) T.b_zip (pa_cons (pv 0) (pa_cons (pv 1) pa_nil))) (blkOk_by (N := ["found", "due", "mine", "theirs"]) (sc := defScope s_law_same) (by decide +kernel)) (fun _ _ _ _ _ => (pg_tupK (K := K) rfl rfl (pgs_cons (pg_name (i := 2) sc_law_same.nd rfl (by first | exact Or.inl rfl | exact Or.inr rfl)) (pgs_cons (pg_name (i := 3) sc_law_same.nd rfl (by first | exact Or.inl rfl | exact Or.inr rfl)) pgs_nil)))) (fun _ _ _ _ _ => pts_nil) (fun _ _ _ _ _ => (pe_c c_law_same hr (by first | decide | exact Nat.le_refl _ | exact Nat.le_trans (by decide) (Nat.le_add_right 1 _)) (by rfl) (pa_cons (pv 2) (pa_cons (pv 3) pa_nil))))) pa_nil))))))) pss_nil) (pss_cons (ps_if (pt_val (pe_callB call_isi (by rfl) T.b_isinstance (by decide +kernel) (pa_cons (pv 1) (pa_cons (pe_bltn (v := .ty "dict") (u := .type "dict") (by rfl) T.b_dict (by decide +kernel) rfl) pa_nil)))) (pss_one (ps_ret (pe_and (pe_callB call_isi (by rfl) T.b_isinstance (by decide +kernel) (pa_cons (pv 0) (pa_cons (pe_bltn (v := .ty "dict") (u := .type "dict") (by rfl) T.b_dict (by decide +kernel) rfl) pa_nil))) (pe_one (pe_c c_law_same hr (by first | decide | exact Nat.le_refl _ | exact Nat.le_trans (by decide) (Nat.le_add_right 1 _)) (by rfl) (pa_cons (pe_listItemsA rfl (pv 0) (by rfl) T.b_list (by decide +kernel)) (pa_cons (pe_listItemsA rfl (pv 1) (by rfl) T.b_list (by decide +kernel)) pa_nil))))))) pss_nil) (pss_cons (ps_if ((pw_or (pt_val (pe_callB call_isi (by rfl) T.b_isinstance (by decide +kernel) (pa_cons (pv 1) (pa_cons (pe_bltn (v := .ty "bool") (u := .type "bool") (by rfl) T.b_bool (by decide +kernel) rfl) pa_nil)))) (pw_or1 (pt_val (pe_callB call_isi (by rfl) T.b_isinstance (by decide +kernel) (pa_cons (pv 0) (pa_cons (pe_bltn (v := .ty "bool") (u := .type "bool") (by rfl) T.b_bool (by decide +kernel) rfl) pa_nil))))))).pt (pss_one (ps_ret (pe_and (pe_callB call_isi (by rfl) T.b_isinstance (by decide +kernel) (pa_cons (pv 1) (pa_cons (pe_bltn (v := .ty "bool") (u := .type "bool") (by rfl) T.b_bool (by decide +kernel) rfl) pa_nil))) (pe_and (pe_callB call_isi (by rfl) T.b_isinstance (by decide +kernel) (pa_cons (pv 0) (pa_cons (pe_bltn (v := .ty "bool") (u := .type "bool") (by rfl) T.b_bool (by decide +kernel) rfl) pa_nil))) (pe_one (pe_cmpR op_eq (pv 0) (pv 1) (nomark _))))))) pss_nil) (pss_cons (ps_if ((pw_or (pt_cmp (pc_isN (pv 1))) (pw_or1 (pt_cmp (pc_isN (pv 0)))))).pt (pss_one (ps_ret (pe_and (pe_cmp (pc_isN (pv 1))) (pe_one (pe_cmp (pc_isN (pv 0))))))) pss_nil) (pss_cons (ps_if ((pw_or (pt_cmpR op_ne (pe_callB call_isi (by rfl) T.b_isinstance (by decide +kernel) (pa_cons (pv 1) (pa_cons (pe_bltn (v := .ty "int") (u := .type "int") (by rfl) T.b_int (by decide +kernel) rfl) pa_nil))) (pe_callB call_isi (by rfl) T.b_isinstance (by decide +kernel) (pa_cons (pv 0) (pa_cons (pe_bltn (v := .ty "int") (u := .type "int") (by rfl) T.b_int (by decide +kernel) rfl) pa_nil))) (nomark _)) (pw_or1 (pt_cmpR op_ne (pe_callB call_isi (by rfl) T.b_isinstance (by decide +kernel) (pa_cons (pv 1) (pa_cons (pe_bltn (v := .ty "str") (u := .type "str") (by rfl) T.b_str (by decide +kernel) rfl) pa_nil))) (pe_callB call_isi (by rfl) T.b_isinstance (by decide +kernel) (pa_cons (pv 0) (pa_cons (pe_bltn (v := .ty "str") (u := .type "str") (by rfl) T.b_str (by decide +kernel) rfl) pa_nil))) (nomark _))))).pt (pss_one (ps_ret pe_bl)) pss_nil) (pss_one (ps_ret (pe_and (pe_not (pe_callB call_isiT (by rfl) T.b_isinstance (by decide +kernel) (pa_cons (pv 0) (pa_cons (pe_tup (pa_cons (pe_bltn (v := .ty "list") (u := .type "list") (by rfl) T.b_list (by decide +kernel) rfl) (pa_cons (pe_bltn (v := .ty "tuple") (u := .type "tuple") (by rfl) T.b_tuple (by decide +kernel) rfl) (pa_cons (pe_bltn (v := .ty "dict") (u := .type "dict") (by rfl) T.b_dict (by decide +kernel) rfl) pa_nil)))) pa_nil)))) (pe_one (pe_cmpR op_eq (pv 0) (pv 1) (nomark _))))))))))), (rs_seq (rs_if (rt_B (re_isT (ns := ["list", "tuple"]) (by decide) (by decide) re_v)) (rs_seq (rs_if (rt_or (rt_test (re_op rb_ne (re_is1 (by decide) re_v) (re_is1 (by decide) re_v))) (rt_test (re_op rb_ne (re_is1 (by decide) re_v) (re_is1 (by decide) re_v)))) (rs_ret re_bl) rs_next) (rs_ret (re_and (re_op rb_eq (re_call rc_len (ra_cons re_v ra_nil)) (re_call rc_len (ra_cons re_v ra_nil))) (re_call rc_all (ra_cons (RF.e (rf_lc (own := [2, 3]) (ri_zipA (ra_cons re_v (ra_cons re_v ra_nil))) (rg_tup (rgs_cons (rg_name (i := 2) (by decide)) (rgs_cons (rg_name (i := 3) (by decide)) rgs_nil))) rt_yes (re_fn (ra_cons re_v (ra_cons re_v ra_nil))))) ra_nil))))) rs_next) (rs_seq (rs_if (rt_B (re_is1 (by decide) re_v)) (rs_ret (re_and (re_is1 (by decide) re_v) (re_fn (ra_cons (RF.e (rf_items re_v)) (ra_cons (RF.e (rf_items re_v)) ra_nil))))) rs_next) (rs_seq (rs_if (rt_or (rt_B (re_is1 (by decide) re_v)) (rt_B (re_is1 (by decide) re_v))) (rs_ret (re_and (re_is1 (by decide) re_v) (re_and (re_is1 (by decide) re_v) (re_op rb_eq re_v re_v)))) rs_next) (rs_seq (rs_if (rt_or (rt_B (re_isN re_v)) (rt_B (re_isN re_v))) (rs_ret (re_and (re_isN re_v) (re_isN re_v))) rs_next) (rs_seq (rs_if (rt_or (rt_test (re_op rb_ne (re_is1 (by decide) re_v) (re_is1 (by decide) re_v))) (rt_test (re_op rb_ne (re_is1 (by decide) re_v) (re_is1 (by decide) re_v)))) (rs_ret re_bl) rs_next) (rs_ret (re_and (re_not (re_isT (ns := ["list", "tuple", "dict"]) (by decide) (by decide) re_v)) (re_op rb_eq re_v re_v))))))))⟩
abbrev s_law_loose : Stmt := topS 47
theorem sc_law_loose : FnScope ["stream", "thing", "some", "one", "key"] ["stream", "thing"] (defScope s_law_loose) := ⟨rfl, rfl, rfl, by decide +kernel, rfl, by decide +kernel, by decide +kernel⟩
noncomputable def g_law_loose (self : FM) : FS := (seqS (ifS (bT (isE ["list", "tuple"] (vE 1))) (seqS (setS 2 (lcE (itF (vE 1)) (tgN 3) yesT (mE self 2 (consA (vE 0) (consA (vE 3) nilA))) [3])) (retS (ifE (bT (opE eqA (mE m_law_draw 2 (consA (vE 0) (consA (cE (.int 2)) nilA))) (cE (.int 0)))) (vE 2) (callE tupN (consA (vE 2) nilA))))) nextS) (seqS (ifS (bT (isE ["dict"] (vE 1))) (retS (callE dictN (consA (lcE (keysF (vE 1)) (tgN 4) yesT (tupE (consA (vE 4) (consA (mE self 2 (consA (vE 0) (consA (subE (vE 1) (vE 4)) nilA))) nilA))) [4]) nilA))) nextS) (retS (vE 1))))
noncomputable def m_law_loose : Nat → FM
  | 0 => fun _ _ => none
  | n + 1 => runS 5 (g_law_loose (m_law_loose n))
theorem ok_law_loose {f : Addr} {fd : FuncData} (F : Fun K "_law_loose" "_law_loose" s_law_loose f fd) (hm : mg "_law_loose" = some (.ref f)) (hb : Binds K fd ["stream", "thing"] []) (T : Tx K mg C tL) (c_law_draw : Cal P w K mg base 1 "_law_draw" (spD (m_law_draw) 2)) : ∀ n, FnOk P w K mg base CX0 (2 + n) f fd ["stream", "thing"] (spD (m_law_loose n) 2)
  | 0 => ⟨fun vs H Q E h => by obtain ⟨B, ds, S, d, S', _, _, hd, hn, _⟩ := h; rw [Paired.length hd, hn]; rfl, fun A outer s H args us vs Q E hr he hbd hv h => by obtain ⟨B, ds, S, d, S', _, _, hd, hn, e, _⟩ := h; cases e⟩
  | n + 1 => by
    have c_law_loose : Cal P w K mg base (2 + n) "_law_loose" (spD (m_law_loose n) 2) := ⟨f, fd, _, ok_law_loose F hm hb T c_law_draw n, hm, F.kp, hb⟩
    exact fn_D F sc_law_loose fun cdv A outer s H hr => ⟨_, (pss_cons (ps_if (pt_val (pe_callB call_isiT (by rfl) T.b_isinstance (by decide +kernel) (pa_cons (pv 1) (pa_cons (pe_tup (pa_cons (pe_bltn (v := .ty "list") (u := .type "list") (by rfl) T.b_list (by decide +kernel) rfl) (pa_cons (pe_bltn (v := .ty "tuple") (u := .type "tuple") (by rfl) T.b_tuple (by decide +kernel) rfl) pa_nil))) pa_nil)))) (pss_cons (ps_setLc (i := 2) (own := [("one", 3)]) rfl sc_law_loose.nd rfl rfl (sw_true rfl rfl rfl (by decide +kernel)) (pi_or (pi_list (pv 1)) (pi_or (pi_tup (pv 1)) (pi_str (pv 1)))) (blkOk_by (N := ["stream", "thing", "some", "one", "key"]) (sc := defScope s_law_loose) (by decide +kernel)) (fun _ _ _ _ _ => (pg_name (i := 3) sc_law_loose.nd rfl (by first | exact Or.inl rfl | exact Or.inr rfl))) (fun _ _ _ _ _ => pts_nil) (fun _ _ _ _ _ => (pe_c c_law_loose hr (by first | decide | exact Nat.le_refl _ | exact Nat.le_trans (by decide) (Nat.le_add_right 2 _)) (by rfl) (pa_cons (pv 0) (pa_cons (pv 3) pa_nil))))) (pss_one (ps_ret (pe_ifExp (pt_cmpR op_eq (pe_c c_law_draw hr (by first | decide | exact Nat.le_refl _ | exact Nat.le_trans (by decide) (Nat.le_add_right 2 _)) (by rfl) (pa_cons (pv 0) (pa_cons pe_int pa_nil))) pe_int (nomark _)) (pv 2) (pe_callTy call_tuple_of (by rfl) T.b_tuple (by decide +kernel) (pa_cons (pv 2) pa_nil)))))) pss_nil) (pss_cons (ps_if (pt_val (pe_callB call_isi (by rfl) T.b_isinstance (by decide +kernel) (pa_cons (pv 1) (pa_cons (pe_bltn (v := .ty "dict") (u := .type "dict") (by rfl) T.b_dict (by decide +kernel) rfl) pa_nil)))) (pss_one (ps_ret (pe_callTy (call_dictP rfl) (by rfl) T.b_dict (by decide +kernel) (pa_cons (pe_or2 (pe_lock (pe_lc (own := [("key", 4)]) rfl sc_law_loose.nd (pi_keys (pv 1)) (blkOk_by (N := ["stream", "thing", "some", "one", "key"]) (sc := defScope s_law_loose) (by decide +kernel)) (fun _ _ _ _ _ => (pg_name (i := 4) sc_law_loose.nd rfl (by first | exact Or.inl rfl | exact Or.inr rfl))) (fun _ _ _ _ _ => pts_nil) (fun _ _ _ _ _ => (pe_tup (pa_cons (pv 4) (pa_cons (pe_c c_law_loose hr (by first | decide | exact Nat.le_refl _ | exact Nat.le_trans (by decide) (Nat.le_add_right 2 _)) (by rfl) (pa_cons (pv 0) (pa_cons (pe_or2 (pe_ix ix_seq (pv 1) (pv 4) (fun _ _ => rfl)) (pe_dget (hu_of hr) (pv 1) (pv 4) (fun _ _ => rfl))) pa_nil))) pa_nil)))))) (pe_lc (own := [("key", 4)]) rfl sc_law_loose.nd (pi_keys (pv 1)) (blkOk_by (N := ["stream", "thing", "some", "one", "key"]) (sc := defScope s_law_loose) (by decide +kernel)) (fun _ _ _ _ _ => (pg_name (i := 4) sc_law_loose.nd rfl (by first | exact Or.inl rfl | exact Or.inr rfl))) (fun _ _ _ _ _ => pts_nil) (fun _ _ _ _ _ => (pe_tup (pa_cons (pv 4) (pa_cons (pe_c c_law_loose hr (by first | decide | exact Nat.le_refl _ | exact Nat.le_trans (by decide) (Nat.le_add_right 2 _)) (by rfl) (pa_cons (pv 0) (pa_cons (pe_or2 (pe_ix ix_seq (pv 1) (pv 4) (fun _ _ => rfl)) (pe_dget (hu_of hr) (pv 1) (pv 4) (fun _ _ => rfl))) pa_nil))) pa_nil)))))) pa_nil)))) pss_nil) (pss_one (ps_ret (pv 1))))), (rs_seq (rs_if (rt_B (re_isT (ns := ["list", "tuple"]) (by decide) (by decide) re_v)) (rs_seq (rs_set (RF.e (rf_lc (own := [3]) (ri_seq re_v) (rg_name (i := 3) (by decide)) rt_yes (re_fn (ra_cons re_v (ra_cons re_v ra_nil)))))) (rs_ret (re_if (rt_test (re_op rb_eq (re_fn (ra_cons re_v (ra_cons re_int ra_nil))) re_int)) re_v (re_call rc_tuple (ra_cons re_v ra_nil))))) rs_next) (rs_seq (rs_if (rt_B (re_is1 (by decide) re_v)) (rs_ret (RF.e (rf_call rcf_dict (ra_cons (RF.e (rf_lcK (own := [4]) rp_v (rg_name (i := 4) (by decide)) rt_yes (RF.e (rf_tup (ra_cons re_v (ra_cons (re_fn (ra_cons re_v (ra_cons (re_sub re_v re_v) ra_nil))) ra_nil)))))) ra_nil)))) rs_next) (rs_ret re_v)))⟩
abbrev s_law_copied : Stmt := topS 48
theorem sc_law_copied : FnScope ["thing", "some", "one", "key"] ["thing"] (defScope s_law_copied) := ⟨rfl, rfl, rfl, by decide +kernel, rfl, by decide +kernel, by decide +kernel⟩
noncomputable def g_law_copied (self : FM) : FS := (seqS (ifS (bT (isE ["list", "tuple"] (vE 0))) (seqS (setS 1 (lcE (itF (vE 0)) (tgN 2) yesT (mE self 1 (consA (vE 2) nilA)) [2])) (retS (ifE (bT (isE ["list"] (vE 0))) (vE 1) (callE tupN (consA (vE 1) nilA))))) nextS) (seqS (ifS (bT (isE ["dict"] (vE 0))) (retS (callE dictN (consA (lcE (keysF (vE 0)) (tgN 3) yesT (tupE (consA (vE 3) (consA (mE self 1 (consA (subE (vE 0) (vE 3)) nilA)) nilA))) [3]) nilA))) nextS) (retS (vE 0))))
noncomputable def m_law_copied : Nat → FM
  | 0 => fun _ _ => none
  | n + 1 => runS 4 (g_law_copied (m_law_copied n))
theorem ok_law_copied {f : Addr} {fd : FuncData} (F : Fun K "_law_copied" "_law_copied" s_law_copied f fd) (hm : mg "_law_copied" = some (.ref f)) (hb : Binds K fd ["thing"] []) (T : Tx K mg C tL) : ∀ n, FnOk P w K mg base CX0 (1 + n) f fd ["thing"] (spD (m_law_copied n) 1)
  | 0 => ⟨fun vs H Q E h => by obtain ⟨B, ds, S, d, S', _, _, hd, hn, _⟩ := h; rw [Paired.length hd, hn]; rfl, fun A outer s H args us vs Q E hr he hbd hv h => by obtain ⟨B, ds, S, d, S', _, _, hd, hn, e, _⟩ := h; cases e⟩
  | n + 1 => by
    have c_law_copied : Cal P w K mg base (1 + n) "_law_copied" (spD (m_law_copied n) 1) := ⟨f, fd, _, ok_law_copied F hm hb T n, hm, F.kp, hb⟩
    exact fn_D F sc_law_copied fun cdv A outer s H hr => ⟨_, (pss_cons (ps_if (pt_val (pe_callB call_isiT (by rfl) T.b_isinstance (by decide +kernel) (pa_cons (pv 0) (pa_cons (pe_tup (pa_cons (pe_bltn (v := .ty "list") (u := .type "list") (by rfl) T.b_list (by decide +kernel) rfl) (pa_cons (pe_bltn (v := .ty "tuple") (u := .type "tuple") (by rfl) T.b_tuple (by decide +kernel) rfl) pa_nil))) pa_nil)))) (pss_cons (ps_setLc (i := 1) (own := [("one", 2)]) rfl sc_law_copied.nd rfl rfl (sw_true rfl rfl rfl (by decide +kernel)) (pi_or (pi_list (pv 0)) (pi_or (pi_tup (pv 0)) (pi_str (pv 0)))) (blkOk_by (N := ["thing", "some", "one", "key"]) (sc := defScope s_law_copied) (by decide +kernel)) (fun _ _ _ _ _ => (pg_name (i := 2) sc_law_copied.nd rfl (by first | exact Or.inl rfl | exact Or.inr rfl))) (fun _ _ _ _ _ => pts_nil) (fun _ _ _ _ _ => (pe_c c_law_copied hr (by first | decide | exact Nat.le_refl _ | exact Nat.le_trans (by decide) (Nat.le_add_right 1 _)) (by rfl) (pa_cons (pv 2) pa_nil)))) (pss_one (ps_ret (pe_ifExp (pt_val (pe_callB call_isi (by rfl) T.b_isinstance (by decide +kernel) (pa_cons (pv 0) (pa_cons (pe_bltn (v := .ty "list") (u := .type "list") (by rfl) T.b_list (by decide +kernel) rfl) pa_nil)))) (pv 1) (pe_callTy call_tuple_of (by rfl) T.b_tuple (by decide +kernel) (pa_cons (pv 1) pa_nil)))))) pss_nil) (pss_cons (ps_if (pt_val (pe_callB call_isi (by rfl) T.b_isinstance (by decide +kernel) (pa_cons (pv 0) (pa_cons (pe_bltn (v := .ty "dict") (u := .type "dict") (by rfl) T.b_dict (by decide +kernel) rfl) pa_nil)))) (pss_one (ps_ret (pe_callTy (call_dictP rfl) (by rfl) T.b_dict (by decide +kernel) (pa_cons (pe_or2 (pe_lock (pe_lc (own := [("key", 3)]) rfl sc_law_copied.nd (pi_keys (pv 0)) (blkOk_by (N := ["thing", "some", "one", "key"]) (sc := defScope s_law_copied) (by decide +kernel)) (fun _ _ _ _ _ => (pg_name (i := 3) sc_law_copied.nd rfl (by first | exact Or.inl rfl | exact Or.inr rfl))) (fun _ _ _ _ _ => pts_nil) (fun _ _ _ _ _ => (pe_tup (pa_cons (pv 3) (pa_cons (pe_c c_law_copied hr (by first | decide | exact Nat.le_refl _ | exact Nat.le_trans (by decide) (Nat.le_add_right 1 _)) (by rfl) (pa_cons (pe_or2 (pe_ix ix_seq (pv 0) (pv 3) (fun _ _ => rfl)) (pe_dget (hu_of hr) (pv 0) (pv 3) (fun _ _ => rfl))) pa_nil)) pa_nil)))))) (pe_lc (own := [("key", 3)]) rfl sc_law_copied.nd (pi_keys (pv 0)) (blkOk_by (N := ["thing", "some", "one", "key"]) (sc := defScope s_law_copied) (by decide +kernel)) (fun _ _ _ _ _ => (pg_name (i := 3) sc_law_copied.nd rfl (by first | exact Or.inl rfl | exact Or.inr rfl))) (fun _ _ _ _ _ => pts_nil) (fun _ _ _ _ _ => (pe_tup (pa_cons (pv 3) (pa_cons (pe_c c_law_copied hr (by first | decide | exact Nat.le_refl _ | exact Nat.le_trans (by decide) (Nat.le_add_right 1 _)) (by rfl) (pa_cons (pe_or2 (pe_ix ix_seq (pv 0) (pv 3) (fun _ _ => rfl)) (pe_dget (hu_of hr) (pv 0) (pv 3) (fun _ _ => rfl))) pa_nil)) pa_nil)))))) pa_nil)))) pss_nil) (pss_one (ps_ret (pv 0))))), (rs_seq (rs_if (rt_B (re_isT (ns := ["list", "tuple"]) (by decide) (by decide) re_v)) (rs_seq (rs_set (RF.e (rf_lc (own := [2]) (ri_seq re_v) (rg_name (i := 2) (by decide)) rt_yes (re_fn (ra_cons re_v ra_nil))))) (rs_ret (re_if (rt_B (re_is1 (by decide) re_v)) re_v (re_call rc_tuple (ra_cons re_v ra_nil))))) rs_next) (rs_seq (rs_if (rt_B (re_is1 (by decide) re_v)) (rs_ret (RF.e (rf_call rcf_dict (ra_cons (RF.e (rf_lcK (own := [3]) rp_v (rg_name (i := 3) (by decide)) rt_yes (RF.e (rf_tup (ra_cons re_v (ra_cons (re_fn (ra_cons (re_sub re_v re_v) ra_nil)) ra_nil)))))) ra_nil)))) rs_next) (rs_ret re_v)))⟩
abbrev s_law_names : Stmt := topS 49
theorem sc_law_names : FnScope ["stream", "many", "found", "signs", "k", "name", "one"] ["stream", "many"] (defScope s_law_names) := ⟨rfl, rfl, rfl, by decide +kernel, rfl, by decide +kernel, by decide +kernel⟩
noncomputable def g_law_names : FS := (seqS (parovS 2 3 (lstE nilA) (cE (.str "abcdefghijklmnopqrstuvwxyz"))) (seqS (forS (rng1F (consA (vE 1) nilA)) (tgN 4) (seqS (setS 5 (joinE (cE (.str "")) (lcE (rng1F (consA (opE addA (cE (.int 1)) (mE m_law_draw 2 (consA (vE 0) (consA (mE m_law_pick 2 (consA (vE 0) (consA (lstE (consA (cE (.int 1)) (consA (cE (.int 1)) (consA (cE (.int 3)) nilA)))) nilA))) nilA)))) nilA)) (tgN 6) yesT (mE m_law_pick 2 (consA (vE 0) (consA (vE 3) nilA))) [6]))) (seqS (whS (bT (inOE (vE 5) 2)) (setS 5 (slE (opE addA (vE 5) (mE m_law_pick 2 (consA (vE 0) (consA (vE 3) nilA)))) (someO (negU (cE (.int 5)))) noO))) (appS 2 (vE 5))))) (giveQ 2 (retS (vE 2)))))
noncomputable def m_law_names : FM := runS 7 (g_law_names)
theorem ok_law_names {f : Addr} {fd : FuncData} (F : Fun K "_law_names" "_law_names" s_law_names f fd) (T : Tx K mg C tL) (c_law_draw : Cal P w K mg base 1 "_law_draw" (spD (m_law_draw) 2)) (c_law_pick : Cal P w K mg base 2 "_law_pick" (spD (m_law_pick) 2)) : FnOk P w K mg base CX0 3 f fd ["stream", "many"] (spD (m_law_names) 2) :=
  fn_D F sc_law_names fun cdv A outer s H hr => ⟨_, (pss_cons (ps_asg (pe_tup (pa_cons (pe_lst pa_nil) (pa_cons pe_str pa_nil))) (pg_tupK (K := K) rfl rfl (pgs_cons (pg_name (i := 2) sc_law_names.nd rfl (by first | exact Or.inl rfl | exact Or.inr rfl)) (pgs_cons (pg_name (i := 3) sc_law_names.nd rfl (by first | exact Or.inl rfl | exact Or.inr rfl)) pgs_nil)))) (pss_cons (ps_for PassesOwn.never rfl (pi_range1 rfl T.b_range (pa_cons (pv 1) pa_nil)) (pg_name (i := 4) sc_law_names.nd rfl (by first | exact Or.inl rfl | exact Or.inr rfl)) (pss_cons (ps_set (i := 5) sc_law_names.nd rfl (by first | exact Or.inl rfl | exact Or.inr rfl) (pe_join pe_str (pe_lc (own := [("one", 6)]) rfl sc_law_names.nd (pi_range1 rfl T.b_range (pa_cons (pe_op op_addA pe_int (pe_c c_law_draw hr (by decide) (by rfl) (pa_cons (pv 0) (pa_cons (pe_c c_law_pick hr (by decide) (by rfl) (pa_cons (pv 0) (pa_cons (pe_lst (pa_cons pe_int (pa_cons pe_int (pa_cons pe_int pa_nil)))) pa_nil))) pa_nil)))) pa_nil)) (blkOk_by (N := ["stream", "many", "found", "signs", "k", "name", "one"]) (sc := defScope s_law_names) (by decide +kernel)) (fun _ _ _ _ _ => (pg_name (i := 6) sc_law_names.nd rfl (by first | exact Or.inl rfl | exact Or.inr rfl))) (fun _ _ _ _ _ => pts_nil) (fun _ _ _ _ _ => (pe_c c_law_pick hr (by decide) (by rfl) (pa_cons (pv 0) (pa_cons (pv 3) pa_nil))))))) (pss_cons (ps_while PassesOwn.never (pt_or (pt_cmpR (OpR.or op_in_seq op_in_sign) (pv 5) (pv 2) (by rfl)) (pt_cmp (pc_din (hu_of hr) (pv 5) (pv 2)))) (pss_one (ps_set (i := 5) sc_law_names.nd rfl (by first | exact Or.inl rfl | exact Or.inr rfl) (pe_slice sl_all (pe_op op_addA (pv 5) (pe_c c_law_pick hr (by decide) (by rfl) (pa_cons (pv 0) (pa_cons (pv 3) pa_nil)))) (po_some (pe_un un_neg pe_int)) po_none)))) (pss_one (ps_expr (pe_bm PySem.F.plainAttrs_list PySem.F.slot_list_append PySem.F.type_list_append mt_append (pv 2) (pa_cons (pv 5) pa_nil))))))) (pss_one (ps_ret (pv 2))))), (rs_seq (rs_parovT (by decide) (rf_lst ra_nil) re_str) (rs_seq (rs_for (own := [4]) (ri_rng1 (ra_cons re_v ra_nil)) (rg_name (i := 4) (by decide)) (rs_seq (rs_set (re_join re_str (RF.e (rf_lc (own := [6]) (ri_rng1 (ra_cons (re_op rb_addA re_int (re_fn (ra_cons re_v (ra_cons (re_fn (ra_cons re_v (ra_cons (RF.e (rf_lst (ra_cons re_int (ra_cons re_int (ra_cons re_int ra_nil))))) ra_nil))) ra_nil)))) ra_nil)) (rg_name (i := 6) (by decide)) rt_yes (re_fn (ra_cons re_v (ra_cons re_v ra_nil))))))) (rs_seq (rs_while (rt_in2 (re_inO re_v)) (rs_set (re_sl (re_op rb_addA re_v (re_fn (ra_cons re_v (ra_cons re_v ra_nil)))) (ro_some (re_neg re_int)) ro_none))) (rs_app re_v)))) (rs_giveQ (rs_ret re_v))))⟩
abbrev s_law_table : Stmt := topS 50
theorem sc_law_table : FnScope ["season", "outcome", "found", "team"] ["season", "outcome"] (defScope s_law_table) := ⟨rfl, rfl, rfl, by decide +kernel, rfl, by decide +kernel, by decide +kernel⟩
noncomputable def g_law_table : FS := (seqS (ownS 2 (callE dictN (consA (lcE (keysF (opE ixD (vE 0) (cE (.int 0)))) (tgN 3) yesT (tupE (consA (vE 3) (consA (subE (subE (vE 0) (cE (.int 0))) (vE 3)) nilA))) [3]) nilA))) (seqS (forS (itF (vE 1)) (tgN 3) (dputS 2 (vE 3) (opE addA (subOE 2 (vE 3)) (cE (.int 1))))) (giveQ 2 (retS (vE 2)))))
noncomputable def m_law_table : FM := runS 4 (g_law_table)
theorem ok_law_table {f : Addr} {fd : FuncData} (F : Fun K "_law_table" "_law_table" s_law_table f fd) (T : Tx K mg C tL) : FnOk P w K mg base CX0 1 f fd ["season", "outcome"] (spD (m_law_table) 2) :=
  fn_D F sc_law_table fun cdv A outer s H hr => ⟨_, (pss_cons (ps_set (i := 2) sc_law_table.nd rfl (by first | exact Or.inl rfl | exact Or.inr rfl) (pe_callTy (call_dictP rfl) (by rfl) T.b_dict (by decide +kernel) (pa_cons (pe_or2 (pe_lock (pe_lc (own := [("team", 3)]) rfl sc_law_table.nd (pi_keys (pe_or2 (pe_ix ix_seq (pv 0) pe_int (fun _ _ => rfl)) (pe_dget (hu_of hr) (pv 0) pe_int (fun _ _ => rfl)))) (blkOk_by (N := ["season", "outcome", "found", "team"]) (sc := defScope s_law_table) (by decide +kernel)) (fun _ _ _ _ _ => (pg_name (i := 3) sc_law_table.nd rfl (by first | exact Or.inl rfl | exact Or.inr rfl))) (fun _ _ _ _ _ => pts_nil) (fun _ _ _ _ _ => (pe_tup (pa_cons (pv 3) (pa_cons (pe_or2 (pe_ix ix_seq (pe_or2 (pe_ix ix_seq (pv 0) pe_int (fun _ _ => rfl)) (pe_dget (hu_of hr) (pv 0) pe_int (fun _ _ => rfl))) (pv 3) (fun _ _ => rfl)) (pe_dget (hu_of hr) (pe_or2 (pe_ix ix_seq (pv 0) pe_int (fun _ _ => rfl)) (pe_dget (hu_of hr) (pv 0) pe_int (fun _ _ => rfl))) (pv 3) (fun _ _ => rfl))) pa_nil)))))) (pe_lc (own := [("team", 3)]) rfl sc_law_table.nd (pi_keys (pe_or2 (pe_ix ix_seq (pv 0) pe_int (fun _ _ => rfl)) (pe_dget (hu_of hr) (pv 0) pe_int (fun _ _ => rfl)))) (blkOk_by (N := ["season", "outcome", "found", "team"]) (sc := defScope s_law_table) (by decide +kernel)) (fun _ _ _ _ _ => (pg_name (i := 3) sc_law_table.nd rfl (by first | exact Or.inl rfl | exact Or.inr rfl))) (fun _ _ _ _ _ => pts_nil) (fun _ _ _ _ _ => (pe_tup (pa_cons (pv 3) (pa_cons (pe_or2 (pe_ix ix_seq (pe_or2 (pe_ix ix_seq (pv 0) pe_int (fun _ _ => rfl)) (pe_dget (hu_of hr) (pv 0) pe_int (fun _ _ => rfl))) (pv 3) (fun _ _ => rfl)) (pe_dget (hu_of hr) (pe_or2 (pe_ix ix_seq (pv 0) pe_int (fun _ _ => rfl)) (pe_dget (hu_of hr) (pv 0) pe_int (fun _ _ => rfl))) (pv 3) (fun _ _ => rfl))) pa_nil)))))) pa_nil))) (pss_cons (ps_for PassesOwn.never rfl (pi_or (pi_list (pv 1)) (pi_or (pi_tup (pv 1)) (pi_str (pv 1)))) (pg_name (i := 3) sc_law_table.nd rfl (by first | exact Or.inl rfl | exact Or.inr rfl)) (pss_one (ps_dput (hu_of hr) (pv 2) (pv 3) (pe_op op_addA (pe_or2 (pe_ix ix_seq (pv 2) (pv 3) (fun _ _ => rfl)) (pe_dget (hu_of hr) (pv 2) (pv 3) (fun _ _ => rfl))) pe_int) rfl))) (pss_one (ps_ret (pv 2))))), (rs_seq (rs_own (rf_call rcf_dict (ra_cons (RF.e (rf_lcK (own := [3]) (rp_ix rp_v) (rg_name (i := 3) (by decide)) rt_yes (RF.e (rf_tup (ra_cons re_v (ra_cons (re_sub (re_sub re_v re_int) re_v) ra_nil)))))) ra_nil))) (rs_seq (rs_for (own := [3]) (ri_seq re_v) (rg_name (i := 3) (by decide)) (rs_dput re_v (re_op rb_addA (re_subO re_v) re_int))) (rs_giveQ (rs_ret re_v))))⟩
abbrev s_law_outcomes : Stmt := topS 51
theorem sc_law_outcomes : FnScope ["season", "found", "one", "other", "some"] ["season"] (defScope s_law_outcomes) := ⟨rfl, rfl, rfl, by decide +kernel, rfl, by decide +kernel, by decide +kernel⟩
noncomputable def g_law_outcomes : FS := (seqS (setS 1 (lstE (consA (lstE nilA) nilA))) (seqS (forS (itF (subE (vE 0) (cE (.int 1)))) (tgT 2 (tgCons (tgN 2) (tgCons (tgN 3) tgNil))) (setS 1 (opE addA (lcE (itF (vE 1)) (tgN 4) yesT (opE addA (vE 4) (lstE (consA (vE 2) nilA))) [4]) (lcE (itF (vE 1)) (tgN 4) yesT (opE addA (vE 4) (lstE (consA (vE 3) nilA))) [4])))) (retS (vE 1))))
noncomputable def m_law_outcomes : FM := runS 5 (g_law_outcomes)
theorem ok_law_outcomes {f : Addr} {fd : FuncData} (F : Fun K "_law_outcomes" "_law_outcomes" s_law_outcomes f fd) (T : Tx K mg C tL) : FnOk P w K mg base CX0 1 f fd ["season"] (spD (m_law_outcomes) 1) :=
  fn_D F sc_law_outcomes fun cdv A outer s H hr => ⟨_, (pss_cons (ps_set (i := 1) sc_law_outcomes.nd rfl (by first | exact Or.inl rfl | exact Or.inr rfl) (pe_lst (pa_cons (pe_lst pa_nil) pa_nil))) (pss_cons (ps_for PassesOwn.never rfl (pi_or (pi_list (pe_or2 (pe_ix ix_seq (pv 0) pe_int (fun _ _ => rfl)) (pe_dget (hu_of hr) (pv 0) pe_int (fun _ _ => rfl)))) (pi_or (pi_tup (pe_or2 (pe_ix ix_seq (pv 0) pe_int (fun _ _ => rfl)) (pe_dget (hu_of hr) (pv 0) pe_int (fun _ _ => rfl)))) (pi_str (pe_or2 (pe_ix ix_seq (pv 0) pe_int (fun _ _ => rfl)) (pe_dget (hu_of hr) (pv 0) pe_int (fun _ _ => rfl)))))) (pg_tupK (K := K) rfl rfl (pgs_cons (pg_name (i := 2) sc_law_outcomes.nd rfl (by first | exact Or.inl rfl | exact Or.inr rfl)) (pgs_cons (pg_name (i := 3) sc_law_outcomes.nd rfl (by first | exact Or.inl rfl | exact Or.inr rfl)) pgs_nil))) (pss_one (ps_set (i := 1) sc_law_outcomes.nd rfl (by first | exact Or.inl rfl | exact Or.inr rfl) (pe_op op_addA (pe_lc (own := [("some", 4)]) rfl sc_law_outcomes.nd (pi_or (pi_list (pv 1)) (pi_or (pi_tup (pv 1)) (pi_str (pv 1)))) (blkOk_by (N := ["season", "found", "one", "other", "some"]) (sc := defScope s_law_outcomes) (by decide +kernel)) (fun _ _ _ _ _ => (pg_name (i := 4) sc_law_outcomes.nd rfl (by first | exact Or.inl rfl | exact Or.inr rfl))) (fun _ _ _ _ _ => pts_nil) (fun _ _ _ _ _ => (pe_op op_addA (pv 4) (pe_lst (pa_cons (pv 2) pa_nil))))) (pe_lc (own := [("some", 4)]) rfl sc_law_outcomes.nd (pi_or (pi_list (pv 1)) (pi_or (pi_tup (pv 1)) (pi_str (pv 1)))) (blkOk_by (N := ["season", "found", "one", "other", "some"]) (sc := defScope s_law_outcomes) (by decide +kernel)) (fun _ _ _ _ _ => (pg_name (i := 4) sc_law_outcomes.nd rfl (by first | exact Or.inl rfl | exact Or.inr rfl))) (fun _ _ _ _ _ => pts_nil) (fun _ _ _ _ _ => (pe_op op_addA (pv 4) (pe_lst (pa_cons (pv 3) pa_nil))))))))) (pss_one (ps_ret (pv 1))))), (rs_seq (rs_set (RF.e (rf_lst (ra_cons (RF.e (rf_lst ra_nil)) ra_nil)))) (rs_seq (rs_for (own := [2, 3]) (ri_seq (re_sub re_v re_int)) (rg_tup (rgs_cons (rg_name (i := 2) (by decide)) (rgs_cons (rg_name (i := 3) (by decide)) rgs_nil))) (rs_set (re_op rb_addA (RF.e (rf_lc (own := [4]) (ri_seq re_v) (rg_name (i := 4) (by decide)) rt_yes (re_op rb_addA re_v (RF.e (rf_lst (ra_cons re_v ra_nil)))))) (RF.e (rf_lc (own := [4]) (ri_seq re_v) (rg_name (i := 4) (by decide)) rt_yes (re_op rb_addA re_v (RF.e (rf_lst (ra_cons re_v ra_nil))))))))) (rs_ret re_v)))⟩
abbrev s_law_season : Stmt := topS 52
theorem sc_law_season : FnScope ["stream", "teams", "games", "names", "wide", "found", "wins", "team", "few", "k", "pair"] ["stream", "teams", "games"] (defScope s_law_season) := ⟨rfl, rfl, rfl, by decide +kernel, rfl, by decide +kernel, by decide +kernel⟩
noncomputable def g_law_season : FS := (seqS (setS 3 (callE sortN (consA (mE m_law_names 2 (consA (vE 0) (consA (mE m_law_pick 2 (consA (vE 0) (consA (lstE (consA (vE 1) (consA (vE 1) (consA (opE addA (cE (.int 1)) (mE m_law_draw 2 (consA (vE 0) (consA (vE 1) nilA)))) nilA)))) nilA))) nilA))) nilA))) (seqS (parvoS 4 5 (mE m_law_pick 2 (consA (vE 0) (consA (lstE (consA (cE (.int 1)) (consA (cE (.int 3)) (consA (cE (.int 9)) nilA)))) nilA))) (lstE nilA)) (seqS (setS 6 (callE dictN (consA (lcE (itF (vE 3)) (tgN 7) yesT (tupE (consA (vE 7) (consA (opE addA (mE m_law_draw 2 (consA (vE 0) (consA (vE 4) nilA))) (opE mulA (cE (.int 2)) (callE intN (consA (opE eqA (mE m_law_draw 2 (consA (vE 0) (consA (cE (.int 6)) nilA))) (cE (.int 0))) nilA)))) nilA))) [7]) nilA))) (seqS (setS 8 (slE (mE m_law_mixed 2 (consA (vE 0) (consA (vE 3) nilA))) noO (someO (opE addA (cE (.int 2)) (mE m_law_draw 2 (consA (vE 0) (consA (cE (.int 3)) nilA))))))) (seqS (forS (rng1F (consA (ifE (bT (opE gtI (callE lenN (consA (vE 3) nilA)) (cE (.int 1)))) (mE m_law_pick 2 (consA (vE 0) (consA (lstE (consA (vE 2) (consA (vE 2) (consA (mE m_law_draw 2 (consA (vE 0) (consA (opE addA (vE 2) (cE (.int 1))) nilA))) nilA)))) nilA))) (cE (.int 0))) nilA)) (tgN 9) (seqS (setS 10 (slE (mE m_law_mixed 2 (consA (vE 0) (consA (ifE (andT (bT (opE gtI (callE lenN (consA (vE 8) nilA)) (cE (.int 1)))) (bT (opE eqA (mE m_law_draw 2 (consA (vE 0) (consA (cE (.int 2)) nilA))) (cE (.int 0))))) (vE 8) (vE 3)) nilA))) noO (someO (cE (.int 2))))) (appS 5 (tupE (consA (callE (bestN minZ minS) (consA (vE 10) nilA)) (consA (callE (bestN maxZ maxS) (consA (vE 10) nilA)) nilA)))))) (giveQ 5 (retS (tupE (consA (vE 6) (consA (callE sortN (consA (vE 5) nilA)) nilA))))))))))
noncomputable def m_law_season : FM := runS 11 (g_law_season)
theorem ok_law_season {f : Addr} {fd : FuncData} (F : Fun K "_law_season" "_law_season" s_law_season f fd) (T : Tx K mg C tL) (c_law_names : Cal P w K mg base 3 "_law_names" (spD (m_law_names) 2)) (c_law_pick : Cal P w K mg base 2 "_law_pick" (spD (m_law_pick) 2)) (c_law_draw : Cal P w K mg base 1 "_law_draw" (spD (m_law_draw) 2)) (c_law_mixed : Cal P w K mg base 2 "_law_mixed" (spD (m_law_mixed) 2)) : FnOk P w K mg base CX0 4 f fd ["stream", "teams", "games"] (spD (m_law_season) 3) :=
  fn_D F sc_law_season fun cdv A outer s H hr => ⟨_, (pss_cons (ps_set (i := 3) sc_law_season.nd rfl (by first | exact Or.inl rfl | exact Or.inr rfl) (pe_callB (cr_sortA hr.units) (by rfl) T.b_sorted (by decide +kernel) (pa_cons (pe_c c_law_names hr (by decide) (by rfl) (pa_cons (pv 0) (pa_cons (pe_c c_law_pick hr (by decide) (by rfl) (pa_cons (pv 0) (pa_cons (pe_lst (pa_cons (pv 1) (pa_cons (pv 1) (pa_cons (pe_op op_addA pe_int (pe_c c_law_draw hr (by decide) (by rfl) (pa_cons (pv 0) (pa_cons (pv 1) pa_nil)))) pa_nil)))) pa_nil))) pa_nil))) pa_nil))) (pss_cons (ps_asg (pe_tup (pa_cons (pe_c c_law_pick hr (by decide) (by rfl) (pa_cons (pv 0) (pa_cons (pe_lst (pa_cons pe_int (pa_cons pe_int (pa_cons pe_int pa_nil)))) pa_nil))) (pa_cons (pe_lst pa_nil) pa_nil))) (pg_tupK (K := K) rfl rfl (pgs_cons (pg_name (i := 4) sc_law_season.nd rfl (by first | exact Or.inl rfl | exact Or.inr rfl)) (pgs_cons (pg_name (i := 5) sc_law_season.nd rfl (by first | exact Or.inl rfl | exact Or.inr rfl)) pgs_nil)))) (pss_cons (ps_set (i := 6) sc_law_season.nd rfl (by first | exact Or.inl rfl | exact Or.inr rfl) (pe_callTy (call_dictP rfl) (by rfl) T.b_dict (by decide +kernel) (pa_cons (pe_lc (own := [("team", 7)]) rfl sc_law_season.nd (pi_or (pi_list (pv 3)) (pi_or (pi_tup (pv 3)) (pi_str (pv 3)))) (blkOk_by (N := ["stream", "teams", "games", "names", "wide", "found", "wins", "team", "few", "k", "pair"]) (sc := defScope s_law_season) (by decide +kernel)) (fun _ _ _ _ _ => (pg_name (i := 7) sc_law_season.nd rfl (by first | exact Or.inl rfl | exact Or.inr rfl))) (fun _ _ _ _ _ => pts_nil) (fun _ _ _ _ _ => (pe_tup (pa_cons (pv 7) (pa_cons (pe_op op_addA (pe_c c_law_draw hr (by decide) (by rfl) (pa_cons (pv 0) (pa_cons (pv 4) pa_nil))) (pe_op op_mulA pe_int (pe_callTy call_int1 (by rfl) T.b_int (by decide +kernel) (pa_cons (pe_cmpR op_eq (pe_c c_law_draw hr (by decide) (by rfl) (pa_cons (pv 0) (pa_cons pe_int pa_nil))) pe_int (nomark _)) pa_nil)))) pa_nil))))) pa_nil))) (pss_cons (ps_set (i := 8) sc_law_season.nd rfl (by first | exact Or.inl rfl | exact Or.inr rfl) (pe_slice sl_all (pe_c c_law_mixed hr (by decide) (by rfl) (pa_cons (pv 0) (pa_cons (pv 3) pa_nil))) po_none (po_some (pe_op op_addA pe_int (pe_c c_law_draw hr (by decide) (by rfl) (pa_cons (pv 0) (pa_cons pe_int pa_nil))))))) (pss_cons (ps_for PassesOwn.never rfl (pi_range1 rfl T.b_range (pa_cons (pe_ifExp (pt_cmpR op_gt (pe_callB call_lenA (by rfl) T.b_len (by decide +kernel) (pa_cons (pv 3) pa_nil)) pe_int (nomark _)) (pe_c c_law_pick hr (by decide) (by rfl) (pa_cons (pv 0) (pa_cons (pe_lst (pa_cons (pv 2) (pa_cons (pv 2) (pa_cons (pe_c c_law_draw hr (by decide) (by rfl) (pa_cons (pv 0) (pa_cons (pe_op op_addA (pv 2) pe_int) pa_nil))) pa_nil)))) pa_nil))) pe_int) pa_nil)) (pg_name (i := 9) sc_law_season.nd rfl (by first | exact Or.inl rfl | exact Or.inr rfl)) (pss_cons (ps_set (i := 10) sc_law_season.nd rfl (by first | exact Or.inl rfl | exact Or.inr rfl) (pe_slice sl_all (pe_c c_law_mixed hr (by decide) (by rfl) (pa_cons (pv 0) (pa_cons (pe_ifExp ((pw_and (pt_cmpR op_gt (pe_callB call_lenA (by rfl) T.b_len (by decide +kernel) (pa_cons (pv 8) pa_nil)) pe_int (nomark _)) (pw_and1 (pt_cmpR op_eq (pe_c c_law_draw hr (by decide) (by rfl) (pa_cons (pv 0) (pa_cons pe_int pa_nil))) pe_int (nomark _))))).pt (pv 8) (pv 3)) pa_nil))) po_none (po_some pe_int))) (pss_one (ps_expr (pe_bm PySem.F.plainAttrs_list PySem.F.slot_list_append PySem.F.type_list_append mt_append (pv 5) (pa_cons (pe_tup (pa_cons (pe_callB (cr_minA rfl hr.units) (by rfl) T.b_min (by decide +kernel) (pa_cons (pv 10) pa_nil)) (pa_cons (pe_callB (cr_maxA rfl hr.units) (by rfl) T.b_max (by decide +kernel) (pa_cons (pv 10) pa_nil)) pa_nil))) pa_nil)))))) (pss_one (ps_ret (pe_tup (pa_cons (pv 6) (pa_cons (pe_callB (cr_sortA hr.units) (by rfl) T.b_sorted (by decide +kernel) (pa_cons (pv 5) pa_nil)) pa_nil)))))))))), (rs_seq (rs_set (RF.e (rf_call rcf_sortA (ra_cons (re_fn (ra_cons re_v (ra_cons (re_fn (ra_cons re_v (ra_cons (RF.e (rf_lst (ra_cons re_v (ra_cons re_v (ra_cons (re_op rb_addA re_int (re_fn (ra_cons re_v (ra_cons re_v ra_nil)))) ra_nil))))) ra_nil))) ra_nil))) ra_nil)))) (rs_seq (rs_parvoT (by decide) (re_fn (ra_cons re_v (ra_cons (RF.e (rf_lst (ra_cons re_int (ra_cons re_int (ra_cons re_int ra_nil))))) ra_nil))) (rf_lst ra_nil)) (rs_seq (rs_set (RF.e (rf_call rcf_dict (ra_cons (RF.e (rf_lc (own := [7]) (ri_seq re_v) (rg_name (i := 7) (by decide)) rt_yes (RF.e (rf_tup (ra_cons re_v (ra_cons (re_op rb_addA (re_fn (ra_cons re_v (ra_cons re_v ra_nil))) (re_op rb_mulA re_int (re_call rc_int (ra_cons (re_op rb_eq (re_fn (ra_cons re_v (ra_cons re_int ra_nil))) re_int) ra_nil)))) ra_nil)))))) ra_nil)))) (rs_seq (rs_set (re_sl (re_fn (ra_cons re_v (ra_cons re_v ra_nil))) ro_none (ro_some (re_op rb_addA re_int (re_fn (ra_cons re_v (ra_cons re_int ra_nil))))))) (rs_seq (rs_for (own := [9]) (ri_rng1 (ra_cons (re_if (rt_test (re_op rb_gt (re_call rc_len (ra_cons re_v ra_nil)) re_int)) (re_fn (ra_cons re_v (ra_cons (RF.e (rf_lst (ra_cons re_v (ra_cons re_v (ra_cons (re_fn (ra_cons re_v (ra_cons (re_op rb_addA re_v re_int) ra_nil))) ra_nil))))) ra_nil))) re_int) ra_nil)) (rg_name (i := 9) (by decide)) (rs_seq (rs_set (re_sl (re_fn (ra_cons re_v (ra_cons (re_if (rt_and (rt_test (re_op rb_gt (re_call rc_len (ra_cons re_v ra_nil)) re_int)) (rt_test (re_op rb_eq (re_fn (ra_cons re_v (ra_cons re_int ra_nil))) re_int))) re_v re_v) ra_nil))) ro_none (ro_some re_int))) (rs_app (RF.e (rf_tup (ra_cons (re_call rc_best (ra_cons re_v ra_nil)) (ra_cons (re_call rc_best (ra_cons re_v ra_nil)) ra_nil))))))) (rs_giveQ (rs_ret (RF.e (rf_tup (ra_cons re_v (ra_cons (RF.e (rf_call rcf_sortA (ra_cons re_v ra_nil))) ra_nil)))))))))))⟩
abbrev s_law_drawn_outcome : Stmt := topS 53
theorem sc_law_drawn_outcome : FnScope ["stream", "season", "game"] ["stream", "season"] (defScope s_law_drawn_outcome) := ⟨rfl, rfl, rfl, by decide +kernel, rfl, by decide +kernel, by decide +kernel⟩
noncomputable def g_law_drawn_outcome : FS := (retS (lcE (itF (subE (vE 1) (cE (.int 1)))) (tgN 2) yesT (mE m_law_pick 2 (consA (vE 0) (consA (callE listA (consA (vE 2) nilA)) nilA))) [2]))
noncomputable def m_law_drawn_outcome : FM := runS 3 (g_law_drawn_outcome)
theorem ok_law_drawn_outcome {f : Addr} {fd : FuncData} (F : Fun K "_law_drawn_outcome" "_law_drawn_outcome" s_law_drawn_outcome f fd) (T : Tx K mg C tL) (c_law_pick : Cal P w K mg base 2 "_law_pick" (spD (m_law_pick) 2)) : FnOk P w K mg base CX0 3 f fd ["stream", "season"] (spD (m_law_drawn_outcome) 2) :=
  fn_D F sc_law_drawn_outcome fun cdv A outer s H hr => ⟨_, (pss_one (ps_ret (pe_lc (own := [("game", 2)]) rfl sc_law_drawn_outcome.nd (pi_or (pi_list (pe_or2 (pe_ix ix_seq (pv 1) pe_int (fun _ _ => rfl)) (pe_dget (hu_of hr) (pv 1) pe_int (fun _ _ => rfl)))) (pi_or (pi_tup (pe_or2 (pe_ix ix_seq (pv 1) pe_int (fun _ _ => rfl)) (pe_dget (hu_of hr) (pv 1) pe_int (fun _ _ => rfl)))) (pi_str (pe_or2 (pe_ix ix_seq (pv 1) pe_int (fun _ _ => rfl)) (pe_dget (hu_of hr) (pv 1) pe_int (fun _ _ => rfl)))))) (blkOk_by (N := ["stream", "season", "game"]) (sc := defScope s_law_drawn_outcome) (by decide +kernel)) (fun _ _ _ _ _ => (pg_name (i := 2) sc_law_drawn_outcome.nd rfl (by first | exact Or.inl rfl | exact Or.inr rfl))) (fun _ _ _ _ _ => pts_nil) (fun _ _ _ _ _ => (pe_c c_law_pick hr (by decide) (by rfl) (pa_cons (pv 0) (pa_cons (pe_callTy (call_listA rfl) (by rfl) T.b_list (by decide +kernel) (pa_cons (pv 2) pa_nil)) pa_nil))))))), (rs_ret (RF.e (rf_lc (own := [2]) (ri_seq (re_sub re_v re_int)) (rg_name (i := 2) (by decide)) rt_yes (re_fn (ra_cons re_v (ra_cons (RF.e (rf_call rcf_listA (ra_cons re_v ra_nil))) ra_nil))))))⟩
abbrev s_law_made : Stmt := topS 54
theorem sc_law_made : FnScope ["stream", "season", "rows", "team", "games", "game"] ["stream", "season"] (defScope s_law_made) := ⟨rfl, rfl, rfl, by decide +kernel, rfl, by decide +kernel, by decide +kernel⟩
noncomputable def g_law_made (C : Addr) : FS := (seqS (setS 2 (mE (m_law_loose 4) 2 (consA (vE 0) (consA (mE m_law_mixed 2 (consA (vE 0) (consA (lcE (keysF (opE ixD (vE 1) (cE (.int 0)))) (tgN 3) yesT (tupE (consA (vE 3) (consA (subE (subE (vE 1) (cE (.int 0))) (vE 3)) nilA))) [3]) nilA))) nilA)))) (seqS (setS 4 (lcE (itF (subE (vE 1) (cE (.int 1)))) (tgN 5) yesT (mE (m_law_loose 4) 2 (consA (vE 0) (consA (callE tupN (consA (mE m_law_mixed 2 (consA (vE 0) (consA (callE listA (consA (vE 5) nilA)) nilA))) nilA)) nilA))) [5])) (retS (mkE C (mk_m_Season C) 2 (consA (vE 2) (consA (mE (m_law_loose 4) 2 (consA (vE 0) (consA (mE m_law_mixed 2 (consA (vE 0) (consA (vE 4) nilA))) nilA))) nilA))))))
noncomputable def m_law_made (C : Addr) : FM := runS 6 (g_law_made C)
theorem ok_law_made {f : Addr} {fd : FuncData} (F : Fun K "_law_made" "_law_made" s_law_made f fd) (T : Tx K mg C tL) (c_law_loose : Cal P w K mg base 6 "_law_loose" (spD (m_law_loose 4) 2)) (c_law_mixed : Cal P w K mg base 2 "_law_mixed" (spD (m_law_mixed) 2)) (mk_Season : Mak P w K mg base 4 "Season" C (spI C (mk_m_Season C) 2)) : FnOk P w K mg base CX0 7 f fd ["stream", "season"] (spD (m_law_made C) 2) :=
  fn_D F sc_law_made fun cdv A outer s H hr => ⟨_, (pss_cons (ps_set (i := 2) sc_law_made.nd rfl (by first | exact Or.inl rfl | exact Or.inr rfl) (pe_c c_law_loose hr (by decide) (by rfl) (pa_cons (pv 0) (pa_cons (pe_c c_law_mixed hr (by decide) (by rfl) (pa_cons (pv 0) (pa_cons (pe_or2 (pe_lock (pe_lc (own := [("team", 3)]) rfl sc_law_made.nd (pi_keys (pe_or2 (pe_ix ix_seq (pv 1) pe_int (fun _ _ => rfl)) (pe_dget (hu_of hr) (pv 1) pe_int (fun _ _ => rfl)))) (blkOk_by (N := ["stream", "season", "rows", "team", "games", "game"]) (sc := defScope s_law_made) (by decide +kernel)) (fun _ _ _ _ _ => (pg_name (i := 3) sc_law_made.nd rfl (by first | exact Or.inl rfl | exact Or.inr rfl))) (fun _ _ _ _ _ => pts_nil) (fun _ _ _ _ _ => (pe_tup (pa_cons (pv 3) (pa_cons (pe_or2 (pe_ix ix_seq (pe_or2 (pe_ix ix_seq (pv 1) pe_int (fun _ _ => rfl)) (pe_dget (hu_of hr) (pv 1) pe_int (fun _ _ => rfl))) (pv 3) (fun _ _ => rfl)) (pe_dget (hu_of hr) (pe_or2 (pe_ix ix_seq (pv 1) pe_int (fun _ _ => rfl)) (pe_dget (hu_of hr) (pv 1) pe_int (fun _ _ => rfl))) (pv 3) (fun _ _ => rfl))) pa_nil)))))) (pe_lc (own := [("team", 3)]) rfl sc_law_made.nd (pi_keys (pe_or2 (pe_ix ix_seq (pv 1) pe_int (fun _ _ => rfl)) (pe_dget (hu_of hr) (pv 1) pe_int (fun _ _ => rfl)))) (blkOk_by (N := ["stream", "season", "rows", "team", "games", "game"]) (sc := defScope s_law_made) (by decide +kernel)) (fun _ _ _ _ _ => (pg_name (i := 3) sc_law_made.nd rfl (by first | exact Or.inl rfl | exact Or.inr rfl))) (fun _ _ _ _ _ => pts_nil) (fun _ _ _ _ _ => (pe_tup (pa_cons (pv 3) (pa_cons (pe_or2 (pe_ix ix_seq (pe_or2 (pe_ix ix_seq (pv 1) pe_int (fun _ _ => rfl)) (pe_dget (hu_of hr) (pv 1) pe_int (fun _ _ => rfl))) (pv 3) (fun _ _ => rfl)) (pe_dget (hu_of hr) (pe_or2 (pe_ix ix_seq (pv 1) pe_int (fun _ _ => rfl)) (pe_dget (hu_of hr) (pv 1) pe_int (fun _ _ => rfl))) (pv 3) (fun _ _ => rfl))) pa_nil)))))) pa_nil))) pa_nil)))) (pss_cons (ps_setLc (i := 4) (own := [("game", 5)]) rfl sc_law_made.nd rfl rfl (sw_true rfl rfl rfl (by decide +kernel)) (pi_or (pi_list (pe_or2 (pe_ix ix_seq (pv 1) pe_int (fun _ _ => rfl)) (pe_dget (hu_of hr) (pv 1) pe_int (fun _ _ => rfl)))) (pi_or (pi_tup (pe_or2 (pe_ix ix_seq (pv 1) pe_int (fun _ _ => rfl)) (pe_dget (hu_of hr) (pv 1) pe_int (fun _ _ => rfl)))) (pi_str (pe_or2 (pe_ix ix_seq (pv 1) pe_int (fun _ _ => rfl)) (pe_dget (hu_of hr) (pv 1) pe_int (fun _ _ => rfl)))))) (blkOk_by (N := ["stream", "season", "rows", "team", "games", "game"]) (sc := defScope s_law_made) (by decide +kernel)) (fun _ _ _ _ _ => (pg_name (i := 5) sc_law_made.nd rfl (by first | exact Or.inl rfl | exact Or.inr rfl))) (fun _ _ _ _ _ => pts_nil) (fun _ _ _ _ _ => (pe_c c_law_loose hr (by decide) (by rfl) (pa_cons (pv 0) (pa_cons (pe_callTy call_tuple_of (by rfl) T.b_tuple (by decide +kernel) (pa_cons (pe_c c_law_mixed hr (by decide) (by rfl) (pa_cons (pv 0) (pa_cons (pe_callTy (call_listA rfl) (by rfl) T.b_list (by decide +kernel) (pa_cons (pv 5) pa_nil)) pa_nil))) pa_nil)) pa_nil))))) (pss_one (ps_ret (pe_mk mk_Season hr (by decide) (by rfl) (pa_cons (pv 2) (pa_cons (pe_c c_law_loose hr (by decide) (by rfl) (pa_cons (pv 0) (pa_cons (pe_c c_law_mixed hr (by decide) (by rfl) (pa_cons (pv 0) (pa_cons (pv 4) pa_nil))) pa_nil))) pa_nil))))))), (rs_seq (rs_set (re_fn (ra_cons re_v (ra_cons (re_fn (ra_cons re_v (ra_cons (RF.e (rf_lcK (own := [3]) (rp_ix rp_v) (rg_name (i := 3) (by decide)) rt_yes (RF.e (rf_tup (ra_cons re_v (ra_cons (re_sub (re_sub re_v re_int) re_v) ra_nil)))))) ra_nil))) ra_nil)))) (rs_seq (rs_set (RF.e (rf_lc (own := [5]) (ri_seq (re_sub re_v re_int)) (rg_name (i := 5) (by decide)) rt_yes (re_fn (ra_cons re_v (ra_cons (re_call rc_tuple (ra_cons (re_fn (ra_cons re_v (ra_cons (RF.e (rf_call rcf_listA (ra_cons re_v ra_nil))) ra_nil))) ra_nil)) ra_nil)))))) (rs_ret (re_mk (ra_cons re_v (ra_cons (re_fn (ra_cons re_v (ra_cons (re_fn (ra_cons re_v (ra_cons re_v ra_nil))) ra_nil))) ra_nil))))))⟩
abbrev s_law_shows : Stmt := topS 55
theorem sc_law_shows : FnScope ["made", "season"] ["made", "season"] (defScope s_law_shows) := ⟨rfl, rfl, rfl, by decide +kernel, rfl, by decide +kernel, by decide +kernel⟩
noncomputable def g_law_shows (C : Addr) : FS := (retS (andE (isCE C (vE 0)) (mE (m_law_same 6) 2 (consA (lstE (consA (methE C "wins" (m_Season_wins C) 1 (vE 0) nilA) (consA (methE C "games" (m_Season_games C) 1 (vE 0) nilA) nilA))) (consA (lstE (consA (subE (vE 1) (cE (.int 0))) (consA (subE (vE 1) (cE (.int 1))) nilA))) nilA)))))
noncomputable def m_law_shows (C : Addr) : FM := runS 2 (g_law_shows C)
theorem ok_law_shows {f : Addr} {fd : FuncData} (F : Fun K "_law_shows" "_law_shows" s_law_shows f fd) (T : Tx K mg C tL) (c_law_same : Cal P w K mg base 7 "_law_same" (spD (m_law_same 6) 2)) (c_Season_games : Met P w K mg base 1 C "games" (spD (m_Season_games C) 1)) (c_Season_wins : Met P w K mg base 1 C "wins" (spD (m_Season_wins C) 1)) : FnOk P w K mg base CX0 8 f fd ["made", "season"] (spD (m_law_shows C) 2) :=
  fn_D F sc_law_shows fun cdv A outer s H hr => ⟨_, (pss_one (ps_ret (pe_and (pe_callB call_isi (by rfl) T.b_isinstance (by decide +kernel) (pa_cons (pv 0) (pa_cons (pe_glob (v := .ref C) (by rfl) T.g_Season rfl) pa_nil))) (pe_one (pe_c c_law_same hr (by decide) (by rfl) (pa_cons (pe_lst (pa_cons (pe_mt0 c_Season_wins hr (by decide) (pv 0)) (pa_cons (pe_mt0 c_Season_games hr (by decide) (pv 0)) pa_nil))) (pa_cons (pe_lst (pa_cons (pe_or2 (pe_ix ix_seq (pv 1) pe_int (fun _ _ => rfl)) (pe_dget (hu_of hr) (pv 1) pe_int (fun _ _ => rfl))) (pa_cons (pe_or2 (pe_ix ix_seq (pv 1) pe_int (fun _ _ => rfl)) (pe_dget (hu_of hr) (pv 1) pe_int (fun _ _ => rfl))) pa_nil))) pa_nil))))))), (rs_ret (re_and (re_isC T.ow re_v) (re_fn (ra_cons (RF.e (rf_lst (ra_cons (re_meth re_v ra_nil) (ra_cons (re_meth re_v ra_nil) ra_nil)))) (ra_cons (RF.e (rf_lst (ra_cons (re_sub re_v re_int) (ra_cons (re_sub re_v re_int) ra_nil)))) ra_nil)))))⟩
abbrev s_law_bounds : Stmt := topS 56
theorem sc_law_bounds : FnScope ["stream", "season", "table", "found", "way", "wide", "one_for_all", "team", "low", "high"] ["stream", "season"] (defScope s_law_bounds) := ⟨rfl, rfl, rfl, by decide +kernel, rfl, by decide +kernel, by decide +kernel⟩
noncomputable def g_law_bounds : FS := (seqS (parvoS 2 3 (mE m_law_table 2 (consA (vE 1) (consA (mE m_law_drawn_outcome 2 (consA (vE 0) (consA (vE 1) nilA))) nilA))) (lstE nilA)) (seqS (parvvS 4 5 (mE m_law_pick 2 (consA (vE 0) (consA (lstE (consA (cE (.int 0)) (consA (cE (.int 0)) (consA (cE (.int 0)) (consA (cE (.int 0)) (consA (cE (.int 1)) (consA (cE (.int 2)) (consA (cE (.int 3)) nilA)))))))) nilA))) (mE m_law_pick 2 (consA (vE 0) (consA (lstE (consA (cE (.int 0)) (consA (cE (.int 0)) (consA (cE (.int 1)) (consA (cE (.int 2)) nilA))))) nilA)))) (seqS (setS 6 (mE m_law_draw 2 (consA (vE 0) (consA (cE (.int 6)) nilA)))) (seqS (forS (keysF (opE ixD (vE 1) (cE (.int 0)))) (tgN 7) (seqS (parvvS 8 9 (callE max2N (consA (cE (.int 0)) (consA (opE subI (subE (vE 2) (vE 7)) (mE m_law_draw 2 (consA (vE 0) (consA (opE addA (vE 5) (cE (.int 1))) nilA)))) nilA))) (opE addA (subE (vE 2) (vE 7)) (mE m_law_draw 2 (consA (vE 0) (consA (opE addA (vE 5) (cE (.int 1))) nilA))))) (seqS (ifS (bT (opE eqA (vE 4) (cE (.int 1)))) (parvvS 8 9 (cE (.int 0)) (callE max2N (consA (subE (subE (vE 1) (cE (.int 0))) (vE 7)) (consA (opE addA (vE 6) (cE (.int 2))) nilA)))) nextS) (seqS (ifS (bT (opE eqA (vE 4) (cE (.int 2)))) (parvvS 8 9 (callE min2N (consA (vE 6) (consA (cE (.int 4)) nilA))) (cE (.int 40))) nextS) (seqS (ifS (bT (opE eqA (vE 4) (cE (.int 3)))) (seqS (setS 8 (opE addA (vE 8) (callE intN (consA (opE eqA (mE m_law_draw 2 (consA (vE 0) (consA (cE (.int 5)) nilA))) (cE (.int 0))) nilA)))) (setS 9 (callE max2N (consA (vE 8) (consA (opE subI (vE 9) (callE intN (consA (opE eqA (mE m_law_draw 2 (consA (vE 0) (consA (cE (.int 5)) nilA))) (cE (.int 0))) nilA))) nilA))))) nextS) (appS 3 (tupE (consA (vE 7) (consA (tupE (consA (vE 8) (consA (vE 9) nilA))) nilA))))))))) (giveQ 3 (retS (callE dictN (consA (vE 3) nilA))))))))
noncomputable def m_law_bounds : FM := runS 10 (g_law_bounds)
theorem ok_law_bounds {f : Addr} {fd : FuncData} (F : Fun K "_law_bounds" "_law_bounds" s_law_bounds f fd) (T : Tx K mg C tL) (c_law_table : Cal P w K mg base 1 "_law_table" (spD (m_law_table) 2)) (c_law_drawn_outcome : Cal P w K mg base 3 "_law_drawn_outcome" (spD (m_law_drawn_outcome) 2)) (c_law_pick : Cal P w K mg base 2 "_law_pick" (spD (m_law_pick) 2)) (c_law_draw : Cal P w K mg base 1 "_law_draw" (spD (m_law_draw) 2)) : FnOk P w K mg base CX0 4 f fd ["stream", "season"] (spD (m_law_bounds) 2) :=
  fn_D F sc_law_bounds fun cdv A outer s H hr => ⟨_, (pss_cons (ps_parA sc_law_bounds.nd rfl rfl (pa_cons (pe_c c_law_table hr (by decide) (by rfl) (pa_cons (pv 1) (pa_cons (pe_c c_law_drawn_outcome hr (by decide) (by rfl) (pa_cons (pv 0) (pa_cons (pv 1) pa_nil))) pa_nil))) (pa_cons (pe_lst pa_nil) pa_nil))) (pss_cons (ps_parA sc_law_bounds.nd rfl rfl (pa_cons (pe_c c_law_pick hr (by decide) (by rfl) (pa_cons (pv 0) (pa_cons (pe_lst (pa_cons pe_int (pa_cons pe_int (pa_cons pe_int (pa_cons pe_int (pa_cons pe_int (pa_cons pe_int (pa_cons pe_int pa_nil)))))))) pa_nil))) (pa_cons (pe_c c_law_pick hr (by decide) (by rfl) (pa_cons (pv 0) (pa_cons (pe_lst (pa_cons pe_int (pa_cons pe_int (pa_cons pe_int (pa_cons pe_int pa_nil))))) pa_nil))) pa_nil))) (pss_cons (ps_set (i := 6) sc_law_bounds.nd rfl (by first | exact Or.inl rfl | exact Or.inr rfl) (pe_c c_law_draw hr (by decide) (by rfl) (pa_cons (pv 0) (pa_cons pe_int pa_nil)))) (pss_cons (ps_or (ps_lock (ps_for PassesOwn.never rfl (pi_keys (pe_or2 (pe_ix ix_seq (pv 1) pe_int (fun _ _ => rfl)) (pe_dget (hu_of hr) (pv 1) pe_int (fun _ _ => rfl)))) (pg_name (i := 7) sc_law_bounds.nd rfl (by first | exact Or.inl rfl | exact Or.inr rfl)) (pss_cons (ps_parA sc_law_bounds.nd rfl rfl (pa_cons (pe_callB (call_max2 rfl) (by rfl) T.b_max (by decide +kernel) (pa_cons pe_int (pa_cons (pe_op op_sub (pe_or2 (pe_ix ix_seq (pv 2) (pv 7) (fun _ _ => rfl)) (pe_dget (hu_of hr) (pv 2) (pv 7) (fun _ _ => rfl))) (pe_c c_law_draw hr (by decide) (by rfl) (pa_cons (pv 0) (pa_cons (pe_op op_addA (pv 5) pe_int) pa_nil)))) pa_nil))) (pa_cons (pe_op op_addA (pe_or2 (pe_ix ix_seq (pv 2) (pv 7) (fun _ _ => rfl)) (pe_dget (hu_of hr) (pv 2) (pv 7) (fun _ _ => rfl))) (pe_c c_law_draw hr (by decide) (by rfl) (pa_cons (pv 0) (pa_cons (pe_op op_addA (pv 5) pe_int) pa_nil)))) pa_nil))) (pss_cons (ps_if (pt_cmpR op_eq (pv 4) pe_int (nomark _)) (pss_one (ps_parA sc_law_bounds.nd rfl rfl (pa_cons pe_int (pa_cons (pe_callB (call_max2 rfl) (by rfl) T.b_max (by decide +kernel) (pa_cons (pe_or2 (pe_ix ix_seq (pe_or2 (pe_ix ix_seq (pv 1) pe_int (fun _ _ => rfl)) (pe_dget (hu_of hr) (pv 1) pe_int (fun _ _ => rfl))) (pv 7) (fun _ _ => rfl)) (pe_dget (hu_of hr) (pe_or2 (pe_ix ix_seq (pv 1) pe_int (fun _ _ => rfl)) (pe_dget (hu_of hr) (pv 1) pe_int (fun _ _ => rfl))) (pv 7) (fun _ _ => rfl))) (pa_cons (pe_op op_addA (pv 6) pe_int) pa_nil))) pa_nil)))) pss_nil) (pss_cons (ps_if (pt_cmpR op_eq (pv 4) pe_int (nomark _)) (pss_one (ps_parA sc_law_bounds.nd rfl rfl (pa_cons (pe_callB (call_min2 rfl) (by rfl) T.b_min (by decide +kernel) (pa_cons (pv 6) (pa_cons pe_int pa_nil))) (pa_cons pe_int pa_nil)))) pss_nil) (pss_cons (ps_if (pt_cmpR op_eq (pv 4) pe_int (nomark _)) (pss_cons (ps_set (i := 8) sc_law_bounds.nd rfl (by first | exact Or.inl rfl | exact Or.inr rfl) (pe_op op_addA (pv 8) (pe_callTy call_int1 (by rfl) T.b_int (by decide +kernel) (pa_cons (pe_cmpR op_eq (pe_c c_law_draw hr (by decide) (by rfl) (pa_cons (pv 0) (pa_cons pe_int pa_nil))) pe_int (nomark _)) pa_nil)))) (pss_one (ps_set (i := 9) sc_law_bounds.nd rfl (by first | exact Or.inl rfl | exact Or.inr rfl) (pe_callB (call_max2 rfl) (by rfl) T.b_max (by decide +kernel) (pa_cons (pv 8) (pa_cons (pe_op op_sub (pv 9) (pe_callTy call_int1 (by rfl) T.b_int (by decide +kernel) (pa_cons (pe_cmpR op_eq (pe_c c_law_draw hr (by decide) (by rfl) (pa_cons (pv 0) (pa_cons pe_int pa_nil))) pe_int (nomark _)) pa_nil))) pa_nil)))))) pss_nil) (pss_one (ps_expr (pe_bm PySem.F.plainAttrs_list PySem.F.slot_list_append PySem.F.type_list_append mt_append (pv 3) (pa_cons (pe_tup (pa_cons (pv 7) (pa_cons (pe_tup (pa_cons (pv 8) (pa_cons (pv 9) pa_nil))) pa_nil))) pa_nil)))))))))) (ps_for PassesOwn.never rfl (pi_keys (pe_or2 (pe_ix ix_seq (pv 1) pe_int (fun _ _ => rfl)) (pe_dget (hu_of hr) (pv 1) pe_int (fun _ _ => rfl)))) (pg_name (i := 7) sc_law_bounds.nd rfl (by first | exact Or.inl rfl | exact Or.inr rfl)) (pss_cons (ps_parA sc_law_bounds.nd rfl rfl (pa_cons (pe_callB (call_max2 rfl) (by rfl) T.b_max (by decide +kernel) (pa_cons pe_int (pa_cons (pe_op op_sub (pe_or2 (pe_ix ix_seq (pv 2) (pv 7) (fun _ _ => rfl)) (pe_dget (hu_of hr) (pv 2) (pv 7) (fun _ _ => rfl))) (pe_c c_law_draw hr (by decide) (by rfl) (pa_cons (pv 0) (pa_cons (pe_op op_addA (pv 5) pe_int) pa_nil)))) pa_nil))) (pa_cons (pe_op op_addA (pe_or2 (pe_ix ix_seq (pv 2) (pv 7) (fun _ _ => rfl)) (pe_dget (hu_of hr) (pv 2) (pv 7) (fun _ _ => rfl))) (pe_c c_law_draw hr (by decide) (by rfl) (pa_cons (pv 0) (pa_cons (pe_op op_addA (pv 5) pe_int) pa_nil)))) pa_nil))) (pss_cons (ps_if (pt_cmpR op_eq (pv 4) pe_int (nomark _)) (pss_one (ps_parA sc_law_bounds.nd rfl rfl (pa_cons pe_int (pa_cons (pe_callB (call_max2 rfl) (by rfl) T.b_max (by decide +kernel) (pa_cons (pe_or2 (pe_ix ix_seq (pe_or2 (pe_ix ix_seq (pv 1) pe_int (fun _ _ => rfl)) (pe_dget (hu_of hr) (pv 1) pe_int (fun _ _ => rfl))) (pv 7) (fun _ _ => rfl)) (pe_dget (hu_of hr) (pe_or2 (pe_ix ix_seq (pv 1) pe_int (fun _ _ => rfl)) (pe_dget (hu_of hr) (pv 1) pe_int (fun _ _ => rfl))) (pv 7) (fun _ _ => rfl))) (pa_cons (pe_op op_addA (pv 6) pe_int) pa_nil))) pa_nil)))) pss_nil) (pss_cons (ps_if (pt_cmpR op_eq (pv 4) pe_int (nomark _)) (pss_one (ps_parA sc_law_bounds.nd rfl rfl (pa_cons (pe_callB (call_min2 rfl) (by rfl) T.b_min (by decide +kernel) (pa_cons (pv 6) (pa_cons pe_int pa_nil))) (pa_cons pe_int pa_nil)))) pss_nil) (pss_cons (ps_if (pt_cmpR op_eq (pv 4) pe_int (nomark _)) (pss_cons (ps_set (i := 8) sc_law_bounds.nd rfl (by first | exact Or.inl rfl | exact Or.inr rfl) (pe_op op_addA (pv 8) (pe_callTy call_int1 (by rfl) T.b_int (by decide +kernel) (pa_cons (pe_cmpR op_eq (pe_c c_law_draw hr (by decide) (by rfl) (pa_cons (pv 0) (pa_cons pe_int pa_nil))) pe_int (nomark _)) pa_nil)))) (pss_one (ps_set (i := 9) sc_law_bounds.nd rfl (by first | exact Or.inl rfl | exact Or.inr rfl) (pe_callB (call_max2 rfl) (by rfl) T.b_max (by decide +kernel) (pa_cons (pv 8) (pa_cons (pe_op op_sub (pv 9) (pe_callTy call_int1 (by rfl) T.b_int (by decide +kernel) (pa_cons (pe_cmpR op_eq (pe_c c_law_draw hr (by decide) (by rfl) (pa_cons (pv 0) (pa_cons pe_int pa_nil))) pe_int (nomark _)) pa_nil))) pa_nil)))))) pss_nil) (pss_one (ps_expr (pe_bm PySem.F.plainAttrs_list PySem.F.slot_list_append PySem.F.type_list_append mt_append (pv 3) (pa_cons (pe_tup (pa_cons (pv 7) (pa_cons (pe_tup (pa_cons (pv 8) (pa_cons (pv 9) pa_nil))) pa_nil))) pa_nil)))))))))) (pss_one (ps_ret (pe_callTy (call_dictP rfl) (by rfl) T.b_dict (by decide +kernel) (pa_cons (pv 3) pa_nil)))))))), (rs_seq (rs_parvo (by decide) (re_fn (ra_cons re_v (ra_cons (re_fn (ra_cons re_v (ra_cons re_v ra_nil))) ra_nil))) (rf_lst ra_nil)) (rs_seq (rs_parvv (by decide) (re_fn (ra_cons re_v (ra_cons (RF.e (rf_lst (ra_cons re_int (ra_cons re_int (ra_cons re_int (ra_cons re_int (ra_cons re_int (ra_cons re_int (ra_cons re_int ra_nil))))))))) ra_nil))) (re_fn (ra_cons re_v (ra_cons (RF.e (rf_lst (ra_cons re_int (ra_cons re_int (ra_cons re_int (ra_cons re_int ra_nil)))))) ra_nil)))) (rs_seq (rs_set (re_fn (ra_cons re_v (ra_cons re_int ra_nil)))) (rs_seq (rs_forK (own := [7]) (rp_ix rp_v) (rg_name (i := 7) (by decide)) (rs_seq (rs_parvv (by decide) (re_call rc_max2 (ra_cons re_int (ra_cons (re_op rb_sub (re_sub re_v re_v) (re_fn (ra_cons re_v (ra_cons (re_op rb_addA re_v re_int) ra_nil)))) ra_nil))) (re_op rb_addA (re_sub re_v re_v) (re_fn (ra_cons re_v (ra_cons (re_op rb_addA re_v re_int) ra_nil))))) (rs_seq (rs_if (rt_test (re_op rb_eq re_v re_int)) (rs_parvv (by decide) re_int (re_call rc_max2 (ra_cons (re_sub (re_sub re_v re_int) re_v) (ra_cons (re_op rb_addA re_v re_int) ra_nil)))) rs_next) (rs_seq (rs_if (rt_test (re_op rb_eq re_v re_int)) (rs_parvv (by decide) (re_call rc_min2 (ra_cons re_v (ra_cons re_int ra_nil))) re_int) rs_next) (rs_seq (rs_if (rt_test (re_op rb_eq re_v re_int)) (rs_seq (rs_set (re_op rb_addA re_v (re_call rc_int (ra_cons (re_op rb_eq (re_fn (ra_cons re_v (ra_cons re_int ra_nil))) re_int) ra_nil)))) (rs_set (re_call rc_max2 (ra_cons re_v (ra_cons (re_op rb_sub re_v (re_call rc_int (ra_cons (re_op rb_eq (re_fn (ra_cons re_v (ra_cons re_int ra_nil))) re_int) ra_nil))) ra_nil))))) rs_next) (rs_app (RF.e (rf_tup (ra_cons re_v (ra_cons (RF.e (rf_tup (ra_cons re_v (ra_cons re_v ra_nil)))) ra_nil)))))))))) (rs_giveQ (rs_ret (RF.e (rf_call rcf_dict (ra_cons re_v ra_nil)))))))))⟩
abbrev s_law_prices : Stmt := topS 57
theorem sc_law_prices : FnScope ["stream", "season", "some", "game"] ["stream", "season"] (defScope s_law_prices) := ⟨rfl, rfl, rfl, by decide +kernel, rfl, by decide +kernel, by decide +kernel⟩
noncomputable def g_law_prices : FS := (seqS (setS 2 (mE m_law_pick 2 (consA (vE 0) (consA (lstE (consA (lstE (consA (cE (.int 1)) nilA)) (consA (lstE (consA (cE (.int 0)) (consA (cE (.int 1)) (consA (cE (.int 2)) nilA)))) (consA (lstE (consA (cE (.int 1)) (consA (cE (.int 2)) (consA (cE (.int 3)) (consA (cE (.int 5)) (consA (cE (.int 9)) nilA)))))) (consA (lstE (consA (cE (.int 0)) (consA (cE (.int 7)) (consA (cE (.int 1000)) (consA (cE (.int 333)) nilA))))) nilA))))) nilA)))) (retS (lcE (itF (subE (vE 1) (cE (.int 1)))) (tgN 3) yesT (mE m_law_pick 2 (consA (vE 0) (consA (vE 2) nilA))) [3])))
noncomputable def m_law_prices : FM := runS 4 (g_law_prices)
theorem ok_law_prices {f : Addr} {fd : FuncData} (F : Fun K "_law_prices" "_law_prices" s_law_prices f fd) (T : Tx K mg C tL) (c_law_pick : Cal P w K mg base 2 "_law_pick" (spD (m_law_pick) 2)) : FnOk P w K mg base CX0 3 f fd ["stream", "season"] (spD (m_law_prices) 2) :=
  fn_D F sc_law_prices fun cdv A outer s H hr => ⟨_, (pss_cons (ps_set (i := 2) sc_law_prices.nd rfl (by first | exact Or.inl rfl | exact Or.inr rfl) (pe_c c_law_pick hr (by decide) (by rfl) (pa_cons (pv 0) (pa_cons (pe_lst (pa_cons (pe_lst (pa_cons pe_int pa_nil)) (pa_cons (pe_lst (pa_cons pe_int (pa_cons pe_int (pa_cons pe_int pa_nil)))) (pa_cons (pe_lst (pa_cons pe_int (pa_cons pe_int (pa_cons pe_int (pa_cons pe_int (pa_cons pe_int pa_nil)))))) (pa_cons (pe_lst (pa_cons pe_int (pa_cons pe_int (pa_cons pe_int (pa_cons pe_int pa_nil))))) pa_nil))))) pa_nil)))) (pss_one (ps_ret (pe_lc (own := [("game", 3)]) rfl sc_law_prices.nd (pi_or (pi_list (pe_or2 (pe_ix ix_seq (pv 1) pe_int (fun _ _ => rfl)) (pe_dget (hu_of hr) (pv 1) pe_int (fun _ _ => rfl)))) (pi_or (pi_tup (pe_or2 (pe_ix ix_seq (pv 1) pe_int (fun _ _ => rfl)) (pe_dget (hu_of hr) (pv 1) pe_int (fun _ _ => rfl)))) (pi_str (pe_or2 (pe_ix ix_seq (pv 1) pe_int (fun _ _ => rfl)) (pe_dget (hu_of hr) (pv 1) pe_int (fun _ _ => rfl)))))) (blkOk_by (N := ["stream", "season", "some", "game"]) (sc := defScope s_law_prices) (by decide +kernel)) (fun _ _ _ _ _ => (pg_name (i := 3) sc_law_prices.nd rfl (by first | exact Or.inl rfl | exact Or.inr rfl))) (fun _ _ _ _ _ => pts_nil) (fun _ _ _ _ _ => (pe_c c_law_pick hr (by decide) (by rfl) (pa_cons (pv 0) (pa_cons (pv 2) pa_nil)))))))), (rs_seq (rs_set (re_fn (ra_cons re_v (ra_cons (RF.e (rf_lst (ra_cons (RF.e (rf_lst (ra_cons re_int ra_nil))) (ra_cons (RF.e (rf_lst (ra_cons re_int (ra_cons re_int (ra_cons re_int ra_nil))))) (ra_cons (RF.e (rf_lst (ra_cons re_int (ra_cons re_int (ra_cons re_int (ra_cons re_int (ra_cons re_int ra_nil))))))) (ra_cons (RF.e (rf_lst (ra_cons re_int (ra_cons re_int (ra_cons re_int (ra_cons re_int ra_nil)))))) ra_nil)))))) ra_nil)))) (rs_ret (RF.e (rf_lc (own := [3]) (ri_seq (re_sub re_v re_int)) (rg_name (i := 3) (by decide)) rt_yes (re_fn (ra_cons re_v (ra_cons re_v ra_nil)))))))⟩
abbrev s_law_cost : Stmt := topS 58
theorem sc_law_cost : FnScope ["forecast", "prices", "outcome", "told", "price", "one"] ["forecast", "prices", "outcome"] (defScope s_law_cost) := ⟨rfl, rfl, rfl, by decide +kernel, rfl, by decide +kernel, by decide +kernel⟩
noncomputable def g_law_cost : FS := (retS (callE sumN (consA (lcE (zip3A (consA (vE 0) (consA (vE 1) (consA (vE 2) nilA)))) (tgT 3 (tgCons (tgN 3) (tgCons (tgN 4) (tgCons (tgN 5) tgNil)))) (bT (opE (notO eqA) (vE 3) (vE 5))) (vE 4) [3, 4, 5]) nilA)))
noncomputable def m_law_cost : FM := runS 6 (g_law_cost)
theorem ok_law_cost {f : Addr} {fd : FuncData} (F : Fun K "_law_cost" "_law_cost" s_law_cost f fd) (T : Tx K mg C tL) : FnOk P w K mg base CX0 1 f fd ["forecast", "prices", "outcome"] (spD (m_law_cost) 3) :=
  fn_D F sc_law_cost fun cdv A outer s H hr => ⟨_, (pss_one (ps_ret (pe_callB (cr_sum rfl) (by rfl) T.b_sum (by decide +kernel) (pa_cons (pe_lc (own := [("told", 3), ("price", 4), ("one", 5)]) rfl sc_law_cost.nd (pi_zip3 (by rfl) T.b_zip (pa_cons (pv 0) (pa_cons (pv 1) (pa_cons (pv 2) pa_nil)))) (blkOk_by (N := ["forecast", "prices", "outcome", "told", "price", "one"]) (sc := defScope s_law_cost) (by decide +kernel)) (fun _ _ _ _ _ => (pg_tupK (K := K) rfl rfl (pgs_cons (pg_name (i := 3) sc_law_cost.nd rfl (by first | exact Or.inl rfl | exact Or.inr rfl)) (pgs_cons (pg_name (i := 4) sc_law_cost.nd rfl (by first | exact Or.inl rfl | exact Or.inr rfl)) (pgs_cons (pg_name (i := 5) sc_law_cost.nd rfl (by first | exact Or.inl rfl | exact Or.inr rfl)) pgs_nil))))) (fun _ _ _ _ _ => (pts_one (pt_cmpR op_ne (pv 3) (pv 5) (nomark _)))) (fun _ _ _ _ _ => (pv 4))) pa_nil)))), (rs_ret (re_call rc_sum (ra_cons (RF.e (rf_lc (own := [3, 4, 5]) (ri_zip3 (ra_cons re_v (ra_cons re_v (ra_cons re_v ra_nil)))) (rg_tup (rgs_cons (rg_name (i := 3) (by decide)) (rgs_cons (rg_name (i := 4) (by decide)) (rgs_cons (rg_name (i := 5) (by decide)) rgs_nil)))) (rt_test (re_op rb_ne re_v re_v)) re_v)) ra_nil)))⟩
abbrev s_law_other : Stmt := topS 59
theorem sc_law_other : FnScope ["season", "index", "team", "one", "other"] ["season", "index", "team"] (defScope s_law_other) := ⟨rfl, rfl, rfl, by decide +kernel, rfl, by decide +kernel, by decide +kernel⟩
noncomputable def g_law_other : FS := (seqS (asgS (subE (subE (vE 0) (cE (.int 1))) (vE 1)) (tgT 2 (tgCons (tgN 3) (tgCons (tgN 4) tgNil)))) (retS (ifE (bT (opE eqA (vE 2) (vE 3))) (vE 4) (vE 3))))
noncomputable def m_law_other : FM := runS 5 (g_law_other)
theorem ok_law_other {f : Addr} {fd : FuncData} (F : Fun K "_law_other" "_law_other" s_law_other f fd) (T : Tx K mg C tL) : FnOk P w K mg base CX0 1 f fd ["season", "index", "team"] (spD (m_law_other) 3) :=
  fn_D F sc_law_other fun cdv A outer s H hr => ⟨_, (pss_cons (ps_asg (pe_or2 (pe_ix ix_seq (pe_or2 (pe_ix ix_seq (pv 0) pe_int (fun _ _ => rfl)) (pe_dget (hu_of hr) (pv 0) pe_int (fun _ _ => rfl))) (pv 1) (fun _ _ => rfl)) (pe_dget (hu_of hr) (pe_or2 (pe_ix ix_seq (pv 0) pe_int (fun _ _ => rfl)) (pe_dget (hu_of hr) (pv 0) pe_int (fun _ _ => rfl))) (pv 1) (fun _ _ => rfl))) (pg_tupK (K := K) rfl rfl (pgs_cons (pg_name (i := 3) sc_law_other.nd rfl (by first | exact Or.inl rfl | exact Or.inr rfl)) (pgs_cons (pg_name (i := 4) sc_law_other.nd rfl (by first | exact Or.inl rfl | exact Or.inr rfl)) pgs_nil)))) (pss_one (ps_ret (pe_ifExp (pt_cmpR op_eq (pv 2) (pv 3) (nomark _)) (pv 4) (pv 3))))), (rs_seq (rs_asg (own := [3, 4]) (re_sub (re_sub re_v re_int) re_v) (rg_tup (rgs_cons (rg_name (i := 3) (by decide)) (rgs_cons (rg_name (i := 4) (by decide)) rgs_nil)))) (rs_ret (re_if (rt_test (re_op rb_eq re_v re_v)) re_v re_v)))⟩
abbrev s_law_bill : Stmt := topS 60
theorem sc_law_bill : FnScope ["season", "bounds", "forecast", "prices", "pulls", "table", "found", "team", "pull", "index"] ["season", "bounds", "forecast", "prices", "pulls"] (defScope s_law_bill) := ⟨rfl, rfl, rfl, by decide +kernel, rfl, by decide +kernel, by decide +kernel⟩
noncomputable def g_law_bill : FS := (seqS (parvvS 5 6 (mE m_law_table 2 (consA (vE 0) (consA (vE 2) nilA))) (cE (.int 0))) (seqS (forS (keysF (vE 4)) (tgN 7) (seqS (setS 8 (subE (vE 4) (vE 7))) (setS 6 (opE addA (vE 6) (ifE (bT (opE gtI (vE 8) (cE (.int 0)))) (opE mulA (vE 8) (opE subI (subE (subE (vE 1) (vE 7)) (cE (.int 0))) (subE (vE 5) (vE 7)))) (opE mulA (vE 8) (opE subI (subE (subE (vE 1) (vE 7)) (cE (.int 1))) (subE (vE 5) (vE 7))))))))) (seqS (forS (enA (consA (vE 2) nilA)) (tgT 2 (tgCons (tgN 9) (tgCons (tgN 7) tgNil))) (setS 6 (opE addA (vE 6) (callE min2N (consA (cE (.int 0)) (consA (opE subI (opE addA (subE (vE 3) (vE 9)) (subE (vE 4) (vE 7))) (subE (vE 4) (mE m_law_other 3 (consA (vE 0) (consA (vE 9) (consA (vE 7) nilA)))))) nilA)))))) (retS (vE 6)))))
noncomputable def m_law_bill : FM := runS 10 (g_law_bill)
theorem ok_law_bill {f : Addr} {fd : FuncData} (F : Fun K "_law_bill" "_law_bill" s_law_bill f fd) (T : Tx K mg C tL) (c_law_table : Cal P w K mg base 1 "_law_table" (spD (m_law_table) 2)) (c_law_other : Cal P w K mg base 1 "_law_other" (spD (m_law_other) 3)) : FnOk P w K mg base CX0 2 f fd ["season", "bounds", "forecast", "prices", "pulls"] (spD (m_law_bill) 5) :=
  fn_D F sc_law_bill fun cdv A outer s H hr => ⟨_, (pss_cons (ps_parA sc_law_bill.nd rfl rfl (pa_cons (pe_c c_law_table hr (by decide) (by rfl) (pa_cons (pv 0) (pa_cons (pv 2) pa_nil))) (pa_cons pe_int pa_nil))) (pss_cons (ps_or (ps_lock (ps_for PassesOwn.never rfl (pi_keys (pv 4)) (pg_name (i := 7) sc_law_bill.nd rfl (by first | exact Or.inl rfl | exact Or.inr rfl)) (pss_cons (ps_set (i := 8) sc_law_bill.nd rfl (by first | exact Or.inl rfl | exact Or.inr rfl) (pe_or2 (pe_ix ix_seq (pv 4) (pv 7) (fun _ _ => rfl)) (pe_dget (hu_of hr) (pv 4) (pv 7) (fun _ _ => rfl)))) (pss_one (ps_set (i := 6) sc_law_bill.nd rfl (by first | exact Or.inl rfl | exact Or.inr rfl) (pe_op op_addA (pv 6) (pe_ifExp (pt_cmpR op_gt (pv 8) pe_int (nomark _)) (pe_op op_mulA (pv 8) (pe_op op_sub (pe_or2 (pe_ix ix_seq (pe_or2 (pe_ix ix_seq (pv 1) (pv 7) (fun _ _ => rfl)) (pe_dget (hu_of hr) (pv 1) (pv 7) (fun _ _ => rfl))) pe_int (fun _ _ => rfl)) (pe_dget (hu_of hr) (pe_or2 (pe_ix ix_seq (pv 1) (pv 7) (fun _ _ => rfl)) (pe_dget (hu_of hr) (pv 1) (pv 7) (fun _ _ => rfl))) pe_int (fun _ _ => rfl))) (pe_or2 (pe_ix ix_seq (pv 5) (pv 7) (fun _ _ => rfl)) (pe_dget (hu_of hr) (pv 5) (pv 7) (fun _ _ => rfl))))) (pe_op op_mulA (pv 8) (pe_op op_sub (pe_or2 (pe_ix ix_seq (pe_or2 (pe_ix ix_seq (pv 1) (pv 7) (fun _ _ => rfl)) (pe_dget (hu_of hr) (pv 1) (pv 7) (fun _ _ => rfl))) pe_int (fun _ _ => rfl)) (pe_dget (hu_of hr) (pe_or2 (pe_ix ix_seq (pv 1) (pv 7) (fun _ _ => rfl)) (pe_dget (hu_of hr) (pv 1) (pv 7) (fun _ _ => rfl))) pe_int (fun _ _ => rfl))) (pe_or2 (pe_ix ix_seq (pv 5) (pv 7) (fun _ _ => rfl)) (pe_dget (hu_of hr) (pv 5) (pv 7) (fun _ _ => rfl)))))))))))) (ps_for PassesOwn.never rfl (pi_keys (pv 4)) (pg_name (i := 7) sc_law_bill.nd rfl (by first | exact Or.inl rfl | exact Or.inr rfl)) (pss_cons (ps_set (i := 8) sc_law_bill.nd rfl (by first | exact Or.inl rfl | exact Or.inr rfl) (pe_or2 (pe_ix ix_seq (pv 4) (pv 7) (fun _ _ => rfl)) (pe_dget (hu_of hr) (pv 4) (pv 7) (fun _ _ => rfl)))) (pss_one (ps_set (i := 6) sc_law_bill.nd rfl (by first | exact Or.inl rfl | exact Or.inr rfl) (pe_op op_addA (pv 6) (pe_ifExp (pt_cmpR op_gt (pv 8) pe_int (nomark _)) (pe_op op_mulA (pv 8) (pe_op op_sub (pe_or2 (pe_ix ix_seq (pe_or2 (pe_ix ix_seq (pv 1) (pv 7) (fun _ _ => rfl)) (pe_dget (hu_of hr) (pv 1) (pv 7) (fun _ _ => rfl))) pe_int (fun _ _ => rfl)) (pe_dget (hu_of hr) (pe_or2 (pe_ix ix_seq (pv 1) (pv 7) (fun _ _ => rfl)) (pe_dget (hu_of hr) (pv 1) (pv 7) (fun _ _ => rfl))) pe_int (fun _ _ => rfl))) (pe_or2 (pe_ix ix_seq (pv 5) (pv 7) (fun _ _ => rfl)) (pe_dget (hu_of hr) (pv 5) (pv 7) (fun _ _ => rfl))))) (pe_op op_mulA (pv 8) (pe_op op_sub (pe_or2 (pe_ix ix_seq (pe_or2 (pe_ix ix_seq (pv 1) (pv 7) (fun _ _ => rfl)) (pe_dget (hu_of hr) (pv 1) (pv 7) (fun _ _ => rfl))) pe_int (fun _ _ => rfl)) (pe_dget (hu_of hr) (pe_or2 (pe_ix ix_seq (pv 1) (pv 7) (fun _ _ => rfl)) (pe_dget (hu_of hr) (pv 1) (pv 7) (fun _ _ => rfl))) pe_int (fun _ _ => rfl))) (pe_or2 (pe_ix ix_seq (pv 5) (pv 7) (fun _ _ => rfl)) (pe_dget (hu_of hr) (pv 5) (pv 7) (fun _ _ => rfl)))))))))))) (pss_cons (ps_for PassesOwn.never rfl (pi_enumA (by rfl) T.b_enumerate (pa_cons (pv 2) pa_nil)) (pg_tupK (K := K) rfl rfl (pgs_cons (pg_name (i := 9) sc_law_bill.nd rfl (by first | exact Or.inl rfl | exact Or.inr rfl)) (pgs_cons (pg_name (i := 7) sc_law_bill.nd rfl (by first | exact Or.inl rfl | exact Or.inr rfl)) pgs_nil))) (pss_one (ps_set (i := 6) sc_law_bill.nd rfl (by first | exact Or.inl rfl | exact Or.inr rfl) (pe_op op_addA (pv 6) (pe_callB (call_min2 rfl) (by rfl) T.b_min (by decide +kernel) (pa_cons pe_int (pa_cons (pe_op op_sub (pe_op op_addA (pe_or2 (pe_ix ix_seq (pv 3) (pv 9) (fun _ _ => rfl)) (pe_dget (hu_of hr) (pv 3) (pv 9) (fun _ _ => rfl))) (pe_or2 (pe_ix ix_seq (pv 4) (pv 7) (fun _ _ => rfl)) (pe_dget (hu_of hr) (pv 4) (pv 7) (fun _ _ => rfl)))) (pe_or2 (pe_ix ix_seq (pv 4) (pe_c c_law_other hr (by decide) (by rfl) (pa_cons (pv 0) (pa_cons (pv 9) (pa_cons (pv 7) pa_nil)))) (fun _ _ => rfl)) (pe_dget (hu_of hr) (pv 4) (pe_c c_law_other hr (by decide) (by rfl) (pa_cons (pv 0) (pa_cons (pv 9) (pa_cons (pv 7) pa_nil)))) (fun _ _ => rfl)))) pa_nil))))))) (pss_one (ps_ret (pv 6)))))), (rs_seq (rs_parvv (by decide) (re_fn (ra_cons re_v (ra_cons re_v ra_nil))) re_int) (rs_seq (rs_forK (own := [7]) rp_v (rg_name (i := 7) (by decide)) (rs_seq (rs_set (re_sub re_v re_v)) (rs_set (re_op rb_addA re_v (re_if (rt_test (re_op rb_gt re_v re_int)) (re_op rb_mulA re_v (re_op rb_sub (re_sub (re_sub re_v re_v) re_int) (re_sub re_v re_v))) (re_op rb_mulA re_v (re_op rb_sub (re_sub (re_sub re_v re_v) re_int) (re_sub re_v re_v)))))))) (rs_seq (rs_for (own := [9, 7]) (ri_enumA (ra_cons re_v ra_nil)) (rg_tup (rgs_cons (rg_name (i := 9) (by decide)) (rgs_cons (rg_name (i := 7) (by decide)) rgs_nil))) (rs_set (re_op rb_addA re_v (re_call rc_min2 (ra_cons re_int (ra_cons (re_op rb_sub (re_op rb_addA (re_sub re_v re_v) (re_sub re_v re_v)) (re_sub re_v (re_fn (ra_cons re_v (ra_cons re_v (ra_cons re_v ra_nil)))))) ra_nil)))))) (rs_ret re_v))))⟩
abbrev s_law_keeps : Stmt := topS 61
theorem sc_law_keeps : FnScope ["season", "bounds", "outcome", "table", "team"] ["season", "bounds", "outcome"] (defScope s_law_keeps) := ⟨rfl, rfl, rfl, by decide +kernel, rfl, by decide +kernel, by decide +kernel⟩
noncomputable def g_law_keeps : FS := (seqS (setS 3 (mE m_law_table 2 (consA (vE 0) (consA (vE 2) nilA)))) (retS (callE allN (consA (lcE (keysF (vE 3)) (tgN 4) yesT (chE leI leI (subE (subE (vE 1) (vE 4)) (cE (.int 0))) (subE (vE 3) (vE 4)) (subE (subE (vE 1) (vE 4)) (cE (.int 1)))) [4]) nilA))))
noncomputable def m_law_keeps : FM := runS 5 (g_law_keeps)
theorem ok_law_keeps {f : Addr} {fd : FuncData} (F : Fun K "_law_keeps" "_law_keeps" s_law_keeps f fd) (T : Tx K mg C tL) (c_law_table : Cal P w K mg base 1 "_law_table" (spD (m_law_table) 2)) : FnOk P w K mg base CX0 2 f fd ["season", "bounds", "outcome"] (spD (m_law_keeps) 3) :=
  fn_D F sc_law_keeps fun cdv A outer s H hr => ⟨_, (pss_cons (ps_set (i := 3) sc_law_keeps.nd rfl (by first | exact Or.inl rfl | exact Or.inr rfl) (pe_c c_law_table hr (by decide) (by rfl) (pa_cons (pv 0) (pa_cons (pv 2) pa_nil)))) (pss_one (ps_ret (pe_callB (cr_all rfl) (by rfl) T.b_all (by decide +kernel) (pa_cons (pe_or2 (pe_lock (pe_lc (own := [("team", 4)]) rfl sc_law_keeps.nd (pi_keys (pv 3)) (blkOk_by (N := ["season", "bounds", "outcome", "table", "team"]) (sc := defScope s_law_keeps) (by decide +kernel)) (fun _ _ _ _ _ => (pg_name (i := 4) sc_law_keeps.nd rfl (by first | exact Or.inl rfl | exact Or.inr rfl))) (fun _ _ _ _ _ => pts_nil) (fun _ _ _ _ _ => (pe_chain op_le op_le (pe_or2 (pe_ix ix_seq (pe_or2 (pe_ix ix_seq (pv 1) (pv 4) (fun _ _ => rfl)) (pe_dget (hu_of hr) (pv 1) (pv 4) (fun _ _ => rfl))) pe_int (fun _ _ => rfl)) (pe_dget (hu_of hr) (pe_or2 (pe_ix ix_seq (pv 1) (pv 4) (fun _ _ => rfl)) (pe_dget (hu_of hr) (pv 1) (pv 4) (fun _ _ => rfl))) pe_int (fun _ _ => rfl))) (pe_or2 (pe_ix ix_seq (pv 3) (pv 4) (fun _ _ => rfl)) (pe_dget (hu_of hr) (pv 3) (pv 4) (fun _ _ => rfl))) (pe_or2 (pe_ix ix_seq (pe_or2 (pe_ix ix_seq (pv 1) (pv 4) (fun _ _ => rfl)) (pe_dget (hu_of hr) (pv 1) (pv 4) (fun _ _ => rfl))) pe_int (fun _ _ => rfl)) (pe_dget (hu_of hr) (pe_or2 (pe_ix ix_seq (pv 1) (pv 4) (fun _ _ => rfl)) (pe_dget (hu_of hr) (pv 1) (pv 4) (fun _ _ => rfl))) pe_int (fun _ _ => rfl))))))) (pe_lc (own := [("team", 4)]) rfl sc_law_keeps.nd (pi_keys (pv 3)) (blkOk_by (N := ["season", "bounds", "outcome", "table", "team"]) (sc := defScope s_law_keeps) (by decide +kernel)) (fun _ _ _ _ _ => (pg_name (i := 4) sc_law_keeps.nd rfl (by first | exact Or.inl rfl | exact Or.inr rfl))) (fun _ _ _ _ _ => pts_nil) (fun _ _ _ _ _ => (pe_chain op_le op_le (pe_or2 (pe_ix ix_seq (pe_or2 (pe_ix ix_seq (pv 1) (pv 4) (fun _ _ => rfl)) (pe_dget (hu_of hr) (pv 1) (pv 4) (fun _ _ => rfl))) pe_int (fun _ _ => rfl)) (pe_dget (hu_of hr) (pe_or2 (pe_ix ix_seq (pv 1) (pv 4) (fun _ _ => rfl)) (pe_dget (hu_of hr) (pv 1) (pv 4) (fun _ _ => rfl))) pe_int (fun _ _ => rfl))) (pe_or2 (pe_ix ix_seq (pv 3) (pv 4) (fun _ _ => rfl)) (pe_dget (hu_of hr) (pv 3) (pv 4) (fun _ _ => rfl))) (pe_or2 (pe_ix ix_seq (pe_or2 (pe_ix ix_seq (pv 1) (pv 4) (fun _ _ => rfl)) (pe_dget (hu_of hr) (pv 1) (pv 4) (fun _ _ => rfl))) pe_int (fun _ _ => rfl)) (pe_dget (hu_of hr) (pe_or2 (pe_ix ix_seq (pv 1) (pv 4) (fun _ _ => rfl)) (pe_dget (hu_of hr) (pv 1) (pv 4) (fun _ _ => rfl))) pe_int (fun _ _ => rfl))))))) pa_nil))))), (rs_seq (rs_set (re_fn (ra_cons re_v (ra_cons re_v ra_nil)))) (rs_ret (re_call rc_all (ra_cons (RF.e (rf_lcK (own := [4]) rp_v (rg_name (i := 4) (by decide)) rt_yes (re_chain rb_le rb_le (re_sub (re_sub re_v re_v) re_int) (re_sub re_v re_v) (re_sub (re_sub re_v re_v) re_int)))) ra_nil))))⟩
abbrev s_law_costs : Stmt := topS 62
theorem sc_law_costs : FnScope ["season", "bounds", "forecast", "prices", "found", "outcome"] ["season", "bounds", "forecast", "prices"] (defScope s_law_costs) := ⟨rfl, rfl, rfl, by decide +kernel, rfl, by decide +kernel, by decide +kernel⟩
noncomputable def g_law_costs : FS := (seqS (ownS 4 (lstE nilA)) (seqS (forS (itF (mE m_law_outcomes 1 (consA (vE 0) nilA))) (tgN 5) (ifS (bT (mE m_law_keeps 3 (consA (vE 0) (consA (vE 1) (consA (vE 5) nilA))))) (appS 4 (tupE (consA (mE m_law_cost 3 (consA (vE 2) (consA (vE 3) (consA (vE 5) nilA)))) (consA (vE 5) nilA)))) nextS)) (giveQ 4 (retS (callE sortN (consA (vE 4) nilA))))))
noncomputable def m_law_costs : FM := runS 6 (g_law_costs)
theorem ok_law_costs {f : Addr} {fd : FuncData} (F : Fun K "_law_costs" "_law_costs" s_law_costs f fd) (T : Tx K mg C tL) (c_law_outcomes : Cal P w K mg base 1 "_law_outcomes" (spD (m_law_outcomes) 1)) (c_law_keeps : Cal P w K mg base 2 "_law_keeps" (spD (m_law_keeps) 3)) (c_law_cost : Cal P w K mg base 1 "_law_cost" (spD (m_law_cost) 3)) : FnOk P w K mg base CX0 3 f fd ["season", "bounds", "forecast", "prices"] (spD (m_law_costs) 4) :=
  fn_D F sc_law_costs fun cdv A outer s H hr => ⟨_, (pss_cons (ps_set (i := 4) sc_law_costs.nd rfl (by first | exact Or.inl rfl | exact Or.inr rfl) (pe_lst pa_nil)) (pss_cons (ps_for PassesOwn.never rfl (pi_or (pi_list (pe_c c_law_outcomes hr (by decide) (by rfl) (pa_cons (pv 0) pa_nil))) (pi_or (pi_tup (pe_c c_law_outcomes hr (by decide) (by rfl) (pa_cons (pv 0) pa_nil))) (pi_str (pe_c c_law_outcomes hr (by decide) (by rfl) (pa_cons (pv 0) pa_nil))))) (pg_name (i := 5) sc_law_costs.nd rfl (by first | exact Or.inl rfl | exact Or.inr rfl)) (pss_one (ps_if (pt_val (pe_c c_law_keeps hr (by decide) (by rfl) (pa_cons (pv 0) (pa_cons (pv 1) (pa_cons (pv 5) pa_nil))))) (pss_one (ps_expr (pe_bm PySem.F.plainAttrs_list PySem.F.slot_list_append PySem.F.type_list_append mt_append (pv 4) (pa_cons (pe_tup (pa_cons (pe_c c_law_cost hr (by decide) (by rfl) (pa_cons (pv 2) (pa_cons (pv 3) (pa_cons (pv 5) pa_nil)))) (pa_cons (pv 5) pa_nil))) pa_nil)))) pss_nil))) (pss_one (ps_ret (pe_callB (cr_sortA hr.units) (by rfl) T.b_sorted (by decide +kernel) (pa_cons (pv 4) pa_nil)))))), (rs_seq (rs_own (rf_lst ra_nil)) (rs_seq (rs_for (own := [5]) (ri_seq (re_fn (ra_cons re_v ra_nil))) (rg_name (i := 5) (by decide)) (rs_if (rt_B (re_fn (ra_cons re_v (ra_cons re_v (ra_cons re_v ra_nil))))) (rs_app (RF.e (rf_tup (ra_cons (re_fn (ra_cons re_v (ra_cons re_v (ra_cons re_v ra_nil)))) (ra_cons re_v ra_nil))))) rs_next)) (rs_giveQ (rs_ret (RF.e (rf_call rcf_sortA (ra_cons re_v ra_nil)))))))⟩
abbrev s_law_drawn_pulls : Stmt := topS 63
theorem sc_law_drawn_pulls : FnScope ["stream", "season", "some", "team"] ["stream", "season"] (defScope s_law_drawn_pulls) := ⟨rfl, rfl, rfl, by decide +kernel, rfl, by decide +kernel, by decide +kernel⟩
noncomputable def g_law_drawn_pulls : FS := (seqS (setS 2 (mE m_law_pick 2 (consA (vE 0) (consA (lstE (consA (lstE (consA (cE (.int 0)) (consA (cE (.int 0)) (consA (cE (.int 1)) (consA (negU (cE (.int 1))) nilA))))) (consA (lstE (consA (cE (.int 0)) (consA (cE (.int 1)) (consA (cE (.int 2)) (consA (negU (cE (.int 2))) (consA (cE (.int 5)) nilA)))))) (consA (lstE (consA (cE (.int 0)) (consA (cE (.int 0)) (consA (cE (.int 0)) (consA (cE (.int 1000)) (consA (negU (cE (.int 1000))) (consA (cE (.int 7)) nilA))))))) nilA)))) nilA)))) (retS (callE dictN (consA (lcE (keysF (opE ixD (vE 1) (cE (.int 0)))) (tgN 3) yesT (tupE (consA (vE 3) (consA (mE m_law_pick 2 (consA (vE 0) (consA (vE 2) nilA))) nilA))) [3]) nilA))))
noncomputable def m_law_drawn_pulls : FM := runS 4 (g_law_drawn_pulls)
theorem ok_law_drawn_pulls {f : Addr} {fd : FuncData} (F : Fun K "_law_drawn_pulls" "_law_drawn_pulls" s_law_drawn_pulls f fd) (T : Tx K mg C tL) (c_law_pick : Cal P w K mg base 2 "_law_pick" (spD (m_law_pick) 2)) : FnOk P w K mg base CX0 3 f fd ["stream", "season"] (spD (m_law_drawn_pulls) 2) :=
  fn_D F sc_law_drawn_pulls fun cdv A outer s H hr => ⟨_, (pss_cons (ps_set (i := 2) sc_law_drawn_pulls.nd rfl (by first | exact Or.inl rfl | exact Or.inr rfl) (pe_c c_law_pick hr (by decide) (by rfl) (pa_cons (pv 0) (pa_cons (pe_lst (pa_cons (pe_lst (pa_cons pe_int (pa_cons pe_int (pa_cons pe_int (pa_cons (pe_un un_neg pe_int) pa_nil))))) (pa_cons (pe_lst (pa_cons pe_int (pa_cons pe_int (pa_cons pe_int (pa_cons (pe_un un_neg pe_int) (pa_cons pe_int pa_nil)))))) (pa_cons (pe_lst (pa_cons pe_int (pa_cons pe_int (pa_cons pe_int (pa_cons pe_int (pa_cons (pe_un un_neg pe_int) (pa_cons pe_int pa_nil))))))) pa_nil)))) pa_nil)))) (pss_one (ps_ret (pe_callTy (call_dictP rfl) (by rfl) T.b_dict (by decide +kernel) (pa_cons (pe_or2 (pe_lock (pe_lc (own := [("team", 3)]) rfl sc_law_drawn_pulls.nd (pi_keys (pe_or2 (pe_ix ix_seq (pv 1) pe_int (fun _ _ => rfl)) (pe_dget (hu_of hr) (pv 1) pe_int (fun _ _ => rfl)))) (blkOk_by (N := ["stream", "season", "some", "team"]) (sc := defScope s_law_drawn_pulls) (by decide +kernel)) (fun _ _ _ _ _ => (pg_name (i := 3) sc_law_drawn_pulls.nd rfl (by first | exact Or.inl rfl | exact Or.inr rfl))) (fun _ _ _ _ _ => pts_nil) (fun _ _ _ _ _ => (pe_tup (pa_cons (pv 3) (pa_cons (pe_c c_law_pick hr (by decide) (by rfl) (pa_cons (pv 0) (pa_cons (pv 2) pa_nil))) pa_nil)))))) (pe_lc (own := [("team", 3)]) rfl sc_law_drawn_pulls.nd (pi_keys (pe_or2 (pe_ix ix_seq (pv 1) pe_int (fun _ _ => rfl)) (pe_dget (hu_of hr) (pv 1) pe_int (fun _ _ => rfl)))) (blkOk_by (N := ["stream", "season", "some", "team"]) (sc := defScope s_law_drawn_pulls) (by decide +kernel)) (fun _ _ _ _ _ => (pg_name (i := 3) sc_law_drawn_pulls.nd rfl (by first | exact Or.inl rfl | exact Or.inr rfl))) (fun _ _ _ _ _ => pts_nil) (fun _ _ _ _ _ => (pe_tup (pa_cons (pv 3) (pa_cons (pe_c c_law_pick hr (by decide) (by rfl) (pa_cons (pv 0) (pa_cons (pv 2) pa_nil))) pa_nil)))))) pa_nil))))), (rs_seq (rs_set (re_fn (ra_cons re_v (ra_cons (RF.e (rf_lst (ra_cons (RF.e (rf_lst (ra_cons re_int (ra_cons re_int (ra_cons re_int (ra_cons (re_neg re_int) ra_nil)))))) (ra_cons (RF.e (rf_lst (ra_cons re_int (ra_cons re_int (ra_cons re_int (ra_cons (re_neg re_int) (ra_cons re_int ra_nil))))))) (ra_cons (RF.e (rf_lst (ra_cons re_int (ra_cons re_int (ra_cons re_int (ra_cons re_int (ra_cons (re_neg re_int) (ra_cons re_int ra_nil)))))))) ra_nil))))) ra_nil)))) (rs_ret (RF.e (rf_call rcf_dict (ra_cons (RF.e (rf_lcK (own := [3]) (rp_ix rp_v) (rg_name (i := 3) (by decide)) rt_yes (RF.e (rf_tup (ra_cons re_v (ra_cons (re_fn (ra_cons re_v (ra_cons re_v ra_nil))) ra_nil)))))) ra_nil)))))⟩
abbrev s_law_right : Stmt := topS 64
theorem sc_law_right : FnScope ["stream", "season", "made", "was", "forecast", "prices", "turn", "outcome", "bounds", "pulls", "due", "passed", "one", "lain", "found", "named"] ["stream", "season"] (defScope s_law_right) := ⟨rfl, rfl, rfl, by decide +kernel, rfl, by decide +kernel, by decide +kernel⟩
noncomputable def g_law_right (C : Addr) : FS := (seqS (parvvS 2 3 (mE (m_law_made C) 2 (consA (vE 0) (consA (vE 1) nilA))) (callE reprA (consA (vE 1) nilA))) (seqS (parvvS 4 5 (mE m_law_drawn_outcome 2 (consA (vE 0) (consA (vE 1) nilA))) (mE m_law_prices 2 (consA (vE 0) (consA (vE 1) nilA)))) (seqS (forS (rng1F (consA (cE (.int 5)) nilA)) (tgN 6) (seqS (parvvS 7 8 (mE m_law_drawn_outcome 2 (consA (vE 0) (consA (vE 1) nilA))) (mE m_law_bounds 2 (consA (vE 0) (consA (vE 1) nilA)))) (seqS (setS 9 (mE m_law_drawn_pulls 2 (consA (vE 0) (consA (vE 1) nilA)))) (seqS (setS 10 (lstE (consA (mE m_law_cost 3 (consA (vE 4) (consA (vE 5) (consA (vE 7) nilA)))) (consA (mE m_law_bill 5 (consA (vE 1) (consA (vE 8) (consA (vE 4) (consA (vE 5) (consA (vE 9) nilA)))))) nilA)))) (seqS (ownS 11 (lcE (itF (tupE (consA (vE 8) (consA (vE 4) (consA (vE 5) (consA (vE 7) (consA (vE 9) nilA))))))) (tgN 12) yesT (mE (m_law_loose 4) 2 (consA (vE 0) (consA (vE 12) nilA))) [12])) (seqS (lputS 11 (cE (.int 4)) (callE dictN (consA (mE m_law_mixed 2 (consA (vE 0) (consA (itemsE (vE 9)) nilA))) nilA))) (seqS (giveQ 11 (setS 13 (callE reprA (consA (vE 11) nilA)))) (seqS (setS 14 (lstE (consA (mE (m_cost C) 4 (consA (vE 2) (consA (subE (vE 11) (cE (.int 1))) (consA (subE (vE 11) (cE (.int 2))) (consA (subE (vE 11) (cE (.int 3))) nilA))))) (consA (mE (m_bill C) 5 (consA (vE 2) (consA (subE (vE 11) (cE (.int 0))) (consA (subE (vE 11) (cE (.int 1))) (consA (subE (vE 11) (cE (.int 2))) (consA (subE (vE 11) (cE (.int 4))) nilA)))))) nilA)))) (seqS (ownS 15 (lstE (consA (kwE (m_cost C) 4 4 [3, 2, 1, 0] (consA (subE (vE 11) (cE (.int 3))) (consA (subE (vE 11) (cE (.int 2))) (consA (subE (vE 11) (cE (.int 1))) (consA (vE 2) nilA))))) nilA))) (seqS (appS 15 (kwE (m_bill C) 5 5 [4, 3, 2, 1, 0] (consA (subE (vE 11) (cE (.int 4))) (consA (subE (vE 11) (cE (.int 2))) (consA (subE (vE 11) (cE (.int 1))) (consA (subE (vE 11) (cE (.int 0))) (consA (vE 2) nilA))))))) (giveQ 15 (ifS (orT (notT (bT (mE (m_law_same 6) 2 (consA (lstE (consA (vE 14) (consA (vE 15) nilA))) (consA (lstE (consA (vE 10) (consA (vE 10) nilA))) nilA))))) (bT (opE (notO eqA) (callE reprA (consA (vE 11) nilA)) (vE 13)))) (retS (cE (.bl false))) nextS)))))))))))) (retS (andE (opE eqA (callE reprA (consA (vE 1) nilA)) (vE 3)) (mE (m_law_shows C) 2 (consA (vE 2) (consA (vE 1) nilA))))))))
noncomputable def m_law_right (C : Addr) : FM := runS 16 (g_law_right C)
theorem ok_law_right {f : Addr} {fd : FuncData} (F : Fun K "_law_right" "_law_right" s_law_right f fd) (T : Tx K mg C tL) (c_law_made : Cal P w K mg base 7 "_law_made" (spD (m_law_made C) 2)) (c_law_drawn_outcome : Cal P w K mg base 3 "_law_drawn_outcome" (spD (m_law_drawn_outcome) 2)) (c_law_prices : Cal P w K mg base 3 "_law_prices" (spD (m_law_prices) 2)) (c_law_bounds : Cal P w K mg base 4 "_law_bounds" (spD (m_law_bounds) 2)) (c_law_drawn_pulls : Cal P w K mg base 3 "_law_drawn_pulls" (spD (m_law_drawn_pulls) 2)) (c_law_bill : Cal P w K mg base 2 "_law_bill" (spD (m_law_bill) 5)) (c_law_cost : Cal P w K mg base 1 "_law_cost" (spD (m_law_cost) 3)) (c_law_loose : Cal P w K mg base 6 "_law_loose" (spD (m_law_loose 4) 2)) (c_law_mixed : Cal P w K mg base 2 "_law_mixed" (spD (m_law_mixed) 2)) (c_bill : Cal P w K mg base 6 "bill" (spD (m_bill C) 5)) (c_cost : Cal P w K mg base 5 "cost" (spD (m_cost C) 4)) (c_law_same : Cal P w K mg base 7 "_law_same" (spD (m_law_same 6) 2)) (c_law_shows : Cal P w K mg base 8 "_law_shows" (spD (m_law_shows C) 2)) (k_bill__4_3_2_1_0 : KCal P w K mg base 6 "bill" (spD (m_bill C) 5) ["pulls", "prices", "forecast", "bounds", "season"] [4, 3, 2, 1, 0]) (k_cost__3_2_1_0 : KCal P w K mg base 5 "cost" (spD (m_cost C) 4) ["outcome", "prices", "forecast", "season"] [3, 2, 1, 0]) : FnG P w K mg base 9 f fd ["stream", "season"] (spD (m_law_right C) 2) :=
  fn_DG F sc_law_right fun cdv A outer s H hr hG => ⟨_, (pss_cons (ps_parA sc_law_right.nd rfl rfl (pa_cons (pe_c c_law_made hr (by decide) (by rfl) (pa_cons (pv 0) (pa_cons (pv 1) pa_nil))) (pa_cons (pe_callB (cr_reprA hG hr.units) (by rfl) T.b_repr (by decide +kernel) (pa_cons (pv 1) pa_nil)) pa_nil))) (pss_cons (ps_parA sc_law_right.nd rfl rfl (pa_cons (pe_c c_law_drawn_outcome hr (by decide) (by rfl) (pa_cons (pv 0) (pa_cons (pv 1) pa_nil))) (pa_cons (pe_c c_law_prices hr (by decide) (by rfl) (pa_cons (pv 0) (pa_cons (pv 1) pa_nil))) pa_nil))) (pss_cons (ps_for PassesOwn.never rfl (pi_range1 rfl T.b_range (pa_cons pe_int pa_nil)) (pg_name (i := 6) sc_law_right.nd rfl (by first | exact Or.inl rfl | exact Or.inr rfl)) (pss_cons (ps_parA sc_law_right.nd rfl rfl (pa_cons (pe_c c_law_drawn_outcome hr (by decide) (by rfl) (pa_cons (pv 0) (pa_cons (pv 1) pa_nil))) (pa_cons (pe_c c_law_bounds hr (by decide) (by rfl) (pa_cons (pv 0) (pa_cons (pv 1) pa_nil))) pa_nil))) (pss_cons (ps_set (i := 9) sc_law_right.nd rfl (by first | exact Or.inl rfl | exact Or.inr rfl) (pe_c c_law_drawn_pulls hr (by decide) (by rfl) (pa_cons (pv 0) (pa_cons (pv 1) pa_nil)))) (pss_cons (ps_set (i := 10) sc_law_right.nd rfl (by first | exact Or.inl rfl | exact Or.inr rfl) (pe_lst (pa_cons (pe_c c_law_cost hr (by decide) (by rfl) (pa_cons (pv 4) (pa_cons (pv 5) (pa_cons (pv 7) pa_nil)))) (pa_cons (pe_c c_law_bill hr (by decide) (by rfl) (pa_cons (pv 1) (pa_cons (pv 8) (pa_cons (pv 4) (pa_cons (pv 5) (pa_cons (pv 9) pa_nil)))))) pa_nil)))) (pss_cons (ps_setLc (i := 11) (own := [("one", 12)]) rfl sc_law_right.nd rfl rfl (sw_true rfl rfl rfl (by decide +kernel)) (pi_or (pi_list (pe_tup (pa_cons (pv 8) (pa_cons (pv 4) (pa_cons (pv 5) (pa_cons (pv 7) (pa_cons (pv 9) pa_nil))))))) (pi_or (pi_tup (pe_tup (pa_cons (pv 8) (pa_cons (pv 4) (pa_cons (pv 5) (pa_cons (pv 7) (pa_cons (pv 9) pa_nil))))))) (pi_str (pe_tup (pa_cons (pv 8) (pa_cons (pv 4) (pa_cons (pv 5) (pa_cons (pv 7) (pa_cons (pv 9) pa_nil))))))))) (blkOk_by (N := ["stream", "season", "made", "was", "forecast", "prices", "turn", "outcome", "bounds", "pulls", "due", "passed", "one", "lain", "found", "named"]) (sc := defScope s_law_right) (by decide +kernel)) (fun _ _ _ _ _ => (pg_name (i := 12) sc_law_right.nd rfl (by first | exact Or.inl rfl | exact Or.inr rfl))) (fun _ _ _ _ _ => pts_nil) (fun _ _ _ _ _ => (pe_c c_law_loose hr (by decide) (by rfl) (pa_cons (pv 0) (pa_cons (pv 12) pa_nil))))) (pss_cons (ps_asg (pe_callTy (call_dictP rfl) (by rfl) T.b_dict (by decide +kernel) (pa_cons (pe_c c_law_mixed hr (by decide) (by rfl) (pa_cons (pv 0) (pa_cons (pe_listItemsA rfl (pv 9) (by rfl) T.b_list (by decide +kernel)) pa_nil))) pa_nil)) (pg_sub (pv 11) pe_int set_list)) (pss_cons (ps_set (i := 13) sc_law_right.nd rfl (by first | exact Or.inl rfl | exact Or.inr rfl) (pe_callB (cr_reprA hG hr.units) (by rfl) T.b_repr (by decide +kernel) (pa_cons (pv 11) pa_nil))) (pss_cons (ps_set (i := 14) sc_law_right.nd rfl (by first | exact Or.inl rfl | exact Or.inr rfl) (pe_lst (pa_cons (pe_c c_cost hr (by decide) (by rfl) (pa_cons (pv 2) (pa_cons (pe_or2 (pe_ix ix_seq (pv 11) pe_int (fun _ _ => rfl)) (pe_dget (hu_of hr) (pv 11) pe_int (fun _ _ => rfl))) (pa_cons (pe_or2 (pe_ix ix_seq (pv 11) pe_int (fun _ _ => rfl)) (pe_dget (hu_of hr) (pv 11) pe_int (fun _ _ => rfl))) (pa_cons (pe_or2 (pe_ix ix_seq (pv 11) pe_int (fun _ _ => rfl)) (pe_dget (hu_of hr) (pv 11) pe_int (fun _ _ => rfl))) pa_nil))))) (pa_cons (pe_c c_bill hr (by decide) (by rfl) (pa_cons (pv 2) (pa_cons (pe_or2 (pe_ix ix_seq (pv 11) pe_int (fun _ _ => rfl)) (pe_dget (hu_of hr) (pv 11) pe_int (fun _ _ => rfl))) (pa_cons (pe_or2 (pe_ix ix_seq (pv 11) pe_int (fun _ _ => rfl)) (pe_dget (hu_of hr) (pv 11) pe_int (fun _ _ => rfl))) (pa_cons (pe_or2 (pe_ix ix_seq (pv 11) pe_int (fun _ _ => rfl)) (pe_dget (hu_of hr) (pv 11) pe_int (fun _ _ => rfl))) (pa_cons (pe_or2 (pe_ix ix_seq (pv 11) pe_int (fun _ _ => rfl)) (pe_dget (hu_of hr) (pv 11) pe_int (fun _ _ => rfl))) pa_nil)))))) pa_nil)))) (pss_cons (ps_set (i := 15) sc_law_right.nd rfl (by first | exact Or.inl rfl | exact Or.inr rfl) (pe_lst (pa_cons (pe_kw0 k_cost__3_2_1_0 hr (by decide) (by rfl) (pk_cons (pe_or2 (pe_ix ix_seq (pv 11) pe_int (fun _ _ => rfl)) (pe_dget (hu_of hr) (pv 11) pe_int (fun _ _ => rfl))) (pk_cons (pe_or2 (pe_ix ix_seq (pv 11) pe_int (fun _ _ => rfl)) (pe_dget (hu_of hr) (pv 11) pe_int (fun _ _ => rfl))) (pk_cons (pe_or2 (pe_ix ix_seq (pv 11) pe_int (fun _ _ => rfl)) (pe_dget (hu_of hr) (pv 11) pe_int (fun _ _ => rfl))) (pk_cons (pv 2) pk_nil))))) pa_nil))) (pss_cons (ps_expr (pe_bm PySem.F.plainAttrs_list PySem.F.slot_list_append PySem.F.type_list_append mt_append (pv 15) (pa_cons (pe_kw0 k_bill__4_3_2_1_0 hr (by decide) (by rfl) (pk_cons (pe_or2 (pe_ix ix_seq (pv 11) pe_int (fun _ _ => rfl)) (pe_dget (hu_of hr) (pv 11) pe_int (fun _ _ => rfl))) (pk_cons (pe_or2 (pe_ix ix_seq (pv 11) pe_int (fun _ _ => rfl)) (pe_dget (hu_of hr) (pv 11) pe_int (fun _ _ => rfl))) (pk_cons (pe_or2 (pe_ix ix_seq (pv 11) pe_int (fun _ _ => rfl)) (pe_dget (hu_of hr) (pv 11) pe_int (fun _ _ => rfl))) (pk_cons (pe_or2 (pe_ix ix_seq (pv 11) pe_int (fun _ _ => rfl)) (pe_dget (hu_of hr) (pv 11) pe_int (fun _ _ => rfl))) (pk_cons (pv 2) pk_nil)))))) pa_nil))) (pss_one (ps_if ((pw_or (pt_not (pt_val (pe_c c_law_same hr (by decide) (by rfl) (pa_cons (pe_lst (pa_cons (pv 14) (pa_cons (pv 15) pa_nil))) (pa_cons (pe_lst (pa_cons (pv 10) (pa_cons (pv 10) pa_nil))) pa_nil))))) (pw_or1 (pt_cmpR op_ne (pe_callB (cr_reprA hG hr.units) (by rfl) T.b_repr (by decide +kernel) (pa_cons (pv 11) pa_nil)) (pv 13) (nomark _))))).pt (pss_one (ps_ret pe_bl)) pss_nil)))))))))))) (pss_one (ps_ret (pe_and (pe_cmpR op_eq (pe_callB (cr_reprA hG hr.units) (by rfl) T.b_repr (by decide +kernel) (pa_cons (pv 1) pa_nil)) (pv 3) (nomark _)) (pe_one (pe_c c_law_shows hr (by decide) (by rfl) (pa_cons (pv 2) (pa_cons (pv 1) pa_nil)))))))))), (rs_seq (rs_parvv (by decide) (re_fn (ra_cons re_v (ra_cons re_v ra_nil))) (re_call rc_reprA (ra_cons re_v ra_nil))) (rs_seq (rs_parvv (by decide) (re_fn (ra_cons re_v (ra_cons re_v ra_nil))) (re_fn (ra_cons re_v (ra_cons re_v ra_nil)))) (rs_seq (rs_for (own := [6]) (ri_rng1 (ra_cons re_int ra_nil)) (rg_name (i := 6) (by decide)) (rs_seq (rs_parvv (by decide) (re_fn (ra_cons re_v (ra_cons re_v ra_nil))) (re_fn (ra_cons re_v (ra_cons re_v ra_nil)))) (rs_seq (rs_set (re_fn (ra_cons re_v (ra_cons re_v ra_nil)))) (rs_seq (rs_set (RF.e (rf_lst (ra_cons (re_fn (ra_cons re_v (ra_cons re_v (ra_cons re_v ra_nil)))) (ra_cons (re_fn (ra_cons re_v (ra_cons re_v (ra_cons re_v (ra_cons re_v (ra_cons re_v ra_nil)))))) ra_nil))))) (rs_seq (rs_own (rf_lc (own := [12]) (ri_seq (RF.e (rf_tup (ra_cons re_v (ra_cons re_v (ra_cons re_v (ra_cons re_v (ra_cons re_v ra_nil)))))))) (rg_name (i := 12) (by decide)) rt_yes (re_fn (ra_cons re_v (ra_cons re_v ra_nil))))) (rs_seq (rs_lput re_int (RF.e (rf_call rcf_dict (ra_cons (re_fn (ra_cons re_v (ra_cons (RF.e (rf_items re_v)) ra_nil))) ra_nil)))) (rs_seq (rs_giveQ (rs_set (re_call rc_reprA (ra_cons re_v ra_nil)))) (rs_seq (rs_set (RF.e (rf_lst (ra_cons (re_fn (ra_cons re_v (ra_cons (re_sub re_v re_int) (ra_cons (re_sub re_v re_int) (ra_cons (re_sub re_v re_int) ra_nil))))) (ra_cons (re_fn (ra_cons re_v (ra_cons (re_sub re_v re_int) (ra_cons (re_sub re_v re_int) (ra_cons (re_sub re_v re_int) (ra_cons (re_sub re_v re_int) ra_nil)))))) ra_nil))))) (rs_seq (rs_own (rf_lst (ra_cons (re_kw (ra_cons (re_sub re_v re_int) (ra_cons (re_sub re_v re_int) (ra_cons (re_sub re_v re_int) (ra_cons re_v ra_nil))))) ra_nil))) (rs_seq (rs_app (re_kw (ra_cons (re_sub re_v re_int) (ra_cons (re_sub re_v re_int) (ra_cons (re_sub re_v re_int) (ra_cons (re_sub re_v re_int) (ra_cons re_v ra_nil))))))) (rs_giveQ (rs_if (rt_or (rt_not (rt_B (re_fn (ra_cons (RF.e (rf_lst (ra_cons re_v (ra_cons re_v ra_nil)))) (ra_cons (RF.e (rf_lst (ra_cons re_v (ra_cons re_v ra_nil)))) ra_nil))))) (rt_test (re_op rb_ne (re_call rc_reprA (ra_cons re_v ra_nil)) re_v))) (rs_ret re_bl) rs_next)))))))))))) (rs_ret (re_and (re_op rb_eq (re_call rc_reprA (ra_cons re_v ra_nil)) re_v) (re_fn (ra_cons re_v (ra_cons re_v ra_nil))))))))⟩
abbrev s_law_below_right : Stmt := topS 65
theorem sc_law_below_right : FnScope ["stream", "season", "made", "bounds", "forecast", "prices", "some", "turn", "told"] ["stream", "season"] (defScope s_law_below_right) := ⟨rfl, rfl, rfl, by decide +kernel, rfl, by decide +kernel, by decide +kernel⟩
noncomputable def g_law_below_right (C : Addr) : FS := (seqS (parvvS 2 3 (mE (m_law_made C) 2 (consA (vE 0) (consA (vE 1) nilA))) (mE m_law_bounds 2 (consA (vE 0) (consA (vE 1) nilA)))) (seqS (parvvS 4 5 (mE m_law_drawn_outcome 2 (consA (vE 0) (consA (vE 1) nilA))) (mE m_law_prices 2 (consA (vE 0) (consA (vE 1) nilA)))) (seqS (setS 6 (mE m_law_costs 4 (consA (vE 1) (consA (vE 3) (consA (vE 4) (consA (vE 5) nilA)))))) (seqS (forS (rng1F (consA (cE (.int 6)) nilA)) (tgN 7) (seqS (setS 8 (mE (m_bill C) 5 (consA (vE 2) (consA (mE (m_law_copied 4) 1 (consA (vE 3) nilA)) (consA (callE listA (consA (vE 4) nilA)) (consA (callE listA (consA (vE 5) nilA)) (consA (mE m_law_drawn_pulls 2 (consA (vE 0) (consA (vE 1) nilA))) nilA))))))) (ifS (andT (bT (opE (notO eqP) (vE 6) (lstE nilA))) (orT (notT (bT (isE ["int"] (vE 8)))) (bT (opE gtI (vE 8) (subE (subE (vE 6) (cE (.int 0))) (cE (.int 0))))))) (retS (cE (.bl false))) nextS))) (retS (cE (.bl true)))))))
noncomputable def m_law_below_right (C : Addr) : FM := runS 9 (g_law_below_right C)
theorem ok_law_below_right {f : Addr} {fd : FuncData} (F : Fun K "_law_below_right" "_law_below_right" s_law_below_right f fd) (T : Tx K mg C tL) (c_law_made : Cal P w K mg base 7 "_law_made" (spD (m_law_made C) 2)) (c_law_bounds : Cal P w K mg base 4 "_law_bounds" (spD (m_law_bounds) 2)) (c_law_drawn_outcome : Cal P w K mg base 3 "_law_drawn_outcome" (spD (m_law_drawn_outcome) 2)) (c_law_prices : Cal P w K mg base 3 "_law_prices" (spD (m_law_prices) 2)) (c_law_costs : Cal P w K mg base 3 "_law_costs" (spD (m_law_costs) 4)) (c_bill : Cal P w K mg base 6 "bill" (spD (m_bill C) 5)) (c_law_drawn_pulls : Cal P w K mg base 3 "_law_drawn_pulls" (spD (m_law_drawn_pulls) 2)) (c_law_copied : Cal P w K mg base 5 "_law_copied" (spD (m_law_copied 4) 1)) : FnOk P w K mg base CX0 8 f fd ["stream", "season"] (spD (m_law_below_right C) 2) :=
  fn_D F sc_law_below_right fun cdv A outer s H hr => ⟨_, (pss_cons (ps_parA sc_law_below_right.nd rfl rfl (pa_cons (pe_c c_law_made hr (by decide) (by rfl) (pa_cons (pv 0) (pa_cons (pv 1) pa_nil))) (pa_cons (pe_c c_law_bounds hr (by decide) (by rfl) (pa_cons (pv 0) (pa_cons (pv 1) pa_nil))) pa_nil))) (pss_cons (ps_parA sc_law_below_right.nd rfl rfl (pa_cons (pe_c c_law_drawn_outcome hr (by decide) (by rfl) (pa_cons (pv 0) (pa_cons (pv 1) pa_nil))) (pa_cons (pe_c c_law_prices hr (by decide) (by rfl) (pa_cons (pv 0) (pa_cons (pv 1) pa_nil))) pa_nil))) (pss_cons (ps_set (i := 6) sc_law_below_right.nd rfl (by first | exact Or.inl rfl | exact Or.inr rfl) (pe_c c_law_costs hr (by decide) (by rfl) (pa_cons (pv 1) (pa_cons (pv 3) (pa_cons (pv 4) (pa_cons (pv 5) pa_nil)))))) (pss_cons (ps_for PassesOwn.never rfl (pi_range1 rfl T.b_range (pa_cons pe_int pa_nil)) (pg_name (i := 7) sc_law_below_right.nd rfl (by first | exact Or.inl rfl | exact Or.inr rfl)) (pss_cons (ps_set (i := 8) sc_law_below_right.nd rfl (by first | exact Or.inl rfl | exact Or.inr rfl) (pe_c c_bill hr (by decide) (by rfl) (pa_cons (pv 2) (pa_cons (pe_c c_law_copied hr (by decide) (by rfl) (pa_cons (pv 3) pa_nil)) (pa_cons (pe_callTy (call_listA rfl) (by rfl) T.b_list (by decide +kernel) (pa_cons (pv 4) pa_nil)) (pa_cons (pe_callTy (call_listA rfl) (by rfl) T.b_list (by decide +kernel) (pa_cons (pv 5) pa_nil)) (pa_cons (pe_c c_law_drawn_pulls hr (by decide) (by rfl) (pa_cons (pv 0) (pa_cons (pv 1) pa_nil))) pa_nil))))))) (pss_one (ps_if ((pw_and (pt_cmpR (op_neP hr.units) (pv 6) (pe_lst pa_nil) (nomark _)) (pw_and1 ((pw_or (pt_not (pt_val (pe_callB call_isi (by rfl) T.b_isinstance (by decide +kernel) (pa_cons (pv 8) (pa_cons (pe_bltn (v := .ty "int") (u := .type "int") (by rfl) T.b_int (by decide +kernel) rfl) pa_nil))))) (pw_or1 (pt_cmpR op_gt (pv 8) (pe_or2 (pe_ix ix_seq (pe_or2 (pe_ix ix_seq (pv 6) pe_int (fun _ _ => rfl)) (pe_dget (hu_of hr) (pv 6) pe_int (fun _ _ => rfl))) pe_int (fun _ _ => rfl)) (pe_dget (hu_of hr) (pe_or2 (pe_ix ix_seq (pv 6) pe_int (fun _ _ => rfl)) (pe_dget (hu_of hr) (pv 6) pe_int (fun _ _ => rfl))) pe_int (fun _ _ => rfl))) (nomark _))))).pt))).pt (pss_one (ps_ret pe_bl)) pss_nil)))) (pss_one (ps_ret pe_bl)))))), (rs_seq (rs_parvv (by decide) (re_fn (ra_cons re_v (ra_cons re_v ra_nil))) (re_fn (ra_cons re_v (ra_cons re_v ra_nil)))) (rs_seq (rs_parvv (by decide) (re_fn (ra_cons re_v (ra_cons re_v ra_nil))) (re_fn (ra_cons re_v (ra_cons re_v ra_nil)))) (rs_seq (rs_set (re_fn (ra_cons re_v (ra_cons re_v (ra_cons re_v (ra_cons re_v ra_nil)))))) (rs_seq (rs_for (own := [7]) (ri_rng1 (ra_cons re_int ra_nil)) (rg_name (i := 7) (by decide)) (rs_seq (rs_set (re_fn (ra_cons re_v (ra_cons (re_fn (ra_cons re_v ra_nil)) (ra_cons (RF.e (rf_call rcf_listA (ra_cons re_v ra_nil))) (ra_cons (RF.e (rf_call rcf_listA (ra_cons re_v ra_nil))) (ra_cons (re_fn (ra_cons re_v (ra_cons re_v ra_nil))) ra_nil))))))) (rs_if (rt_and (rt_test (re_op rb_neP re_v (RF.e (rf_lst ra_nil)))) (rt_or (rt_not (rt_B (re_is1 (by decide) re_v))) (rt_test (re_op rb_gt re_v (re_sub (re_sub re_v re_int) re_int))))) (rs_ret re_bl) rs_next))) (rs_ret re_bl)))))⟩
end
end M

set_option Elab.async false
set_option linter.all false
set_option maxRecDepth 100000
set_option maxHeartbeats 4000000
namespace M
open PySem L2
section
variable {P : Program} {w : World} {K : PySem.W.Frag} {mg : Str → Option Value} {base : Heap} {C : Addr} {tL : Tok}
abbrev s_law_stream : Stmt := topS 42
theorem sc_law_stream : FnScope ["script"] ["script"] (defScope s_law_stream) := ⟨rfl, rfl, rfl, by decide +kernel, rfl, by decide +kernel, by decide +kernel⟩
theorem ok_law_stream {f : Addr} {fd : FuncData} (F : Fun K "_law_stream" "_law_stream" s_law_stream f fd) (T : Tx K mg C tL) : FnOk P w K mg base CX0 1 f fd ["script"] (spStr K) := by
  refine F.ok sc_law_stream (fun vs H Q E h => ?_) (fun cdv A outer s H vs Q E hr h => ?_)
  · obtain ⟨a, ns, rfl, _⟩ := h
    rfl
  · obtain ⟨a, ns, rfl, hs, k⟩ := h
    obtain ⟨te, hp, hte⟩ : ∃ te, PSs (cxOf CX0 P w K mg base ["script"] "_law_stream" (defScope s_law_stream) f cdv A outer s H E0).nox (defBody s_law_stream) (tRet (tLst (tCons (tCB (rListA K) (tCons (tVar 0) tNil)) (tCons (tC (.int 0)) (tCons (tC (.int 0)) (tCons te tNil)))))) ∧ te = tC (.int 19) := ⟨_, pss_one (ps_ret (pe_lst (pa_cons (pe_callTy (call_listA rfl) (by rfl) T.b_list (by decide +kernel) (pa_cons (pv 0) pa_nil)) (pa_cons pe_int (pa_cons pe_int (pa_cons pe_int pa_nil)))))), rfl⟩
    subst hte
    refine ⟨_, hp, ?_⟩
    refine ⟨.ref a, rfl, .inl ⟨a, _, rfl, .inl hs, fun l hl => ⟨by show 4 ≤ sizeLine; decide, fun s hs => ?_⟩⟩⟩
    refine k l s hl ?_ ?_
    · by_cases e : s = l
      · subst e; rw [upd_same] at hs; cases hs
      · rw [upd_ne e] at hs; exact hs
    · intro e
      subst e
      rw [upd_same] at hs
      cases hs
abbrev s_law : Stmt := topS 66
theorem sc_law : FnScope ["script", "turn", "stream"] ["script"] (defScope s_law) := ⟨rfl, rfl, rfl, by decide +kernel, rfl, by decide +kernel, by decide +kernel⟩
noncomputable def g_turn (C : Addr) : FS := (seqS (ifS (notT (bT (mE (m_law_right C) 2 (consA (vE 2) (consA (mE m_law_season 3 (consA (vE 2) (consA (cE (.int 7)) (consA (cE (.int 12)) nilA)))) nilA))))) (retS (cE (.bl false))) nextS) (ifS (notT (bT (mE (m_law_below_right C) 2 (consA (vE 2) (consA (mE m_law_season 3 (consA (vE 2) (consA (cE (.int 4)) (consA (cE (.int 6)) nilA)))) nilA))))) (retS (cE (.bl false))) nextS))
def spLaw (K : PySem.W.Frag) (C : Addr) : Sp := fun vs H Q _ => ∃ (a : Addr) (ns : List Int), vs = [.ref a] ∧ SqL K H a (ns.map V.int) ∧ ns.length ≤ 100000 ∧ (∀ k, k < 5 → ∃ E' S', g_turn C (lawEv a (3 - 3) k) ⟨ns ++ [(k : Int)], 0, 0, 19⟩ = some (.nx, E', S') ∧ E'[0]? = some (.v (.far a)) ∧ E'.length = 3 - 3 + 3) ∧ ∀ H', Q (.bl true) H'
theorem law_body {f : Addr} (T : Tx K mg C tL) (c_law_stream : Cal P w K mg base 1 "_law_stream" (spStr K)) (c_law_right : CalG P w K mg base 9 "_law_right" (spD (m_law_right C) 2)) (c_law_season : Cal P w K mg base 4 "_law_season" (spD (m_law_season) 3)) (c_law_below_right : Cal P w K mg base 8 "_law_below_right" (spD (m_law_below_right C) 2)) {k : Nat} (hk : 9 ≤ k) (cdv : Value) (A : Around) (outer : List Env) (s : Shared) (H : Hp) (vs : List V) (Q : VK) (E : XK) (hr : Room k (A.deeper (PyProof.Rows.envOfC "law" (defScope s_law) s.heap.objs.size f cdv)))
    (hG : (A.deeper (PyProof.Rows.envOfC "law" (defScope s_law) s.heap.objs.size f cdv)).guards = some []) (h : spLaw K C vs H Q E) :
    ∃ t, PSs (cxOf CX0 P w K mg base ["script", "turn", "stream"] "law" (defScope s_law) f cdv A outer s H E).nox (defBody s_law) t ∧ t { nx := fun _ H' => Q .non H', rt := Q } (L2.start ["script", "turn", "stream"] vs) H := by
  obtain ⟨tb, hp, hb⟩ : ∃ tb, PSs (cxOf CX0 P w K mg base ["script", "turn", "stream"] "law" (defScope s_law) f cdv A outer s H E).nox (defBody s_law) (tSeq (tFor (iRng1 (tCons (tC (.int 5)) tNil)) (gName 1) (tTurn K tb)) (tRet (tC (.bl true)))) ∧ RS tb (g_turn C) :=
    ⟨_, pss_cons (ps_for PassesOwn.never rfl (pi_range1 rfl T.b_range (pa_cons pe_int pa_nil)) (pg_name (i := 1) sc_law.nd rfl (by first | exact Or.inl rfl | exact Or.inr rfl)) (pss_cons (ps_set (i := 2) sc_law.nd rfl (by first | exact Or.inl rfl | exact Or.inr rfl) (pe_c c_law_stream hr (Nat.le_trans (by decide) hk) (by rfl) (pa_cons (pe_op op_addA (pe_callTy (call_listA rfl) (by rfl) T.b_list (by decide +kernel) (pa_cons (pv 0) pa_nil)) (pe_lst (pa_cons (pv 1) pa_nil))) pa_nil))) (pss_cons (ps_if (pt_not (pt_val (pe_cG c_law_right hG hr (Nat.le_trans (by decide) hk) (by rfl) (pa_cons (pv 2) (pa_cons (pe_c c_law_season hr (Nat.le_trans (by decide) hk) (by rfl) (pa_cons (pv 2) (pa_cons pe_int (pa_cons pe_int pa_nil)))) pa_nil))))) (pss_one (ps_ret pe_bl)) pss_nil) (pss_one (ps_if (pt_not (pt_val (pe_c c_law_below_right hr (Nat.le_trans (by decide) hk) (by rfl) (pa_cons (pv 2) (pa_cons (pe_c c_law_season hr (Nat.le_trans (by decide) hk) (by rfl) (pa_cons (pv 2) (pa_cons pe_int (pa_cons pe_int pa_nil)))) pa_nil))))) (pss_one (ps_ret pe_bl)) pss_nil))))) (pss_one (ps_ret pe_bl)), (rs_seq (rs_if (rt_not (rt_B (re_fn (ra_cons re_v (ra_cons (re_fn (ra_cons re_v (ra_cons re_int (ra_cons re_int ra_nil)))) ra_nil))))) (rs_ret re_bl) rs_next) (rs_if (rt_not (rt_B (re_fn (ra_cons re_v (ra_cons (re_fn (ra_cons re_v (ra_cons re_int (ra_cons re_int ra_nil)))) ra_nil))))) (rs_ret re_bl) rs_next))⟩
  refine ⟨_, hp, ?_⟩
  obtain ⟨a, ns, rfl, hs, hl, run, kk⟩ := h
  exact turn_for hb hl run (by decide) rfl rfl rfl hs fun _ H1 => kk H1
end
end M

set_option Elab.async false
set_option linter.all false
set_option maxRecDepth 100000
set_option maxHeartbeats 4000000
namespace M
open PySem L2

/-! ### mirrors, step by step -/
section
variable {E : Ev} {S : Sm} {f fa fb : FE} {c c2 : FT} {a : FA} {g g1 g2 : FS}
@[simp] theorem x_v {i : Nat} : vE i E S = match E[i]? with | some (.v d) => some (d, S) | _ => none := rfl
@[simp] theorem x_c {d : D} : cE d E S = some (d, S) := rfl
@[simp] theorem x_op {o : Op2} : opE o fa fb E S = match fa E S with
  | some (x, S1) => match fb E S1 with
    | some (y, S2) => match o x y with
      | some z => some (z, S2)
      | none => none
    | none => none
  | none => none := rfl
@[simp] theorem x_nil : nilA E S = some ([], S) := rfl
@[simp] theorem x_cons : consA f a E S = match f E S with
  | some (d, S1) => match a E S1 with
    | some (ds, S2) => some (d :: ds, S2)
    | none => none
  | none => none := rfl
@[simp] theorem x_call {o : OpN} : callE o a E S = match a E S with
  | some (ds, S1) => match o ds with
    | some d => some (d, S1)
    | none => none
  | none => none := rfl
@[simp] theorem x_tup : tupE a E S = match a E S with
  | some (ds, S1) => if ds.length ≤ 100000 then some (.tup ds, S1) else none
  | none => none := rfl
@[simp] theorem x_lst : lstE a E S = match a E S with
  | some (ds, S1) => if ds.length ≤ 100000 then some (.lst ds, S1) else none
  | none => none := rfl
@[simp] theorem x_m {m : FM} {n : Nat} : mE m n a E S = match a E S with
  | some (ds, S1) => if ds.length = n then m ds S1 else none
  | none => none := rfl
@[simp] theorem x_kw {m : FM} {n nk : Nat} {ix : List Nat} : kwE m n nk ix a E S = match a E S with
  | some (ds, S1) => if ds.length = nk ∧ (permL ix ds).length = n then m (permL ix ds) S1 else none
  | none => none := rfl
@[simp] theorem x_and : andE fa fb E S = match fa E S with
  | some (.bl true, S1) => fb E S1
  | some (.bl false, S1) => some (.bl false, S1)
  | _ => none := rfl
@[simp] theorem x_or : orE fa fb E S = match fa E S with
  | some (.bl false, S1) => fb E S1
  | some (.bl true, S1) => some (.bl true, S1)
  | _ => none := rfl
@[simp] theorem x_not : notE f E S = match f E S with
  | some (.bl b, S1) => some (.bl (!b), S1)
  | _ => none := rfl
@[simp] theorem x_if : ifE c fa fb E S = match c E S with
  | some (b, S1) => if b then fa E S1 else fb E S1
  | none => none := rfl
@[simp] theorem x_isN : isNE f E S = match f E S with
  | some (d, S1) => some (.bl (isNonD d), S1)
  | none => none := rfl
@[simp] theorem x_notN : notNE f E S = match f E S with
  | some (d, S1) => some (.bl (!isNonD d), S1)
  | none => none := rfl
@[simp] theorem x_bT : bT f E S = match f E S with
  | some (.bl b, S1) => some (b, S1)
  | _ => none := rfl
@[simp] theorem x_andT : andT c c2 E S = match c E S with
  | some (true, S1) => c2 E S1
  | r => r := rfl
@[simp] theorem x_orT : orT c c2 E S = match c E S with
  | some (false, S1) => c2 E S1
  | r => r := rfl
@[simp] theorem x_notT : notT c E S = match c E S with
  | some (b, S1) => some (!b, S1)
  | none => none := rfl
@[simp] theorem x_yes : yesT E S = some (true, S) := rfl
@[simp] theorem x_is {ns : List String} : isE ns f E S = match f E S with
  | some (d, S1) => match isB ns d with
    | some x => some (x, S1)
    | none => none
  | none => none := rfl
theorem x_isC {C : Addr} : isCE C f E S = match f E S with
  | some (.ins C' _, S1) => if C' = C then some (.bl true, S1) else none
  | _ => none := rfl
theorem x_fld {C : Addr} {n : Str} : fldE C n f E S = match f E S with
  | some (.ins C' fs, S1) => if C' = C then match fs.lookup n with
      | some d => some (d, S1)
      | none => none
    else none
  | _ => none := rfl
@[simp] theorem x_seq : seqS g1 g2 E S = match g1 E S with
  | some (.nx, E1, S1) => g2 E1 S1
  | r => r := rfl
@[simp] theorem x_next : nextS E S = some (.nx, E, S) := rfl
@[simp] theorem x_never : neverS E S = none := rfl
@[simp] theorem x_ret : retS f E S = match f E S with
  | some (d, S1) => some (.rt d, E, S1)
  | none => none := rfl
@[simp] theorem x_retN : retNS E S = some (.rt .non, E, S) := rfl
@[simp] theorem x_drop : dropS f E S = match f E S with
  | some (_, S1) => some (.nx, E, S1)
  | none => none := rfl
@[simp] theorem x_set {i : Nat} : setS i f E S = match f E S with
  | some (d, S1) => if i < E.length then some (.nx, E.set i (.v d), S1) else none
  | none => none := rfl
@[simp] theorem x_own {i : Nat} : ownS i f E S = match f E S with
  | some (d, S1) => if i < E.length ∧ notTup d = true then some (.nx, E.set i (.o d), S1) else none
  | none => none := rfl
@[simp] theorem x_ifS : ifS c g1 g2 E S = match c E S with
  | some (b, S1) => if b then g1 E S1 else g2 E S1
  | none => none := rfl
@[simp] theorem x_give {i : Nat} : giveQ i g E S = match E[i]? with
  | some (.o d) => g (E.set i (.v d)) S
  | _ => g E S := rfl
@[simp] theorem x_asg {tg : TgD} : asgS f tg E S = match f E S with
  | some (d, S1) => match tg d E with
    | some E1 => some (.nx, E1, S1)
    | none => none
  | none => none := rfl
@[simp] theorem x_it : itF f E S = match f E S with
  | some (.lst ds, S1) => some (ds, S1)
  | some (.tup ds, S1) => some (ds, S1)
  | some (.str x, S1) => some (signsD x, S1)
  | _ => none := rfl
@[simp] theorem x_en : enA a E S = match a E S with
  | some ([.lst ds], S1) => some (enumD 0 ds, S1)
  | some ([.tup ds], S1) => some (enumD 0 ds, S1)
  | _ => none := rfl
@[simp] theorem x_keys : keysF f E S = match f E S with
  | some (.dic kds, S1) => some (kds.map fun p => kD p.1, S1)
  | some (.dtk kds, S1) => some (kds.map fun p => .tup (p.1.map kD), S1)
  | _ => none := rfl
@[simp] theorem x_rng1 : rng1F a E S = match a E S with
  | some ([.int j], S1) => if -(2 ^ 60) ≤ j ∧ j < 2 ^ 60 then some (rngD 0 j.toNat, S1) else none
  | _ => none := rfl
@[simp] theorem x_sub : subE fa fb E S = opE (orO ixD getD) fa fb E S := rfl
@[simp] theorem x_in : inE fa fb E S = opE (orO (orO inSq inStr) inDD) fa fb E S := rfl
@[simp] theorem x_tgN {i : Nat} {d : D} : tgN i d E = if i < E.length then some (E.set i (.v d)) else none := rfl
@[simp] theorem x_tgNil : tgNil [] E = some E := rfl
@[simp] theorem x_tgCons {t : TgD} {u : TgsD} {d : D} {r : List D} : tgCons t u (d :: r) E = match t d E with
    | some E1 => u r E1
    | none => none := rfl
@[simp] theorem x_tgT {n : Nat} {t : TgsD} {ds : List D} : tgT n t (.tup ds) E = if ds.length = n then t ds E else none := rfl
@[simp] theorem x_for {fi : FI} {tg : TgD} {body : FS} : forS fi tg body E S = match fi E S with
  | some (items, S1) => forL tg body items E S1
  | none => none := rfl
@[simp] theorem x_lc {fi : FI} {tg : TgD} {own : List Nat} : lcE fi tg c f own E S = match fi E S with
  | some (items, S1) => if items.length ≤ 1000000 ∧ noOwn E own = true then match lcL tg c f items (wipeE E own) S1 with
      | some (xs, S2) => some (.lst xs, S2)
      | none => none
    else none
  | none => none := rfl
end
/-- a comprehension that leaves the stream alone -/
theorem lcL_pure {tg : TgD} {c : FT} {fe : FE} {E : Ev} {S : Sm} (f : D → Option D) : ∀ (items : List D), (∀ d ∈ items, ∃ E1, tg d E = some E1 ∧ ((f d = none ∧ c E1 S = some (false, S)) ∨ ∃ x, f d = some x ∧ c E1 S = some (true, S) ∧ fe E1 S = some (x, S))) →
    lcL tg c fe items E S = some (items.filterMap f, S)
  | [], _ => rfl
  | d :: r, h => by
    have ih := lcL_pure f r fun x hx => h x (List.mem_cons_of_mem _ hx)
    obtain ⟨E1, h1, h2⟩ := h d List.mem_cons_self
    unfold lcL
    rw [h1]
    rcases h2 with ⟨h2, h3⟩ | ⟨x, h2, h3, h4⟩
    · simp [h3, h2, ih]
    · simp [h3, h4, h2, ih]

/-! ### seasons as data -/
abbrev Wins := List (Str × Int)
abbrev Games := List (Str × Str)
def winD (w : Wins) : D := .dic (w.map fun p => (.inr p.1, .int p.2))
def gameD (g : Str × Str) : D := .tup [.str g.1, .str g.2]
def gamesD (g : Games) : D := .lst (g.map gameD)
def seasD (C : Addr) (w : Wins) (g : Games) : D := .ins C [("own_wins", winD w), ("own_games", gamesD g)]
theorem l_wins {w g : D} : List.lookup ("own_wins" : Str) [("own_wins", w), ("own_games", g)] = some w := by rfl
theorem l_games {w g : D} : List.lookup ("own_games" : Str) [("own_wins", w), ("own_games", g)] = some g := by rfl

@[simp] theorem fld_wins {C : Addr} {w : Wins} {g : Games} {E : Ev} {S : Sm} : fldE C "own_wins" (vE 0) (.v (seasD C w g) :: E) S = some (winD w, S) := by
  rw [x_fld]
  simp [seasD, l_wins]
@[simp] theorem fld_games {C : Addr} {w : Wins} {g : Games} {E : Ev} {S : Sm} : fldE C "own_games" (vE 0) (.v (seasD C w g) :: E) S = some (gamesD g, S) := by
  rw [x_fld]
  simp [seasD, l_games]
@[simp] theorem isC_seas {C : Addr} {w : Wins} {g : Games} {E : Ev} {S : Sm} : isCE C (vE 0) (.v (seasD C w g) :: E) S = some (.bl true, S) := by
  rw [x_isC]
  simp [seasD]
def valW (w : Wins) (t : Str) : Option Int := (w.find? fun p => decide (p.1 = t)).map (·.2)
def hasW (w : Wins) (t : Str) : Bool := (valW w t).isSome
def inG (t : Str) (g : Str × Str) : Bool := g.1 == t || g.2 == t
@[simp] theorem wipe0 {E : Ev} : wipeE E [] = E := rfl
@[simp] theorem wipe1 {E : Ev} {v : Nat} {vs : List Nat} : wipeE E (v :: vs) = (wipeE E vs).set v .no := rfl
@[simp] theorem is_str_str {t : Str} : isB ["str"] (.str t) = some (.bl true) := by simp [isB, kindD, tyB]
@[simp] theorem is_int_int {t : Int} : isB ["int"] (.int t) = some (.bl true) := by simp [isB, kindD, tyB]
@[simp] theorem is_bool_int {t : Int} : isB ["bool"] (.int t) = some (.bl false) := by simp [isB, kindD, tyB]
@[simp] theorem is_lt_lst {t : List D} : isB ["list", "tuple"] (.lst t) = some (.bl true) := by simp [isB, kindD, tyB]
@[simp] theorem is_lt_tup {t : List D} : isB ["list", "tuple"] (.tup t) = some (.bl true) := by simp [isB, kindD, tyB]
theorem find_win (w : Wins) (t : Str) : valD (w.map fun p => ((.inr p.1 : Key), D.int p.2)) (.inr t) = (valW w t).map D.int := by
  unfold valD valW
  rw [List.find?_map]
  have : ((fun kv : Key × D => decide (kv.1 = Sum.inr t)) ∘ fun p : Str × Int => ((.inr p.1 : Key), D.int p.2)) = fun p => decide (p.1 = t) := by
    funext p
    simp
  rw [this]
  cases w.find? fun p => decide (p.1 = t) <;> rfl
@[simp] theorem in_win {t : Str} {w : Wins} : orO (orO inSq inStr) inDD (.str t) (winD w) = some (.bl (hasW w t)) := by
  have : inDD (.str t) (winD w) = some (.bl (hasW w t)) := by
    unfold inDD winD lookD keyD
    simp only [find_win]
    unfold hasW
    simp
  simp [orO, inSq, inStr, winD] at this ⊢
  exact this
@[simp] theorem sub_win {t : Str} {w : Wins} : orO ixD getD (winD w) (.str t) = (valW w t).map D.int := by
  unfold orO ixD getD winD lookD keyD
  simp only [find_win]
  cases valW w t <;> rfl
@[simp] theorem in_game {t : Str} {g : Str × Str} : orO (orO inSq inStr) inDD (.str t) (gameD g) = some (.bl (inG t g)) := by
  simp [orO, inSq, inStr, gameD, flatD, eqFD, inG]
@[simp] theorem sub_pair0 {a b : D} : orO ixD getD (.tup [a, b]) (.int 0) = some a := by rfl
@[simp] theorem sub_pair1 {a b : D} : orO ixD getD (.tup [a, b]) (.int 1) = some b := by rfl
@[simp] theorem ix_pair0 {a b : D} : ixD (.tup [a, b]) (.int 0) = some a := by rfl
@[simp] theorem ix_pair1 {a b : D} : ixD (.tup [a, b]) (.int 1) = some b := by rfl
@[simp] theorem sub_lpair0 {a b : D} : orO ixD getD (.lst [a, b]) (.int 0) = some a := by rfl
@[simp] theorem sub_lpair1 {a b : D} : orO ixD getD (.lst [a, b]) (.int 1) = some b := by rfl
@[simp] theorem eq_str {a b : Str} : eqA (.str a) (.str b) = some (.bl (decide (a = b))) := by rfl
@[simp] theorem eq_int {a b : Int} : eqA (.int a) (.int b) = some (.bl (decide (a = b))) := by rfl
@[simp] theorem ne_str {a b : Str} : notO eqA (.str a) (.str b) = some (.bl (!decide (a = b))) := by rfl
@[simp] theorem ne_int {a b : Int} : notO eqA (.int a) (.int b) = some (.bl (!decide (a = b))) := by rfl
@[simp] theorem le_int {a b : Int} : leI (.int a) (.int b) = some (.bl (decide (a ≤ b))) := by rfl
@[simp] theorem ge_int {a b : Int} : geI (.int a) (.int b) = some (.bl (decide (b ≤ a))) := by rfl
@[simp] theorem gt_int {a b : Int} : gtI (.int a) (.int b) = some (.bl (decide (b < a))) := by rfl
@[simp] theorem sub_int {a b : Int} : subI (.int a) (.int b) = some (.int (a - b)) := by rfl
@[simp] theorem add_int {a b : Int} : addA (.int a) (.int b) = some (.int (a + b)) := by rfl
@[simp] theorem lt_int {a b : Int} : ltA (.int a) (.int b) = some (.bl (decide (a < b))) := by rfl
@[simp] theorem len_lst {a : List D} : lenN [.lst a] = some (.int a.length) := by rfl
@[simp] theorem len_tup {a : List D} : lenN [.tup a] = some (.int a.length) := by rfl

theorem q_check_season {C : Addr} {w : Wins} {g : Games} {S : Sm} : m_check_season C [seasD C w g] S = some (.non, S) := by
  simp [m_check_season, g_check_season, runS]
/-- the places of a team's games -/
def leftIx (t : Str) : Nat → Games → List D
  | _, [] => []
  | n, g :: r => if inG t g then .int n :: leftIx t (n + 1) r else leftIx t (n + 1) r
def left (t : Str) (g : Games) : Nat := (g.filter (inG t)).length
theorem leftIx_len (t : Str) : ∀ (n : Nat) (g : Games), (leftIx t n g).length = left t g
  | _, [] => rfl
  | n, g :: r => by
    unfold leftIx left
    by_cases h : inG t g = true
    · rw [if_pos h, List.filter_cons_of_pos h, List.length_cons, List.length_cons, leftIx_len t (n + 1) r]; rfl
    · rw [if_neg h, List.filter_cons_of_neg h, leftIx_len t (n + 1) r]; rfl
theorem enumD_len' (n : Nat) (ds : List D) : (enumD n ds).length = ds.length := enumD_len n ds
end M


set_option Elab.async false
set_option linter.all false
set_option maxRecDepth 100000
set_option maxHeartbeats 4000000
namespace M
open PySem L2

def NdW (w : Wins) : Prop := (w.map (·.1)).Nodup
theorem valW_mem : ∀ {w : Wins}, NdW w → ∀ {p : Str × Int}, p ∈ w → valW w p.1 = some p.2
  | [], _, p, h => by cases h
  | q :: w, hn, p, h => by
    unfold NdW at hn
    rw [List.map_cons, List.nodup_cons] at hn
    unfold valW
    rw [List.find?_cons]
    rcases List.mem_cons.mp h with e | h
    · subst e
      simp
    · have : q.1 ≠ p.1 := fun e => hn.1 (e ▸ List.mem_map.mpr ⟨p, h, rfl⟩)
      rw [decide_eq_false this]
      exact valW_mem hn.2 h
/-- what a team can reach -/
def best (w : Wins) (g : Games) (t : Str) : Int := (valW w t).getD 0 + left t g
theorem bools_map (l : List Bool) : bools? (l.map D.bl) = some l := by
  induction l with
  | nil => rfl
  | cons b l ih => rw [List.map_cons, bools?, ih]; rfl
def riv (w : Wins) (t : Str) : Wins := w.filter fun p => !decide (p.1 = t)
/-- who wins where other wins all, and team none -/
def wonBy (o t : Str) (x : Str × Str) : Str := if inG o x then o else if inG t x then (if t = x.1 then x.2 else x.1) else x.1
theorem atI_nat {α : Type} {l : List α} {n : Nat} : atI l (n : Int) = l[n]? := by
  unfold atI ixN
  by_cases h : n < l.length
  · have h1 : (0 : Int) ≤ (n : Int) := by omega
    have h2 : (n : Int) < (l.length : Int) := by omega
    simp [h1, h2]
  · have h1 : (0 : Int) ≤ (n : Int) := by omega
    have h2 : ¬ (n : Int) < (l.length : Int) := by omega
    simp [h1, h2]
    omega
@[simp] theorem sub_games {g : Games} {n : Nat} : orO ixD getD (gamesD g) (.int (n : Int)) = (g[n]?).map gameD := by
  unfold gamesD orO ixD getD
  simp only [atI_nat, List.getElem?_map]
  cases g[n]? <;> rfl
@[simp] theorem sub_game0 {x : Str × Str} : orO ixD getD (gameD x) (.int 0) = some (.str x.1) := rfl
theorem q_other_of {C : Addr} {w : Wins} {g : Games} {t : Str} {n : Nat} {x : Str × Str} {S : Sm} (h : g[n]? = some x) : m_other_of C [seasD C w g, .int n, .str t] S = some (.str (if t = x.1 then x.2 else x.1), S) := by
  by_cases e : t = x.1
  · simp [m_other_of, g_other_of, runS, h, gameD, e]
  · simp [m_other_of, g_other_of, runS, h, gameD, e]
end M


set_option Elab.async false
set_option linter.all false
set_option maxRecDepth 100000
set_option maxHeartbeats 4000000
namespace M
open PySem L2

/-! ### equal things are the same -/
def okSame : Nat → D → Prop
  | 0, _ => False
  | n + 1, d => match d with
    | .non => True
    | .bl _ => True
    | .int _ => True
    | .str _ => True
    | .lst ds => ds.length ≤ 1000000 ∧ ∀ x ∈ ds, okSame n x
    | .tup ds => ds.length ≤ 1000000 ∧ ∀ x ∈ ds, okSame n x
    | _ => False
theorem is_lst (ns : List String) (ds : List D) : isB ns (.lst ds) = some (.bl (ns.any fun n => tyB "list" n)) := rfl
theorem is_tup (ns : List String) (ds : List D) : isB ns (.tup ds) = some (.bl (ns.any fun n => tyB "tuple" n)) := rfl
theorem is_str (ns : List String) (x : Str) : isB ns (.str x) = some (.bl (ns.any fun n => tyB "str" n)) := rfl
theorem is_int (ns : List String) (x : Int) : isB ns (.int x) = some (.bl (ns.any fun n => tyB "int" n)) := rfl
theorem is_bl (ns : List String) (x : Bool) : isB ns (.bl x) = some (.bl (ns.any fun n => tyB "bool" n)) := rfl
theorem is_non (ns : List String) : isB ns .non = some (.bl (ns.any fun n => tyB "NoneType" n)) := rfl
theorem ty_list_list : tyB "list" "list" = true := by decide +kernel
theorem ty_list_tuple : tyB "list" "tuple" = false := by decide +kernel
theorem ty_tuple_list : tyB "tuple" "list" = false := by decide +kernel
theorem ty_tuple_tuple : tyB "tuple" "tuple" = true := by decide +kernel
@[simp] theorem eq_bl {a b : Bool} : eqA (.bl a) (.bl b) = some (.bl (decide (a = b))) := by rfl
@[simp] theorem ne_bl {a b : Bool} : notO eqA (.bl a) (.bl b) = some (.bl (!decide (a = b))) := by rfl
theorem same_list {self : FM} {S : Sm} : ∀ {ds : List D}, (∀ x ∈ ds, self [x, x] S = some (.bl true, S)) → ∀ (a b c d : Sl), lcL (tgT 2 (tgCons (tgN 2) (tgCons (tgN 3) tgNil))) yesT (mE self 2 (consA (vE 2) (consA (vE 3) nilA))) (zipD ds ds) [a, b, c, d] S = some (List.replicate ds.length (.bl true), S)
  | [], _, _, _, _, _ => rfl
  | x :: r, h, a, b, c, d => by
    have h1 := h x List.mem_cons_self
    have h2 := same_list (self := self) (S := S) (ds := r) fun y hy => h y (List.mem_cons_of_mem _ hy)
    simp [zipD, lcL, h1, h2, List.replicate_succ]
theorem all_same (n : Nat) : allN [.lst (List.replicate n (.bl true))] = some (.bl true) := by
  have : (List.replicate n (D.bl true)) = (List.replicate n true).map D.bl := by simp
  rw [allN, this, bools_map]
  simp
theorem q_same : ∀ {n : Nat} {d : D} {S : Sm}, okSame n d → m_law_same n [d, d] S = some (.bl true, S)
  | 0, _, _, h => h.elim
  | n + 1, d, S, h => by
    have ih := fun x (hx : okSame n x) => q_same (n := n) (d := x) (S := S) hx
    unfold m_law_same
    cases d with
    | non => simp [g_law_same, runS, is_non, is_str, tyB, isNonD, eqA]
    | bl b => cases b <;> simp [g_law_same, runS, is_bl, tyB, eqA]
    | int i => simp [g_law_same, runS, is_int, tyB, isNonD]
    | str i => simp [g_law_same, runS, is_str, tyB, isNonD]
    | lst ds =>
      have hl : (zipD ds ds).length ≤ 1000000 := by rw [zipD_len]; exact Nat.le_trans (Nat.min_le_left _ _) h.1
      have h1 := fun a b c d => same_list (self := m_law_same n) (S := S) (ds := ds) (fun x hx => ih x (h.2 x hx)) a b c d
      simp [g_law_same, runS, is_lst, tyB, isNonD, zipA, noOwn, hl, h1, all_same]
    | tup ds =>
      have hl : (zipD ds ds).length ≤ 1000000 := by rw [zipD_len]; exact Nat.le_trans (Nat.min_le_left _ _) h.1
      have h1 := fun a b c d => same_list (self := m_law_same n) (S := S) (ds := ds) (fun x hx => ih x (h.2 x hx)) a b c d
      simp [g_law_same, runS, is_tup, tyB, isNonD, zipA, noOwn, hl, h1, all_same]
    | _ => exact h.elim
end M


set_option Elab.async false
set_option linter.all false
set_option maxRecDepth 100000
set_option maxHeartbeats 4000000
namespace M
open PySem L2

def seaT (w : Wins) (g : Games) : D := .tup [winD w, gamesD g]
def strsD (zs : List Str) : D := .lst (zs.map D.str)
@[simp] theorem sea0 {w : Wins} {g : Games} : orO ixD getD (seaT w g) (.int 0) = some (winD w) := rfl
@[simp] theorem sea1 {w : Wins} {g : Games} : orO ixD getD (seaT w g) (.int 1) = some (gamesD g) := rfl
@[simp] theorem seai0 {w : Wins} {g : Games} : ixD (seaT w g) (.int 0) = some (winD w) := rfl
@[simp] theorem len_games {g : Games} : lenN [gamesD g] = some (.int g.length) := by simp [gamesD]
@[simp] theorem len_strs {zs : List Str} : lenN [strsD zs] = some (.int zs.length) := by simp [strsD]
@[simp] theorem is_lt_strs {zs : List Str} : isB ["list", "tuple"] (strsD zs) = some (.bl true) := by simp [strsD]
/-- an outcome -/
def IsOut (g : Games) (zs : List Str) : Prop := Paired (fun z x => inG z x = true) zs g
theorem IsOut.len {g : Games} {zs : List Str} (h : IsOut g zs) : zs.length = g.length := Paired.length h
/-! ### tables -/
def bump (w : Wins) (z : Str) : Wins := w.map fun p => if p.1 = z then (p.1, p.2 + 1) else p
def tabOf (w : Wins) (zs : List Str) : Wins := zs.foldl bump w
theorem bump_fst {w : Wins} {z : Str} : (bump w z).map (·.1) = w.map (·.1) := by
  unfold bump
  rw [List.map_map]
  apply List.map_congr_left
  intro p _
  show (if p.1 = z then (p.1, p.2 + 1) else p).1 = p.1
  split <;> rfl
theorem bump_nd {w : Wins} {z : Str} (h : NdW w) : NdW (bump w z) := by unfold NdW; rw [bump_fst]; exact h
theorem bump_len {w : Wins} {z : Str} : (bump w z).length = w.length := by unfold bump; simp
theorem valW_cons {p : Str × Int} {w : Wins} {t : Str} : valW (p :: w) t = if p.1 = t then some p.2 else valW w t := by
  unfold valW
  rw [List.find?_cons]
  by_cases h : p.1 = t
  · simp [h]
  · simp [h]
theorem bump_val {w : Wins} {z t : Str} : valW (bump w z) t = (valW w t).map fun i => if t = z then i + 1 else i := by
  induction w with
  | nil => rfl
  | cons p w ih =>
    have e : bump (p :: w) z = (if p.1 = z then (p.1, p.2 + 1) else p) :: bump w z := rfl
    rw [e, valW_cons, valW_cons, ih]
    by_cases h1 : p.1 = z <;> by_cases h2 : p.1 = t
    · subst h1; subst h2; simp
    · have h3 : ¬ z = t := fun e => h2 (h1.trans e)
      simp [h1, h3]
    · subst h2; simp [h1]
    · simp [h1, h2]
theorem mem_val {w : Wins} {t : Str} {i : Int} (h : valW w t = some i) : (t, i) ∈ w := by
  unfold valW at h
  cases hf : w.find? fun p => decide (p.1 = t) with
  | none => rw [hf] at h; cases h
  | some p =>
    rw [hf] at h
    cases h
    have h1 := List.find?_some hf
    have h2 := List.mem_of_find?_eq_some hf
    have : p.1 = t := by simpa using h1
    subst this
    exact h2
theorem put_win {w : Wins} {z : Str} {i : Int} (hn : NdW w) (h : valW w z = some i) : putD (w.map fun p => ((.inr p.1 : Key), D.int p.2)) (.inr z) (.int (i + 1)) = (bump w z).map fun p => ((.inr p.1 : Key), D.int p.2) := by
  have hm := mem_val h
  unfold putD
  rw [if_pos]
  · unfold bump
    rw [List.map_map, List.map_map]
    apply List.map_congr_left
    intro p hp
    simp only [Function.comp]
    by_cases e : p.1 = z
    · have := valW_mem hn hp
      rw [e, h] at this
      cases this
      simp [e]
    · simp [e]
  · rw [List.any_eq_true]
    exact ⟨_, List.mem_map.mpr ⟨_, hm, rfl⟩, by simp⟩
theorem pairs_win : ∀ (w : Wins), pairs? (w.map fun p => D.tup [.str p.1, .int p.2]) = some (w.map fun p => ((.inr p.1 : Key), D.int p.2))
  | [] => rfl
  | p :: w => by
    rw [List.map_cons, pairs?, pairs_win w]
    rfl
theorem merge_nd {κ : Type} : ∀ {ps acc : List (Key × D)}, ((acc ++ ps).map (·.1)).Nodup → mergeD acc ps = acc ++ ps
  | [], acc, _ => by simp [mergeD]
  | p :: ps, acc, h => by
    have e : mergeD acc (p :: ps) = mergeD (putD acc p.1 p.2) ps := rfl
    have e2 : putD acc p.1 p.2 = acc ++ [p] := by
      unfold putD
      rw [if_neg]
      intro hc
      rw [List.any_eq_true] at hc
      obtain ⟨q, hq, hq2⟩ := hc
      have hq3 : q.1 = p.1 := by simpa using hq2
      rw [List.map_append, List.nodup_append] at h
      exact h.2.2 _ (List.mem_map.mpr ⟨q, hq, rfl⟩) _ (List.mem_map.mpr ⟨p, List.mem_cons_self, rfl⟩) hq3
    rw [e, e2, merge_nd (κ := κ) (by simpa using h)]
    simp
theorem keys_nd {w : Wins} (h : NdW w) : ((w.map fun p => ((.inr p.1 : Key), D.int p.2)).map (·.1)).Nodup := by
  rw [List.map_map]
  have : ((fun x : Key × D => x.1) ∘ fun p : Str × Int => ((.inr p.1 : Key), D.int p.2)) = (Sum.inr) ∘ (fun p => p.1) := rfl
  rw [this, ← List.map_map]
  exact List.Pairwise.map _ (fun a b hab e => hab (Sum.inr.inj e)) h
theorem dict_win {w : Wins} (h : NdW w) : dictN [.lst (w.map fun p => D.tup [.str p.1, .int p.2])] = some (winD w) := by
  unfold dictN
  simp only [pairs_win]
  rw [merge_nd (κ := Unit) (by simpa using keys_nd h)]
  rfl
theorem bumps_nd : ∀ {zs : List Str} {w : Wins}, NdW w → NdW (tabOf w zs)
  | [], _, h => h
  | z :: zs, w, h => bumps_nd (zs := zs) (bump_nd h)
theorem bumps_val : ∀ {zs : List Str} {w : Wins} {t : Str}, valW (tabOf w zs) t = (valW w t).map fun i : Int => i + ((zs.count t : Nat) : Int)
  | [], w, t => by
    show valW w t = _
    cases valW w t <;> simp
  | z :: zs, w, t => by
    show valW (tabOf (bump w z) zs) t = _
    rw [bumps_val, bump_val, List.count_cons]
    cases valW w t with
    | none => rfl
    | some i =>
      by_cases e : t = z
      · subst e; simp; omega
      · have : ¬ z = t := fun h => e h.symm
        simp [e, this]
theorem q_table {w : Wins} {g : Games} {zs : List Str} {S : Sm} (hn : NdW w) (hw : w.length ≤ 1000) (h : ∀ z ∈ zs, hasW w z = true) : m_law_table [seaT w g, strsD zs] S = some (winD (tabOf w zs), S) := by
  have g1 : ∀ (w2 : Wins) (a b : Sl), (∀ p ∈ w2, p ∈ w) → lcL (tgN 3) yesT (tupE (consA (vE 3) (consA (subE (subE (vE 0) (cE (.int 0))) (vE 3)) nilA))) (w2.map fun p => D.str p.1) [.v (seaT w g), a, .no, b] S = some (w2.map fun p => D.tup [.str p.1, .int p.2], S) := by
    intro w2
    induction w2 with
    | nil => intro _ _ _; rfl
    | cons p w2 ih =>
      intro a b hm
      have hv := valW_mem hn (hm p List.mem_cons_self)
      have := fun b => ih a b fun q hq => hm q (List.mem_cons_of_mem _ hq)
      rw [List.map_cons, lcL]
      simp [hv, this]
  have g2 : ∀ (zs : List Str) (w2 : Wins), NdW w2 → w2.length ≤ 1000 → (∀ z ∈ zs, hasW w2 z = true) → ∀ (a b c : Sl), ∃ d, forL (tgN 3) (dputS 2 (vE 3) (opE addA (subOE 2 (vE 3)) (cE (.int 1)))) (zs.map D.str) [a, b, .o (winD w2), c] S = some (.nx, [a, b, .o (winD (tabOf w2 zs)), d], S) := by
    intro zs
    induction zs with
    | nil => intro w2 _ _ _ a b c; exact ⟨c, rfl⟩
    | cons z zs ih =>
      intro w2 hn2 hw2 hz a b c
      have hz1 := hz z List.mem_cons_self
      obtain ⟨i, hi⟩ := Option.isSome_iff_exists.mp hz1
      obtain ⟨d, hd⟩ := ih (bump w2 z) (bump_nd hn2) (by rw [bump_len]; exact hw2) (fun y hy => by
        have := hz y (List.mem_cons_of_mem _ hy)
        unfold hasW at this ⊢
        rw [bump_val]
        cases hv : valW w2 y with
        | none => rw [hv] at this; cases this
        | some j => rfl) a b (.v (.str z))
      refine ⟨d, ?_⟩
      have hp := put_win hn2 hi
      have hp2 : putOD (winD w2) (.str z) (.int (i + 1)) = some (winD (bump w2 z)) := by
        unfold putOD winD
        simp only [keyD, List.length_map]
        rw [if_pos (by omega), hp]
      rw [List.map_cons, forL]
      simp [dputS, subOE, hi, hp2]
      exact hd
  have e : ((fun p : Key × D => kD p.1) ∘ fun p : Str × Int => ((Sum.inr p.1 : Key), D.int p.2)) = fun p => D.str p.1 := rfl
  have h3 : w.length ≤ 1000000 := by omega
  have h1 := fun a b => g1 w a b fun p hp => hp
  obtain ⟨d, h2⟩ := g2 zs w hn hw h (.v (seaT w g)) (.v (strsD zs)) .no
  have hk : keysF (opE ixD (vE 0) (cE (.int 0))) [.v (seaT w g), .v (strsD zs), .no, .no] S = some (w.map fun p => D.str p.1, S) := by
    simp
    simp [winD, e]
  simp [m_law_table, g_law_table, runS]
  simp [winD, e, noOwn, h3, h1, dict_win hn, notTup, strsD]
  simp only [strsD, winD] at h2
  rw [h2]
  simp
/-! ### all outcomes -/
theorem out_snoc {x : Str × Str} {z : Str} (h : inG z x = true) : ∀ {pre : Games} {zs : List Str}, IsOut pre zs → IsOut (pre ++ [x]) (zs ++ [z])
  | _, _, .nil => .cons h .nil
  | _, _, .cons r t => .cons r (out_snoc h t)
theorem out_last {x : Str × Str} : ∀ {pre : Games} {zs : List Str}, IsOut (pre ++ [x]) zs → ∃ y z, zs = y ++ [z] ∧ IsOut pre y ∧ inG z x = true
  | [], _, h => by
    cases h with
    | @cons z _ _ _ r t =>
      cases t
      exact ⟨[], z, rfl, .nil, r⟩
  | p :: pre, _, h => by
    cases h with
    | @cons z _ zs _ r t =>
      obtain ⟨y, u, rfl, h1, h2⟩ := out_last t
      exact ⟨z :: y, u, rfl, .cons r h1, h2⟩
def outs1 (acc : List (List Str)) (x : Str × Str) : List (List Str) := acc.map (· ++ [x.1]) ++ acc.map (· ++ [x.2])
def outsOf (g : Games) : List (List Str) := g.foldl outs1 [[]]
theorem outs_len : ∀ {g : Games} {acc : List (List Str)}, (g.foldl outs1 acc).length = acc.length * 2 ^ g.length
  | [], acc => by simp
  | x :: g, acc => by
    rw [List.foldl_cons, outs_len]
    have : (outs1 acc x).length = acc.length * 2 := by unfold outs1; simp; omega
    rw [this, List.length_cons, Nat.pow_succ, Nat.mul_assoc, Nat.mul_comm 2]
theorem outs_mem : ∀ {g pre : Games} {acc : List (List Str)}, (∀ zs, zs ∈ acc ↔ IsOut pre zs) → ∀ zs, zs ∈ g.foldl outs1 acc ↔ IsOut (pre ++ g) zs
  | [], pre, acc, h, zs => by rw [List.append_nil]; exact h zs
  | x :: g, pre, acc, h, zs => by
    rw [List.foldl_cons, outs_mem (pre := pre ++ [x]) (fun ys => ?_) zs, List.append_assoc]
    · rfl
    · unfold outs1
      rw [List.mem_append, List.mem_map, List.mem_map]
      constructor
      · rintro (⟨y, hy, rfl⟩ | ⟨y, hy, rfl⟩)
        · exact out_snoc (by simp [inG]) ((h y).mp hy)
        · exact out_snoc (by simp [inG]) ((h y).mp hy)
      · intro hp
        obtain ⟨y, z, rfl, hy, hz⟩ : ∃ y z, ys = y ++ [z] ∧ IsOut pre y ∧ inG z x = true := out_last hp
        unfold inG at hz
        rw [Bool.or_eq_true] at hz
        rcases hz with hz | hz
        · have hz : x.1 = z := by simpa using hz
          exact .inl ⟨y, (h y).mpr hy, by rw [hz]⟩
        · have hz : x.2 = z := by simpa using hz
          exact .inr ⟨y, (h y).mpr hy, by rw [hz]⟩
theorem outsOf_mem {g : Games} {zs : List Str} : zs ∈ outsOf g ↔ IsOut g zs := by
  have := outs_mem (g := g) (pre := []) (acc := [[]]) (fun ys => by
    rw [List.mem_singleton]
    constructor
    · rintro rfl; exact .nil
    · intro h; cases h; rfl) zs
  rw [List.nil_append] at this
  exact this
def outsD (os : List (List Str)) : D := .lst (os.map strsD)
@[simp] theorem add_strs {zs : List Str} {o : Str} : addA (strsD zs) (.lst [.str o]) = if zs.length + 1 ≤ 1000000 then some (strsD (zs ++ [o])) else none := by
  simp [addA, orO, addI, addS, strsD, catL]
theorem lc_outs (i : Nat) {S : Sm} {a b : Sl} {o t : Str} (hi : i = 2 ∨ i = 3) : ∀ {acc : List (List Str)}, (∀ zs ∈ acc, zs.length < 1000) → ∀ e, lcL (tgN 4) yesT (opE addA (vE 4) (lstE (consA (vE i) nilA))) (acc.map strsD) [a, b, .v (.str o), .v (.str t), e] S = some (acc.map fun zs => strsD (zs ++ [if i = 2 then o else t]), S)
  | [], _, e => rfl
  | zs :: acc, h, e => by
    have h1 := h zs List.mem_cons_self
    have h2 := lc_outs i (S := S) (a := a) (b := b) (o := o) (t := t) hi (acc := acc) fun z hz => h z (List.mem_cons_of_mem _ hz)
    have h3 : zs.length + 1 ≤ 1000000 := by omega
    rw [List.map_cons, lcL]
    rcases hi with rfl | rfl
    · simp [h2, h3]
    · simp [h2, h3]
theorem q_outcomes {w : Wins} {g : Games} {S : Sm} (hg : g.length ≤ 8) : m_law_outcomes [seaT w g] S = some (outsD (outsOf g), S) := by
  have go : ∀ (g : Games) (acc : List (List Str)), acc.length * 2 ^ g.length ≤ 1000 → (∀ zs ∈ acc, zs.length + g.length ≤ 8) → ∀ (a b c : Sl), ∃ e f h, forL (tgT 2 (tgCons (tgN 2) (tgCons (tgN 3) tgNil))) (setS 1 (opE addA (lcE (itF (vE 1)) (tgN 4) yesT (opE addA (vE 4) (lstE (consA (vE 2) nilA))) [4]) (lcE (itF (vE 1)) (tgN 4) yesT (opE addA (vE 4) (lstE (consA (vE 3) nilA))) [4]))) (g.map gameD) [a, .v (outsD acc), b, c, .no] S = some (.nx, [a, .v (outsD (g.foldl outs1 acc)), e, f, h], S) := by
    intro g
    induction g with
    | nil => intro acc _ _ a b c; exact ⟨b, c, .no, rfl⟩
    | cons x g ih =>
      intro acc h1 h2 a b c
      rw [List.length_cons, Nat.pow_succ] at h1
      have hp : 0 < 2 ^ g.length := Nat.pow_pos (by omega)
      have h3 : acc.length * 2 ≤ 1000 := by
        have h9 : acc.length * 2 ≤ acc.length * (2 ^ g.length * 2) := Nat.mul_le_mul_left _ (by omega)
        exact Nat.le_trans h9 h1
      have hl : (outs1 acc x).length = acc.length * 2 := by unfold outs1; simp; omega
      obtain ⟨e, f, h, hh⟩ := ih (outs1 acc x) (by rw [hl, Nat.mul_assoc, Nat.mul_comm 2]; exact h1) (fun zs hz => by
        unfold outs1 at hz
        rw [List.mem_append, List.mem_map, List.mem_map] at hz
        rcases hz with ⟨y, hy, rfl⟩ | ⟨y, hy, rfl⟩
        · have := h2 y hy; simp at this ⊢; omega
        · have := h2 y hy; simp at this ⊢; omega) a (.v (.str x.1)) (.v (.str x.2))
      have hs : ∀ zs ∈ acc, zs.length < 1000 := fun zs hz => by have := h2 zs hz; omega
      have l1 := fun b e => lc_outs 2 (S := S) (a := a) (b := b) (o := x.1) (t := x.2) (.inl rfl) hs e
      have l2 := fun b e => lc_outs 3 (S := S) (a := a) (b := b) (o := x.1) (t := x.2) (.inr rfl) hs e
      refine ⟨e, f, h, ?_⟩
      have h5 : acc.length ≤ 1000000 := by omega
      have h6 : acc.length + acc.length ≤ 1000000 := by omega
      have h7 : outsD (outs1 acc x) = .lst ((acc.map fun zs => strsD (zs ++ [x.1])) ++ (acc.map fun zs => strsD (zs ++ [x.2]))) := by
        unfold outsD outs1
        simp [Function.comp_def]
      have h8 : addA (D.lst (acc.map fun zs => strsD (zs ++ [x.1]))) (D.lst (acc.map fun zs => strsD (zs ++ [x.2]))) = some (outsD (outs1 acc x)) := by
        rw [h7]
        simp [addA, orO, addI, addS, catL, h6]
      rw [List.map_cons, forL]
      simp [gameD, outsD, noOwn, h5, l1, l2, h8]
      exact hh
  obtain ⟨e, f, h, go⟩ := go g [[]] (by
    have : 2 ^ g.length ≤ 2 ^ 8 := Nat.pow_le_pow_right (by omega) hg
    simp; omega) (fun zs hz => by simp at hz; subst hz; simpa using hg) (.v (seaT w g)) .no .no
  have e0 : (D.lst [D.lst []]) = outsD [[]] := rfl
  simp [m_law_outcomes, g_law_outcomes, runS]
  rw [e0]
  simp only [gamesD]
  rw [go]
  simp
  rfl
end M


set_option Elab.async false
set_option linter.all false
set_option maxRecDepth 100000
set_option maxHeartbeats 4000000
namespace M
open PySem L2

theorem minZ_spec : ∀ (zs : List Int) (z : Int), minZ z zs ∈ z :: zs ∧ ∀ y ∈ z :: zs, minZ z zs ≤ y
  | [], z => ⟨List.mem_cons_self, fun y hy => by rw [List.mem_singleton] at hy; subst hy; exact Int.le_refl _⟩
  | y :: zs, z => by
    have ih := minZ_spec zs (if y < z then y else z)
    have e : minZ z (y :: zs) = minZ (if y < z then y else z) zs := rfl
    rw [e]
    refine ⟨?_, fun u hu => ?_⟩
    · rcases List.mem_cons.mp ih.1 with h | h
      · rw [h]
        split
        · exact List.mem_cons_of_mem _ List.mem_cons_self
        · exact List.mem_cons_self
      · exact List.mem_cons_of_mem _ (List.mem_cons_of_mem _ h)
    · have h1 := ih.2 _ List.mem_cons_self
      by_cases c : y < z
      · rw [if_pos c] at h1 ih ⊢
        rcases List.mem_cons.mp hu with rfl | hu
        · omega
        · rcases List.mem_cons.mp hu with rfl | hu
          · omega
          · exact ih.2 u (List.mem_cons_of_mem _ hu)
      · rw [if_neg c] at h1 ih ⊢
        rcases List.mem_cons.mp hu with rfl | hu
        · omega
        · rcases List.mem_cons.mp hu with rfl | hu
          · omega
          · exact ih.2 u (List.mem_cons_of_mem _ hu)
theorem ints_map (l : List Int) : ints? (l.map D.int) = some l := by
  induction l with
  | nil => rfl
  | cons b l ih => rw [List.map_cons, ints?, ih]; rfl
theorem best_min {l : List Int} {m : Int} (h1 : m ∈ l) (h2 : ∀ y ∈ l, m ≤ y) : bestN minZ minS [.lst (l.map D.int)] = some (.int m) := by
  cases l with
  | nil => cases h1
  | cons z zs =>
    have h3 := minZ_spec zs z
    have h4 : minZ z zs = m := by
      have := h3.2 m h1
      have := h2 _ h3.1
      omega
    unfold bestN seqD
    simp only [ints_map]
    rw [h4]
/-! ### counts of outcomes -/
theorem out_count {t : Str} : ∀ {g : Games} {zs : List Str}, IsOut g zs → zs.count t ≤ left t g
  | _, _, .nil => by simp
  | _, _, @Paired.cons _ _ _ z x zs g r h => by
    have ih := out_count (t := t) h
    unfold left at ih ⊢
    rw [List.count_cons]
    by_cases e : z = t
    · subst e
      rw [List.filter_cons_of_pos r]
      simp
      exact ih
    · have : (z == t) = false := by simpa using e
      rw [this]
      by_cases h2 : inG t x = true
      · rw [List.filter_cons_of_pos h2, List.length_cons]
        simp
        omega
      · rw [List.filter_cons_of_neg h2]
        simpa using ih
def Apart (g : Games) : Prop := ∀ x ∈ g, x.1 ≠ x.2
theorem won_out {o t : Str} : ∀ {g : Games}, IsOut g (g.map (wonBy o t))
  | [] => .nil
  | x :: g => by
    refine .cons ?_ won_out
    unfold wonBy
    split
    · assumption
    · split
      · split <;> simp [inG]
      · simp [inG]
theorem won_o {o t : Str} (hne : o ≠ t) : ∀ {g : Games}, Apart g → (g.map (wonBy o t)).count o = left o g
  | [], _ => rfl
  | x :: g, h => by
    have ih := won_o hne (g := g) fun y hy => h y (List.mem_cons_of_mem _ hy)
    have hx := h x List.mem_cons_self
    unfold left at ih ⊢
    rw [List.map_cons, List.count_cons, ih]
    by_cases h2 : inG o x = true
    · rw [List.filter_cons_of_pos h2]
      simp [wonBy, h2]
    · rw [List.filter_cons_of_neg h2]
      have : ¬ wonBy o t x = o := by
        unfold wonBy
        rw [if_neg h2]
        simp [inG] at h2
        split
        · split
          · exact h2.2
          · exact h2.1
        · exact h2.1
      simp [this]
theorem won_t {o t : Str} (hne : o ≠ t) : ∀ {g : Games}, Apart g → (g.map (wonBy o t)).count t = 0
  | [], _ => rfl
  | x :: g, h => by
    have ih := won_t hne (g := g) fun y hy => h y (List.mem_cons_of_mem _ hy)
    have hx := h x List.mem_cons_self
    rw [List.map_cons, List.count_cons, ih]
    have : ¬ wonBy o t x = t := by
      unfold wonBy
      split
      · exact hne
      · split
        · split
          · rename_i e; rw [e]; exact fun h => hx h.symm
          · rename_i e; exact fun h => e h.symm
        · rename_i h3; simp [inG] at h3; exact h3.1
    simp [this]
/-! ### the least lead -/
structure Wf (w : Wins) (g : Games) : Prop where
  nd : NdW w
  lw : w.length ≤ 20
  lg : g.length ≤ 120
  ap : Apart g
  tm : ∀ x ∈ g, hasW w x.1 = true ∧ hasW w x.2 = true
theorem Wf.mem {w : Wins} {g : Games} (f : Wf w g) {zs : List Str} (h : IsOut g zs) : ∀ z ∈ zs, hasW w z = true := by
  have : ∀ {g : Games} {zs : List Str}, IsOut g zs → (∀ x ∈ g, hasW w x.1 = true ∧ hasW w x.2 = true) → ∀ z ∈ zs, hasW w z = true := by
    intro g zs h
    induction h with
    | nil => intro _ z hz; cases hz
    | @cons z x zs g r _ ih =>
      intro hg y hy
      rcases List.mem_cons.mp hy with rfl | hy
      · have := hg x List.mem_cons_self
        unfold inG at r
        rw [Bool.or_eq_true] at r
        rcases r with r | r
        · have r : x.1 = y := by simpa using r
          rw [← r]; exact this.1
        · have r : x.2 = y := by simpa using r
          rw [← r]; exact this.2
      · exact ih (fun x hx => hg x (List.mem_cons_of_mem _ hx)) y hy
  exact this h f.tm
end M


set_option Elab.async false
set_option linter.all false
set_option maxRecDepth 100000
set_option maxHeartbeats 4000000
namespace M
open PySem L2

@[simp] theorem strs_map (l : List Str) : strs? (l.map D.str) = some l := by
  induction l with
  | nil => rfl
  | cons b l ih => rw [List.map_cons, strs?, ih]; rfl
theorem is_tuple_tup {l : List D} : isB ["tuple"] (.tup l) = some (.bl true) := by simp [is_tup, tyB]
theorem is_list_strs {l : List Str} : isB ["list"] (strsD l) = some (.bl true) := by simp [strsD, is_lst, tyB]
theorem nin_win {t : Str} {w : Wins} : (orO (notO inSq) (orO (notO inStr) (notO inDD))) (.str t) (winD w) = some (.bl (!hasW w t)) := by
  have := in_win (t := t) (w := w)
  simp [orO, inSq, inStr, winD, notO] at this ⊢
  simp [this]
end M


set_option Elab.async false
set_option linter.all false
set_option maxRecDepth 100000
set_option maxHeartbeats 4000000
namespace M
open PySem L2

/-! ### drawing -/
def sz (i : Int) : Nat := if i = 0 then 0 else i.natAbs.log2 + 1
def pot (S : Sm) : Nat := sz S.cur + (S.cells.map sz).sum
structure Good (n : Nat) (S : Sm) : Prop where
  cur0 : 0 ≤ S.cur
  mix0 : 0 ≤ S.mix
  mix1 : S.mix < 2147483629
  cnt0 : 0 ≤ S.cnt
  cnt1 : S.cnt + n ≤ 2 ^ 900
  pot1 : pot S ≤ 2 ^ 27
theorem Good.mono {n m : Nat} {S : Sm} (h : Good n S) (hm : m ≤ n) : Good m S := ⟨h.cur0, h.mix0, h.mix1, h.cnt0, by have := h.cnt1; omega, h.pot1⟩
def dry (S : Sm) : Prop := S.cells = [] ∧ S.cur = 0
@[simp] theorem x_st {i : Nat} {k : Int} {E : Ev} {S : Sm} : stE i k E S = if isStrm E i = true then (stGet S k).map fun n => (.int n, S) else none := rfl
@[simp] theorem x_stS {i : Nat} {k : Int} {f : FE} {E : Ev} {S : Sm} : stS i k f E S = match f E S with
  | some (.int v, S1) => if isStrm E i = true then (stPut S1 v k).map fun S2 => (.nx, E, S2) else none
  | _ => none := rfl
@[simp] theorem x_pop {i : Nat} {E : Ev} {S : Sm} : popE i E S = if isStrm E i = true then match S.cells with
    | c :: r => some (.int c, { S with cells := r })
    | [] => none
  else none := rfl
@[simp] theorem x_neNil {i : Nat} {E : Ev} {S : Sm} : neNilE i E S = if isStrm E i = true then some (.bl (decide (S.cells ≠ [])), S) else none := rfl
@[simp] theorem st0 {E : Ev} : isStrm (.v .strm :: E) 0 = true := rfl
@[simp] theorem get1 {S : Sm} : stGet S 1 = some S.cur := rfl
@[simp] theorem get2 {S : Sm} : stGet S 2 = some S.cnt := rfl
@[simp] theorem get3 {S : Sm} : stGet S 3 = some S.mix := rfl
@[simp] theorem put1 {S : Sm} {v : Int} : stPut S v 1 = some { S with cur := v } := rfl
@[simp] theorem put2 {S : Sm} {v : Int} : stPut S v 2 = some { S with cnt := v } := rfl
@[simp] theorem put3 {S : Sm} {v : Int} : stPut S v 3 = some { S with mix := v } := rfl
@[simp] theorem int_int {i : Int} : intN [.int i] = some (.int i) := rfl
@[simp] theorem int_bl {b : Bool} : intN [.bl b] = some (.int (if b then 1 else 0)) := rfl
@[simp] theorem abs_int {i : Int} : absN [.int i] = some (.int (if i < 0 then -i else i)) := rfl
theorem mul_int {i j : Int} (h : i.natAbs < 2 ^ 63 ∨ j.natAbs < 2 ^ 63) : mulA (.int i) (.int j) = some (.int (i * j)) := by
  simp only [mulA, orO, mulI, if_pos h]
theorem mod_int {i j : Int} (h : 0 < j) : modI (.int i) (.int j) = some (.int (i % j)) := by simp only [modI, if_pos h]
theorem div_int {i j : Int} (h : 0 < j) (h2 : j < 1073741824) : divI (.int i) (.int j) = some (.int (i / j)) := by simp only [divI, if_pos (And.intro h h2)]
theorem pow_int {i : Int} {j : Nat} (h : j ≤ 100) (h2 : i.natAbs < 2 ^ 1000) : powI (.int i) (.int (j : Int)) = some (.int (i ^ j)) := by
  simp only [powI]
  rw [if_pos ⟨by omega, by omega, h2⟩]
  rfl
theorem lt1000 {n : Nat} (h : n < 2 ^ 64) : n < 2 ^ 1000 := Nat.lt_of_lt_of_le h (Nat.pow_le_pow_right (by decide) (by decide))
theorem sz_le {a b : Int} (h : a.natAbs ≤ b.natAbs) : sz a ≤ sz b := by
  unfold sz
  by_cases h1 : a = 0
  · simp [h1]
  · have h2 : b ≠ 0 := by omega
    rw [if_neg h1, if_neg h2]
    have : a.natAbs.log2 ≤ b.natAbs.log2 := by
      rw [Nat.le_log2 (by omega)]
      exact Nat.le_trans (Nat.log2_self_le (by omega)) h
    omega
theorem sz_half {a b : Int} (hb : 0 < b.natAbs) (h : 2 * a.natAbs ≤ b.natAbs) : sz a < sz b := by
  unfold sz
  have h2 : b ≠ 0 := by omega
  rw [if_neg h2]
  by_cases h1 : a = 0
  · simp [h1]
  · rw [if_neg h1]
    have : a.natAbs.log2 + 1 ≤ b.natAbs.log2 := by
      rw [Nat.le_log2 (by omega), Nat.pow_succ]
      have := Nat.log2_self_le (show a.natAbs ≠ 0 by omega)
      omega
    omega
def fetchC : FT := andT (bT (opE eqA (stE 0 1) (cE (.int 0)))) (bT (neNilE 0))
def fetchB : FS := seqS (setS 2 (callE absN (consA (popE 0) nilA))) (seqS (stS 0 3 (opE modI (callE intN (consA (opE addA (opE addA (opE mulA (stE 0 3) (cE (.int 6151))) (vE 2)) (cE (.int 7))) nilA)) (cE (.int 2147483629)))) (stS 0 1 (ifE (bT (opE geI (vE 2) (opE powI (cE (.int 10)) (cE (.int 18))))) (vE 2) (cE (.int 0)))))
theorem fetch_ok {m : D} {y z : Sl} : ∀ (cells : List Int) (S : Sm) (x : Sl), S.cells = cells → 0 ≤ S.cur → 0 ≤ S.mix → S.mix < 2147483629 → ∃ n x' S', whN fetchC fetchB n [.v .strm, .v m, x, y, z] S = some (.nx, [.v .strm, .v m, x', y, z], S') ∧ S'.cnt = S.cnt ∧ 0 ≤ S'.cur ∧ 0 ≤ S'.mix ∧ S'.mix < 2147483629 ∧ pot S' ≤ pot S ∧ (S'.cur = 0 → S'.cells = []) ∧ ((dry S ∨ S.cur > 0) → S' = S) := by
  intro cells
  induction cells with
  | nil =>
    intro S x hc h0 h1 h2
    refine ⟨1, x, S, ?_, rfl, h0, h1, h2, Nat.le_refl _, fun _ => hc, fun _ => rfl⟩
    unfold whN
    by_cases c0 : S.cur = 0
    · simp [fetchC, c0, hc]
    · simp [fetchC, c0]
  | cons c r ih =>
    intro S x hc h0 h1 h2
    by_cases c0 : S.cur = 0
    · have hp : powI (.int 10) (.int 18) = some (.int 1000000000000000000) := pow_int (j := 18) (by decide) (lt1000 (by decide))
      have hm : mulA (.int S.mix) (.int 6151) = some (.int (S.mix * 6151)) := mul_int (.inr (by decide))
      have hmod : ∀ i, modI (.int i) (.int 2147483629) = some (.int (i % 2147483629)) := fun i => mod_int (by decide)
      have hmx0 : ∀ i : Int, 0 ≤ i % 2147483629 := fun i => Int.emod_nonneg _ (by decide)
      have hmx1 : ∀ i : Int, i % 2147483629 < 2147483629 := fun i => Int.emod_lt_of_pos _ (by decide)
      obtain ⟨cc, cu, cn, mx⟩ := S
      simp only at hc c0 h0 h1 h2 hm
      subst hc
      subst c0
      have ab : sz (if c < 0 then -c else c) ≤ sz c := sz_le (by split <;> omega)
      have ab0 : 0 ≤ (if c < 0 then -c else c) := by split <;> omega
      generalize hA : (if c < 0 then -c else c) = A at ab ab0
      by_cases big : 1000000000000000000 ≤ A
      · have hA0 : A ≠ 0 := by omega
        obtain ⟨n, x', S', e, f1, f2, f3, f4, f5, f6, f7⟩ := ih ⟨r, A, cn, (mx * 6151 + A + 7) % 2147483629⟩ (.v (.int A)) rfl ab0 (hmx0 _) (hmx1 _)
        refine ⟨n + 1, x', S', ?_, f1, f2, f3, f4, ?_, f6, ?_⟩
        · unfold whN
          rw [← e]
          simp [fetchC, fetchB, hA, hm, hmod, hp, big]
        · refine Nat.le_trans f5 ?_
          have z0 : sz 0 = 0 := rfl
          simp only [pot, List.map_cons, List.sum_cons]
          omega
        · rintro (h | h)
          · cases h.1
          · simp at h
      · obtain ⟨n, x', S', e, f1, f2, f3, f4, f5, f6, f7⟩ := ih ⟨r, 0, cn, (mx * 6151 + A + 7) % 2147483629⟩ (.v (.int A)) rfl (Int.le_refl _) (hmx0 _) (hmx1 _)
        refine ⟨n + 1, x', S', ?_, f1, f2, f3, f4, ?_, f6, ?_⟩
        · unfold whN
          rw [← e]
          simp [fetchC, fetchB, hA, hm, hmod, hp, big]
        · refine Nat.le_trans f5 ?_
          simp [pot]
        · rintro (h | h)
          · cases h.1
          · simp at h
    · refine ⟨1, x, S, ?_, rfl, h0, h1, h2, Nat.le_refl _, fun h => absurd h c0, fun _ => rfl⟩
      unfold whN
      simp [fetchC, c0]
/-- the letter's number, where all is used up -/
def mixA (m c : Int) : Int := (m + 8191 * c + 50021) ^ 5 % 2147483587
def mixB (a c : Int) : Int := (a * 40009 + 20011 * c + 31) ^ 3 % 1000000009
theorem q_draw {n : Nat} {S : Sm} {m : Int} (h : Good (n + 1) S) (hm : 0 < m) (hm2 : m < 1000000) : ∃ k S', m_law_draw [.strm, .int m] S = some (.int k, S') ∧ 0 ≤ k ∧ k < m ∧ Good n S' ∧ pot S' ≤ pot S ∧ (dry S → S' = { S with cnt := S.cnt + 1 } ∧ k = mixB (mixA S.mix (S.cnt + 1)) (S.cnt + 1) % m) ∧ (2 ≤ m → dry S' ∨ pot S' < pot S) := by
  have hc0 := h.cnt0
  have hc1 := h.cnt1
  have hpt := h.pot1
  obtain ⟨nn, x', S1, e1, f1, f2, f3, f4, f5, f6, f7⟩ := fetch_ok (m := .int m) (y := .no) (z := .no) S.cells { S with cnt := S.cnt + 1 } .no rfl h.cur0 h.mix0 h.mix1
  have e2 := whS_at e1
  have f5 : pot S1 ≤ pot S := f5
  unfold fetchC fetchB at e2
  by_cases c0 : 0 < S1.cur
  · have d1 : divI (.int S1.cur) (.int m) = some (.int (S1.cur / m)) := div_int hm (by omega)
    have d2 : modI (.int S1.cur) (.int m) = some (.int (S1.cur % m)) := mod_int hm
    have hle : (S1.cur / m).natAbs ≤ S1.cur.natAbs := by
      have h0 := Int.ediv_nonneg f2 (Int.le_of_lt hm)
      have := Int.ediv_le_self m f2
      omega
    have hs := sz_le hle
    have hp : pot { S1 with cur := S1.cur / m } ≤ pot S1 := by
      simp only [pot]
      omega
    refine ⟨S1.cur % m, { S1 with cur := S1.cur / m }, ?_, Int.emod_nonneg _ (by omega), Int.emod_lt_of_pos _ hm, ⟨Int.ediv_nonneg f2 (Int.le_of_lt hm), f3, f4, by rw [f1]; show 0 ≤ S.cnt + 1; omega, by show S1.cnt + n ≤ _; rw [f1]; show S.cnt + 1 + n ≤ _; omega, Nat.le_trans hp (Nat.le_trans f5 hpt)⟩, Nat.le_trans hp f5, fun hd => ?_, fun h2 => ?_⟩
    · simp [m_law_draw, g_law_draw, runS, e2, c0, d1, d2]
    · have := f7 (.inl hd)
      rw [this] at c0
      have := hd.2
      simp [this] at c0
    · right
      refine Nat.lt_of_lt_of_le ?_ f5
      have h0 := Int.ediv_nonneg f2 (Int.le_of_lt hm)
      have hh : 2 * (S1.cur / m) ≤ S1.cur := by
        have h1 : m * (S1.cur / m) ≤ S1.cur := Int.mul_ediv_self_le (by omega)
        have h3 : 2 * (S1.cur / m) ≤ m * (S1.cur / m) := Int.mul_le_mul_of_nonneg_right h2 h0
        omega
      have := sz_half (a := S1.cur / m) (b := S1.cur) (by omega) (by omega)
      simp only [pot]
      omega
  · have c1 : S1.cur = 0 := by omega
    have c2 := f6 c1
    have m1 : mulA (.int 8191) (.int S1.cnt) = some (.int (8191 * S1.cnt)) := mul_int (.inl (by decide))
    have m2 : mulA (.int 20011) (.int S1.cnt) = some (.int (20011 * S1.cnt)) := mul_int (.inl (by decide))
    have hk : S1.cnt = S.cnt + 1 := f1
    have hb : (0 : Int) ≤ S1.mix + 8191 * S1.cnt + 50021 := by omega
    have big : (2 : Nat) ^ 900 * 2 ^ 20 < 2 ^ 1000 := by rw [← Nat.pow_add]; exact Nat.pow_lt_pow_right (by decide) (by decide)
    have big2 : (2 : Int) ^ 900 = ((2 ^ 900 : Nat) : Int) := by norm_cast
    rw [big2] at hc1
    generalize hB : (2 : Nat) ^ 900 = B at hc1 big
    have hB2 : 2 ^ 64 ≤ B := by rw [← hB]; exact Nat.pow_le_pow_right (by decide) (by decide)
    have p1 : powI (.int (S1.mix + 8191 * S1.cnt + 50021)) (.int 5) = some (.int ((S1.mix + 8191 * S1.cnt + 50021) ^ 5)) := pow_int (j := 5) (by decide) (Nat.lt_of_le_of_lt (by omega) big)
    have q1 : modI (.int ((S1.mix + 8191 * S1.cnt + 50021) ^ 5)) (.int 2147483587) = some (.int (mixA S1.mix S1.cnt)) := mod_int (by decide)
    have a0 : 0 ≤ mixA S1.mix S1.cnt := Int.emod_nonneg _ (by decide)
    have a1 : mixA S1.mix S1.cnt < 2147483587 := Int.emod_lt_of_pos _ (by decide)
    have m3 : mulA (.int (mixA S1.mix S1.cnt)) (.int 40009) = some (.int (mixA S1.mix S1.cnt * 40009)) := mul_int (.inr (by decide))
    have p2 : powI (.int (mixA S1.mix S1.cnt * 40009 + 20011 * S1.cnt + 31)) (.int 3) = some (.int ((mixA S1.mix S1.cnt * 40009 + 20011 * S1.cnt + 31) ^ 3)) := pow_int (j := 3) (by decide) (Nat.lt_of_le_of_lt (by omega) big)
    have q2 : modI (.int ((mixA S1.mix S1.cnt * 40009 + 20011 * S1.cnt + 31) ^ 3)) (.int 1000000009) = some (.int (mixB (mixA S1.mix S1.cnt) S1.cnt)) := mod_int (by decide)
    have q3 : modI (.int (mixB (mixA S1.mix S1.cnt) S1.cnt)) (.int m) = some (.int (mixB (mixA S1.mix S1.cnt) S1.cnt % m)) := mod_int hm
    refine ⟨mixB (mixA S1.mix S1.cnt) S1.cnt % m, S1, ?_, Int.emod_nonneg _ (by omega), Int.emod_lt_of_pos _ hm, ⟨f2, f3, f4, by omega, by rw [big2, hB]; omega, Nat.le_trans f5 hpt⟩, f5, fun hd => ?_, fun _ => .inl ⟨c2, c1⟩⟩
    · simp [m_law_draw, g_law_draw, runS, e2, c1, m1, m2, p1, q1, m3, p2, q2, q3]
    · have := f7 (.inl hd)
      subst this
      exact ⟨rfl, rfl⟩
end M


set_option Elab.async false
set_option linter.all false
set_option maxRecDepth 100000
set_option maxHeartbeats 4000000
namespace M
open PySem L2

@[simp] theorem x_lenO {i : Nat} {E : Ev} {S : Sm} : lenOE i E S = match E[i]? with
  | some (.o (.lst ds)) => some (.int ds.length, S)
  | _ => none := rfl
theorem q_pick {n : Nat} {S : Sm} {xs : List D} (h : Good (n + 1) S) (h0 : xs ≠ []) (h1 : xs.length < 1000000) : ∃ x S', m_law_pick [.strm, .lst xs] S = some (x, S') ∧ x ∈ xs ∧ Good n S' := by
  have hp : 0 < xs.length := List.length_pos_iff.mpr h0
  obtain ⟨k, S', e, k0, k1, g, _⟩ := q_draw (m := xs.length) h (by omega) (by omega)
  obtain ⟨j, rfl⟩ : ∃ j : Nat, k = j := ⟨k.toNat, by omega⟩
  have hj : j < xs.length := by omega
  refine ⟨xs[j], S', ?_, List.getElem_mem hj, g⟩
  have hi : orO ixD getD (.lst xs) (.int j) = some xs[j] := by
    simp [orO, ixD, getD, atI_nat, hj]
  simp [m_law_pick, g_law_pick, runS, e, hi]
theorem run_rt {g : FS} {k : Nat} {ds : List D} {S S' : Sm} {d : D} {E' : Ev} (h : g (ds.map .v ++ List.replicate (k - ds.length) .no) S = some (.rt d, E', S')) : runS k g ds S = some (d, S') := by
  unfold runS
  rw [h]
theorem run_nx {g : FS} {k : Nat} {ds : List D} {S S' : Sm} {E' : Ev} (h : g (ds.map .v ++ List.replicate (k - ds.length) .no) S = some (.nx, E', S')) : runS k g ds S = some (.non, S') := by
  unfold runS
  rw [h]
theorem appPop_step {a : D} {b : Sl} {ls fs : List D} {j : Nat} {S S1 : Sm} (e : m_law_draw [.strm, .int (ls.length : Nat)] S = some (.int (j : Nat), S1)) (hj : j < ls.length) (c1 : fs.length < 1000000) (c2 : (j : Int) < 1000000) : appPopS 3 2 (mE m_law_draw 2 (consA (vE 0) (consA (lenOE 2) nilA))) [.v .strm, .v a, .o (.lst ls), .o (.lst fs), b] S = some (.nx, [.v .strm, .v a, .o (.lst (ls.eraseIdx j)), .o (.lst (fs ++ [ls[j]])), b], S1) := by
  have e1 : (mE m_law_draw 2 (consA (vE 0) (consA (lenOE 2) nilA))) [.v .strm, .v a, .o (.lst ls), .o (.lst fs), b] S = some (.int (j : Nat), S1) := by simp [e]
  have e2 : ls[((j : Nat) : Int).toNat]? = some ls[j] := by simp [hj]
  unfold appPopS
  simp only [List.getElem?_cons_succ, List.getElem?_cons_zero, e1]
  rw [if_pos ⟨by omega, c1, c2⟩, e2]
  rfl
theorem erase_perm {α : Type} : ∀ {l : List α} {j : Nat} (h : j < l.length), (l[j] :: l.eraseIdx j).Perm l
  | x :: l, 0, _ => List.Perm.refl _
  | x :: l, j + 1, h => by
    have ih := erase_perm (l := l) (j := j) (by simpa using h)
    exact (List.Perm.swap x _ _).trans (List.Perm.cons x ih)
theorem mixed_go {n : Nat} : ∀ (items : List D) (ls fs : List D) (a : D) (b : Sl) (S : Sm), items.length = ls.length → fs.length + ls.length < 1000000 → Good (n + ls.length) S → ∃ b' fs' S', forL (tgN 4) (appPopS 3 2 (mE m_law_draw 2 (consA (vE 0) (consA (lenOE 2) nilA)))) items [.v .strm, .v a, .o (.lst ls), .o (.lst fs), b] S = some (.nx, [.v .strm, .v a, .o (.lst []), .o (.lst fs'), b'], S') ∧ fs'.Perm (fs ++ ls) ∧ Good n S' := by
  intro items
  induction items with
  | nil =>
    intro ls fs a b S hl _ g
    have : ls = [] := List.length_eq_zero_iff.mp hl.symm
    subst this
    exact ⟨b, fs, S, rfl, by simp, g⟩
  | cons d items ih =>
    intro ls fs a b S hl hb g
    rw [List.length_cons] at hl
    have g : Good (n + (ls.length - 1) + 1) S := g.mono (by omega)
    obtain ⟨k, S1, e, k0, k1, g1, _⟩ := q_draw (m := ls.length) g (by omega) (by omega)
    obtain ⟨j, rfl⟩ : ∃ j : Nat, k = j := ⟨k.toNat, by omega⟩
    have hj : j < ls.length := by omega
    have he : (ls.eraseIdx j).length = ls.length - 1 := List.length_eraseIdx_of_lt hj
    obtain ⟨b', fs', S', f, p, g2⟩ := ih (ls.eraseIdx j) (fs ++ [ls[j]]) a (.v d) S1 (by omega) (by rw [List.length_append, he, List.length_singleton]; omega) (by rw [he]; exact g1)
    refine ⟨b', fs', S', ?_, p.trans ?_, g2⟩
    · have ht : tgN 4 d [.v .strm, .v a, .o (.lst ls), .o (.lst fs), b] = some [.v .strm, .v a, .o (.lst ls), .o (.lst fs), .v d] := rfl
      have hs := appPop_step (a := a) (b := .v d) (fs := fs) e hj (by omega) (by omega)
      rw [forL, ← f]
      simp only [ht]
      rw [hs]
    · rw [List.append_assoc]
      exact List.Perm.append_left _ (erase_perm hj)
theorem paroo_list (xs : List D) (S : Sm) : parooS 2 3 (callE listA (consA (vE 1) nilA)) (lstE nilA) [.v .strm, .v (.lst xs), .no, .no, .no] S = some (.nx, [.v .strm, .v (.lst xs), .o (.lst xs), .o (.lst []), .no], S) := by
  simp [parooS, parG, listA, orN, listN, notTup]
theorem rng_len {n : Int} (h0 : 0 ≤ n) (h : n < 1000000) {f : FE} {E : Ev} {S S' : Sm} (e : f E S = some (.int n, S')) : rng1F (consA f nilA) E S = some (rngD 0 n.toNat, S') := by
  have c3 : n < 2 ^ 60 := Int.lt_trans h (by decide)
  have c4 : -(2 ^ 60) ≤ n := Int.le_trans (by decide) h0
  simp only [x_rng1, x_cons, e, x_nil]
  rw [if_pos (And.intro c4 c3)]
theorem mixed_a {xs : List D} {S : Sm} (h1 : xs.length < 1000000) : rng1F (consA (lenOE 2) nilA) [.v .strm, .v (.lst xs), .o (.lst xs), .o (.lst []), .no] S = some (rngD 0 xs.length, S) := by
  have hl : lenOE 2 [.v .strm, .v (.lst xs), .o (.lst xs), .o (.lst []), .no] S = some (.int xs.length, S) := rfl
  have hr := rng_len (Int.natCast_nonneg _) (by omega) hl
  rw [Int.toNat_natCast] at hr
  exact hr
theorem mixed_b {n : Nat} {S : Sm} {xs : List D} (h : Good (n + xs.length) S) (h1 : xs.length < 1000000) : ∃ b' fs' S', forL (tgN 4) (appPopS 3 2 (mE m_law_draw 2 (consA (vE 0) (consA (lenOE 2) nilA)))) (rngD 0 xs.length) [.v .strm, .v (.lst xs), .o (.lst xs), .o (.lst []), .no] S = some (.nx, [.v .strm, .v (.lst xs), .o (.lst []), .o (.lst fs'), b'], S') ∧ fs'.Perm xs ∧ Good n S' := by
  have hl : (rngD 0 xs.length).length = xs.length := by unfold rngD; rw [List.length_map, List.length_range]
  have := mixed_go (rngD 0 xs.length) xs [] (.lst xs) .no S hl (by rw [List.length_nil, Nat.zero_add]; exact h1) h
  rw [List.nil_append] at this
  exact this
theorem mixed_c {n : Nat} {S S' : Sm} {xs fs' : List D} {b' : Sl} (h1 : xs.length < 1000000) (f : forL (tgN 4) (appPopS 3 2 (mE m_law_draw 2 (consA (vE 0) (consA (lenOE 2) nilA)))) (rngD 0 xs.length) [.v .strm, .v (.lst xs), .o (.lst xs), .o (.lst []), .no] S = some (.nx, [.v .strm, .v (.lst xs), .o (.lst []), .o (.lst fs'), b'], S')) : g_law_mixed [.v .strm, .v (.lst xs), .no, .no, .no] S = some (.rt (.lst fs'), [.v .strm, .v (.lst xs), .o (.lst []), .v (.lst fs'), b'], S') := by
  unfold g_law_mixed
  rw [x_seq, paroo_list xs S]
  simp only []
  rw [x_seq, x_for, mixed_a h1]
  simp only []
  rw [f]
  rfl
theorem q_mixed {n : Nat} {S : Sm} {xs : List D} (h : Good (n + xs.length) S) (h1 : xs.length < 1000000) : ∃ ys S', m_law_mixed [.strm, .lst xs] S = some (.lst ys, S') ∧ ys.Perm xs ∧ Good n S' := by
  obtain ⟨b', fs', S', f, p, g⟩ := mixed_b h h1
  refine ⟨fs', S', ?_, p, g⟩
  have hs := mixed_c (n := n) h1 f
  exact run_rt hs
end M


set_option Elab.async false
set_option linter.all false
set_option maxRecDepth 100000
set_option maxHeartbeats 4000000
namespace M
open PySem L2

theorem lc_run {i c : Nat} {E : Ev} {fe : FE} {R : D → D → Prop} (hi : i < E.length) : ∀ {items : List D}, (∀ d ∈ items, ∀ (m : Nat) (S : Sm), Good (m + c) S → ∃ y S', fe (E.set i (.v d)) S = some (y, S') ∧ R d y ∧ Good m S') → ∀ (m : Nat) (S : Sm) (x : Sl), Good (m + c * items.length) S → ∃ ys S', lcL (tgN i) yesT fe items (E.set i x) S = some (ys, S') ∧ Paired R items ys ∧ Good m S'
  | [], _, m, S, x, g => ⟨[], S, rfl, .nil, g⟩
  | d :: r, h, m, S, x, g => by
    rw [List.length_cons, Nat.mul_add, Nat.mul_one] at g
    obtain ⟨y, S1, e1, r1, g1⟩ := h d List.mem_cons_self (m + c * r.length) S (by rw [Nat.add_assoc]; exact g)
    obtain ⟨ys, S2, e2, r2, g2⟩ := lc_run (i := i) (c := c) (E := E) (fe := fe) (R := R) hi (items := r) (fun d hd => h d (List.mem_cons_of_mem _ hd)) m S1 x g1
    refine ⟨y :: ys, S2, ?_, .cons r1 r2, g2⟩
    have ht : tgN i d (E.set i x) = some (E.set i (.v d)) := by
      rw [x_tgN, if_pos (by rw [List.length_set]; exact hi), List.set_set]
    rw [lcL, ht]
    simp only [x_yes, e1, e2]
def sq (d : D) (xs : List D) : Prop := d = .lst xs ∨ d = .tup xs
theorem loose_at {n : Nat} {S : Sm} {d : D} (h : (∃ x, d = .str x) ∨ ∃ x, d = .int x) : m_law_loose (n + 1) [.strm, d] S = some (d, S) := by
  refine run_rt (E' := [.v .strm, .v d, .no, .no, .no]) ?_
  rcases h with ⟨x, rfl⟩ | ⟨x, rfl⟩
  · simp [g_law_loose, is_str, tyB]
  · simp [g_law_loose, is_int, tyB]
@[simp] theorem tupN_lst {l : List D} : tupN [.lst l] = some (.tup l) := rfl
theorem q_loose {n c : Nat} {d : D} {xs : List D} {R : D → D → Prop} (hd : sq d xs) (hl : xs.length ≤ 1000000) (h : ∀ x ∈ xs, ∀ (m : Nat) (S : Sm), Good (m + c) S → ∃ y S', m_law_loose n [.strm, x] S = some (y, S') ∧ R x y ∧ Good m S') {m : Nat} {S : Sm} (g : Good (m + (c * xs.length + 1)) S) : ∃ e ys S', m_law_loose (n + 1) [.strm, d] S = some (e, S') ∧ sq e ys ∧ Paired R xs ys ∧ Good m S' := by
  have g : Good (m + 1 + c * xs.length) S := g.mono (by omega)
  obtain ⟨ys, S1, e1, p, g1⟩ := lc_run (i := 3) (c := c) (E := [.v .strm, .v d, .no, .no, .no]) (fe := mE (m_law_loose n) 2 (consA (vE 0) (consA (vE 3) nilA))) (R := R) (show 3 < 5 by decide) (items := xs) (fun x hx m S g => by
    obtain ⟨y, S', e, r, g'⟩ := h x hx m S g
    exact ⟨y, S', by simp [e], r, g'⟩) (m + 1) S .no g
  obtain ⟨k, S2, e2, k0, k1, g2, _⟩ := q_draw (m := 2) g1 (by decide) (by decide)
  have e1 : lcL (tgN 3) yesT (mE (m_law_loose n) 2 (consA (vE 0) (consA (vE 3) nilA))) xs [.v .strm, .v d, .no, .no, .no] S = some (ys, S1) := e1
  rcases hd with rfl | rfl
  · by_cases c0 : k = 0
    · refine ⟨.lst ys, ys, S2, run_rt (E' := [.v .strm, .v (.lst xs), .v (.lst ys), .no, .no]) ?_, .inl rfl, p, g2⟩
      simp [g_law_loose, noOwn, hl, e1, e2, c0]
    · refine ⟨.tup ys, ys, S2, run_rt (E' := [.v .strm, .v (.lst xs), .v (.lst ys), .no, .no]) ?_, .inr rfl, p, g2⟩
      simp [g_law_loose, noOwn, hl, e1, e2, c0]
  · by_cases c0 : k = 0
    · refine ⟨.lst ys, ys, S2, run_rt (E' := [.v .strm, .v (.tup xs), .v (.lst ys), .no, .no]) ?_, .inl rfl, p, g2⟩
      simp [g_law_loose, noOwn, hl, e1, e2, c0]
    · refine ⟨.tup ys, ys, S2, run_rt (E' := [.v .strm, .v (.tup xs), .v (.lst ys), .no, .no]) ?_, .inr rfl, p, g2⟩
      simp [g_law_loose, noOwn, hl, e1, e2, c0]
/-- a pair of plain things, in either form -/
def Pr (a b d : D) : Prop := sq d [a, b]
def atomD (d : D) : Prop := (∃ x, d = .str x) ∨ ∃ x, d = .int x
theorem q_loose2 {n : Nat} {a b d : D} (ha : atomD a) (hb : atomD b) (hd : Pr a b d) {m : Nat} {S : Sm} (g : Good (m + 1) S) : ∃ e S', m_law_loose (n + 2) [.strm, d] S = some (e, S') ∧ Pr a b e ∧ Good m S' := by
  obtain ⟨e, ys, S', e1, s, p, g'⟩ := q_loose (n := n + 1) (c := 0) (R := Eq) hd (show 2 ≤ 1000000 by decide) (fun x hx m S g => by
    have hx : atomD x := by
      simp at hx
      rcases hx with rfl | rfl <;> assumption
    exact ⟨x, S, loose_at hx, rfl, g⟩) (m := m) (S := S) (g.mono (by omega))
  refine ⟨e, S', e1, ?_, g'⟩
  cases p with
  | cons h1 p => cases p with
    | cons h2 p =>
      cases p
      subst h1
      subst h2
      exact s
end M


set_option Elab.async false
set_option linter.all false
set_option maxRecDepth 100000
set_option maxHeartbeats 4000000
namespace M
open PySem L2

/-! ### names -/
def sl (l : List Nat) : Str := ⟨l.toArray⟩
theorem sl_inj {a b : List Nat} : sl a = sl b ↔ a = b := by
  unfold sl
  constructor
  · intro h
    have := congrArg (fun s : Str => s.cps.toList) h
    simpa using this
  · rintro rfl; rfl
abbrev abc : Str := "abcdefghijklmnopqrstuvwxyz"
theorem abc_cps : abc = sl [97, 98, 99, 100, 101, 102, 103, 104, 105, 106, 107, 108, 109, 110, 111, 112, 113, 114, 115, 116, 117, 118, 119, 120, 121, 122] := by
  show PySem.Str.ofString _ = _
  rw [PySem.Str.ofString_eq_toList]
  simp [sl]
theorem abc_list : abc.cps.toList = (List.range 26).map (97 + ·) := by
  rw [abc_cps]
  decide
theorem abc_len : abc.length = 26 := by
  rw [abc_cps]
  rfl
theorem abc_at {k : Nat} (h : k < 26) : orO ixD getD (.str abc) (.int (k : Int)) = some (.str (sl [97 + k])) := by
  have h2 : abc.cps.toList[k]? = some (97 + k) := by
    rw [abc_list, List.getElem?_map, List.getElem?_range h]
    rfl
  unfold orO ixD getD
  simp only [abc_len, atI_nat, h2]
  rfl
theorem q_letter {n : Nat} {S : Sm} (h : Good (n + 1) S) : ∃ (k : Nat) (S' : Sm), m_law_pick [.strm, .str abc] S = some (.str (sl [97 + k]), S') ∧ k < 26 ∧ Good n S' ∧ pot S' ≤ pot S ∧ (dry S → S' = { S with cnt := S.cnt + 1 } ∧ (k : Int) = mixB (mixA S.mix (S.cnt + 1)) (S.cnt + 1) % 26) ∧ (dry S' ∨ pot S' < pot S) := by
  obtain ⟨k, S', e, k0, k1, g, g2, g3, g4⟩ := q_draw (m := 26) h (by decide) (by decide)
  obtain ⟨j, rfl⟩ : ∃ j : Nat, k = j := ⟨k.toNat, by omega⟩
  have hj : j < 26 := by omega
  refine ⟨j, S', run_rt (E' := [.v .strm, .v (.str abc)]) ?_, hj, g, g2, g3, g4 (by decide)⟩
  have hl : lenN [.str abc] = some (.int 26) := by
    unfold lenN
    simp only [abc_len]
    rfl
  show g_law_pick [.v .strm, .v (.str abc)] S = _
  simp [g_law_pick, hl, e, abc_at hj]
def nxt (l : List Nat) (k : Nat) : List Nat := (l ++ [97 + k]).drop (l.length + 1 - 5)
theorem nxt_str {l : List Nat} {k : Nat} (h : l.length ≤ 100) : (match addA (.str (sl l)) (.str (sl [97 + k])) with
    | some d => slD d (some (-5)) none
    | none => none) = some (.str (sl (nxt l k))) := by
  have h1 : (sl l).length = l.length := by unfold sl Str.length; simp
  have h2 : (sl [97 + k]).length = 1 := rfl
  have h3 : sl l ++ sl [97 + k] = sl (l ++ [97 + k]) := by
    show Str.append _ _ = _
    unfold Str.append sl
    simp
  have h4 : addA (.str (sl l)) (.str (sl [97 + k])) = some (.str (sl (l ++ [97 + k]))) := by
    have h9 : addS (.str (sl l)) (.str (sl [97 + k])) = some (.str (sl (l ++ [97 + k]))) := by
      unfold addS
      simp only [h1, h2]
      rw [if_pos (by omega), h3]
    simp only [addA, orO, addI, h9]
  rw [h4]
  have h5 : (sl (l ++ [97 + k])).length = l.length + 1 := by unfold sl Str.length; simp
  unfold slD
  simp only [h5]
  rw [if_pos (by omega)]
  unfold cutS
  rw [h5]
  have h6 : HT.sIx (l.length + 1) 0 (some (-5)) = l.length + 1 - 5 := by
    unfold HT.sIx
    simp only []
    rw [if_pos (by decide)]
    omega
  have h7 : HT.sIx (l.length + 1) (l.length + 1) none = l.length + 1 := rfl
  rw [h6, h7]
  unfold nxt sl
  simp only
  rw [List.take_of_length_le]
  simp
/-! ### the loop that makes a name unlike the others -/
def nmC : FT := bT (inOE (vE 5) 2)
noncomputable def nmB : FS := setS 5 (slE (opE addA (vE 5) (mE m_law_pick 2 (consA (vE 0) (consA (vE 3) nilA)))) (someO (negU (cE (.int 5)))) noO)
def nmE (a : D) (found : List Str) (b : Sl) (l : List Nat) (c : Sl) : Ev := [.v .strm, .v a, .o (.lst (found.map .str)), .v (.str abc), b, .v (.str (sl l)), c]
theorem in_found {x : Str} {found : List Str} : orO (orO inSq inStr) inDD (.str x) (.lst (found.map .str)) = some (.bl (decide (x ∈ found))) := by
  have h1 : (found.map D.str).all flatD = true := by
    rw [List.all_eq_true]
    intro d hd
    obtain ⟨y, _, rfl⟩ := List.mem_map.mp hd
    rfl
  have h2 : ((found.map D.str).any fun y => eqFD y (.str x)) = decide (x ∈ found) := by
    rw [Bool.eq_iff_iff, List.any_eq_true, decide_eq_true_iff]
    constructor
    · rintro ⟨d, hd, he⟩
      obtain ⟨y, hy, rfl⟩ := List.mem_map.mp hd
      have : y = x := by simpa [eqFD] using he
      subst this
      exact hy
    · intro h
      exact ⟨_, List.mem_map.mpr ⟨x, h, rfl⟩, by simp [eqFD]⟩
  have h3 : flatD (.str x) = true := rfl
  simp only [orO, inSq, h1, h2, h3, Bool.and_self, if_true]
theorem nmC_eq {a : D} {found : List Str} {b c : Sl} {l : List Nat} {S : Sm} : nmC (nmE a found b l c) S = some (decide (sl l ∈ found), S) := by
  have e : inOE (vE 5) 2 (nmE a found b l c) S = some (.bl (decide (sl l ∈ found)), S) := by
    unfold inOE nmE
    simp only [x_v, List.getElem?_cons_succ, List.getElem?_cons_zero, in_found]
  unfold nmC
  rw [x_bT, e]
theorem nmB_eq {a : D} {found : List Str} {b c : Sl} {l : List Nat} {S S' : Sm} {k : Nat} (hl : l.length ≤ 100) (e : m_law_pick [.strm, .str abc] S = some (.str (sl [97 + k]), S')) : nmB (nmE a found b l c) S = some (.nx, nmE a found b (nxt l k) c, S') := by
  have e1 := nxt_str (l := l) (k := k) hl
  have e2 : slE (opE addA (vE 5) (mE m_law_pick 2 (consA (vE 0) (consA (vE 3) nilA)))) (someO (negU (cE (.int 5)))) noO (nmE a found b l c) S = some (.str (sl (nxt l k)), S') := by
    have e3 : opE addA (vE 5) (mE m_law_pick 2 (consA (vE 0) (consA (vE 3) nilA))) (nmE a found b l c) S = match addA (.str (sl l)) (.str (sl [97 + k])) with
      | some d => some (d, S')
      | none => none := by
      unfold nmE
      simp [e]
      all_goals (cases addA (.str (sl l)) (.str (sl [97 + k])) <;> rfl)
    unfold slE
    rw [e3]
    revert e1
    cases addA (.str (sl l)) (.str (sl [97 + k])) with
    | none => intro e1; cases e1
    | some d =>
      intro e1
      have e4 : someO (negU (cE (.int 5))) (nmE a found b l c) S' = some (some (-5), S') := rfl
      simp only [e4, noO]
      simp only at e1
      rw [e1]
  unfold nmB
  rw [x_set, e2]
  rfl
def okL (l : List Nat) : Prop := 0 < l.length ∧ l.length ≤ 5 ∧ ∀ c ∈ l, 97 ≤ c ∧ c < 123
theorem nxt_ok {l : List Nat} {k : Nat} (h : okL l) (hk : k < 26) : okL (nxt l k) := by
  obtain ⟨h1, h2, h3⟩ := h
  unfold nxt
  refine ⟨?_, ?_, fun c hc => ?_⟩
  · rw [List.length_drop, List.length_append, List.length_singleton]; omega
  · rw [List.length_drop, List.length_append, List.length_singleton]; omega
  · have := List.mem_of_mem_drop hc
    rcases List.mem_append.mp this with h | h
    · exact h3 c h
    · rw [List.mem_singleton] at h; omega
def nmP : Int := 1000000009
def nmQ : Int := 2147483587
theorem pow_emod (a m : Int) : ∀ n : Nat, a ^ n % m = (a % m) ^ n % m
  | 0 => by rw [Int.pow_zero, Int.pow_zero]
  | n + 1 => by rw [Int.pow_succ, Int.pow_succ, Int.mul_emod, pow_emod a m n, Int.mul_emod ((a % m) ^ n), Int.emod_emod_of_dvd _ (Int.dvd_refl m)]
theorem pow_cong {a b m : Int} (n : Nat) (h : a % m = b % m) : a ^ n % m = b ^ n % m := by rw [pow_emod a, pow_emod b, h]
/-- the letters behind the place where the mixing meets nothing -/
def lets : List Nat := [18, 0, 9, 25, 17, 14, 0, 9, 18, 19, 5, 25, 10, 15, 6, 7, 4, 10, 21, 13, 15, 6, 11, 21, 11, 12, 2, 22, 8, 23]
theorem lets_ok : ∀ j : Fin 30, mixB ((8191 * ((j.val : Int) + 1)) ^ 5 % 2147483587) ((j.val : Int) + 1) % 26 = ((lets.getD j.val 0 : Nat) : Int) := by decide +kernel
theorem meet (m c : Int) : ∃ t : Int, c ≤ t ∧ t < c + 1000000009 * 2147483587 ∧ t % 1000000009 = 0 ∧ (m + 8191 * t + 50021) % 2147483587 = 0 := by
  let s : Int := 1000000009 * (489137076 * (-(1481032204 * (m + 50021))))
  have hs1 : s % 1000000009 = 0 := Int.mul_emod_right _ _
  refine ⟨c + (s - c) % (1000000009 * 2147483587), ?_, ?_, ?_, ?_⟩
  · have := Int.emod_nonneg (s - c) (show (1000000009 * 2147483587 : Int) ≠ 0 by decide)
    omega
  · have := Int.emod_lt_of_pos (s - c) (show (0 : Int) < 1000000009 * 2147483587 by decide)
    omega
  · have h1 := Int.mul_ediv_add_emod (s - c) (1000000009 * 2147483587)
    generalize (s - c) % (1000000009 * 2147483587) = r at *
    generalize (s - c) / (1000000009 * 2147483587) = u at *
    omega
  · have h1 := Int.mul_ediv_add_emod (s - c) (1000000009 * 2147483587)
    generalize (s - c) % (1000000009 * 2147483587) = r at *
    generalize (s - c) / (1000000009 * 2147483587) = u at *
    simp only [s] at h1
    omega
theorem letter_at {m t : Int} (h1 : t % 1000000009 = 0) (h2 : (m + 8191 * t + 50021) % 2147483587 = 0) (j : Fin 30) : mixB (mixA m (t + (j.val + 1))) (t + (j.val + 1)) % 26 = ((lets.getD j.val 0 : Nat) : Int) := by
  rw [← lets_ok j]
  have e1 : mixA m (t + (j.val + 1)) = (8191 * ((j.val : Int) + 1)) ^ 5 % 2147483587 := by
    unfold mixA
    apply pow_cong
    omega
  rw [e1]
  generalize (8191 * ((j.val : Int) + 1)) ^ 5 % 2147483587 = a
  have e2 : mixB a (t + (j.val + 1)) = mixB a ((j.val : Int) + 1) := by
    unfold mixB
    apply pow_cong
    omega
  rw [e2]
end M


set_option Elab.async false
set_option linter.all false
set_option maxRecDepth 100000
set_option maxHeartbeats 4000000
namespace M
open PySem L2

def kf (m c : Int) : Nat := (mixB (mixA m c) c % 26).toNat
def walkL (m : Int) : Int → List Nat → Nat → List Nat
  | _, l, 0 => l
  | c, l, i + 1 => walkL m (c + 1) (nxt l (kf m (c + 1))) i
theorem kf_lt {m c : Int} : kf m c < 26 := by
  unfold kf
  have h1 := Int.emod_nonneg (mixB (mixA m c) c) (show (26 : Int) ≠ 0 by decide)
  have h2 := Int.emod_lt_of_pos (mixB (mixA m c) c) (show (0 : Int) < 26 by decide)
  omega
theorem walk_ok {m : Int} : ∀ {i : Nat} {c : Int} {l : List Nat}, okL l → okL (walkL m c l i)
  | 0, _, _, h => h
  | i + 1, c, l, h => by
    show okL (walkL m (c + 1) (nxt l (kf m (c + 1))) i)
    exact walk_ok (nxt_ok h kf_lt)
theorem walk_add {m : Int} : ∀ {i : Nat} {c : Int} {l : List Nat} {j : Nat}, walkL m c l (i + j) = walkL m (c + i) (walkL m c l i) j
  | 0, c, l, j => by rw [Nat.zero_add]; simp [walkL]
  | i + 1, c, l, j => by
    rw [show i + 1 + j = (i + j) + 1 by omega]
    show walkL m (c + 1) (nxt l (kf m (c + 1))) (i + j) = _
    rw [walk_add]
    show _ = walkL m (c + (i + 1 : Nat)) (walkL m (c + 1) (nxt l (kf m (c + 1))) i) j
    congr 1
    omega
theorem walk_five {m c : Int} {l : List Nat} (h : okL l) : walkL m c l 5 = [97 + kf m (c + 1), 97 + kf m (c + 1 + 1), 97 + kf m (c + 1 + 1 + 1), 97 + kf m (c + 1 + 1 + 1 + 1), 97 + kf m (c + 1 + 1 + 1 + 1 + 1)] := by
  obtain ⟨h1, h2, _⟩ := h
  match l, h1, h2 with
  | [a], _, _ => simp [walkL, nxt]
  | [a, b], _, _ => simp [walkL, nxt]
  | [a, b, c], _, _ => simp [walkL, nxt]
  | [a, b, c, d], _, _ => simp [walkL, nxt]
  | [a, b, c, d, e], _, _ => simp [walkL, nxt]
theorem nodup_sub {α : Type} [DecidableEq α] : ∀ {l m : List α}, l.Nodup → (∀ x ∈ l, x ∈ m) → l.length ≤ m.length
  | [], m, _, _ => Nat.zero_le _
  | x :: l, m, hn, h => by
    rw [List.nodup_cons] at hn
    have hx := h x List.mem_cons_self
    have ih := nodup_sub (l := l) (m := m.erase x) hn.2 fun y hy => (List.mem_erase_of_ne (fun e => hn.1 (by rw [← e]; exact hy))).mpr (h y (List.mem_cons_of_mem _ hy))
    rw [List.length_erase_of_mem hx] at ih
    have : 0 < m.length := List.length_pos_of_mem hx
    rw [List.length_cons]
    omega
def wnd (j : Nat) : List Nat := [97 + lets.getD j 0, 97 + lets.getD (j + 1) 0, 97 + lets.getD (j + 2) 0, 97 + lets.getD (j + 3) 0, 97 + lets.getD (j + 4) 0]
theorem wnd_nd : ((List.range 26).map fun j => sl (wnd j)).Nodup := by decide +kernel
theorem unlike {found : List Str} (hf : found.length ≤ 25) (m c : Int) {l : List Nat} (h : okL l) : ∃ T : Nat, T ≤ 2 ^ 62 ∧ sl (walkL m c l T) ∉ found := by
  obtain ⟨t, t1, t2, t3, t4⟩ := meet m c
  have key : ∃ j, j < 26 ∧ sl (wnd j) ∉ found := by
    apply Classical.byContradiction
    intro hc
    have := nodup_sub wnd_nd (m := found) fun x hx => by
      obtain ⟨j, hj, rfl⟩ := List.mem_map.mp hx
      apply Classical.byContradiction
      intro hn
      exact hc ⟨j, List.mem_range.mp hj, hn⟩
    simp at this
    omega
  obtain ⟨j, hj, hn⟩ := key
  have kl : ∀ i : Nat, i < 30 → kf m (t + (i + 1)) = lets.getD i 0 := fun i hi => by
    have := letter_at t3 t4 ⟨i, hi⟩
    unfold kf
    rw [this]
    simp
  refine ⟨(t - c).toNat + j + 5, by omega, ?_⟩
  rw [walk_add, walk_five (walk_ok h)]
  have e : c + (((t - c).toNat + j : Nat) : Int) = t + j := by omega
  rw [e]
  have e0 : t + (j : Int) + 1 = t + ((j : Nat) + 1) := by omega
  have e1 : t + ((j : Int) + 1) + 1 = t + (((j + 1 : Nat) : Int) + 1) := by omega
  have e2 : t + (((j + 1 : Nat) : Int) + 1) + 1 = t + (((j + 2 : Nat) : Int) + 1) := by omega
  have e3 : t + (((j + 2 : Nat) : Int) + 1) + 1 = t + (((j + 3 : Nat) : Int) + 1) := by omega
  have e4 : t + (((j + 3 : Nat) : Int) + 1) + 1 = t + (((j + 4 : Nat) : Int) + 1) := by omega
  rw [e0, e1, e2, e3, e4, kl j (by omega), kl (j + 1) (by omega), kl (j + 2) (by omega), kl (j + 3) (by omega), kl (j + 4) (by omega)]
  exact hn
def NmEnd (n : Nat) (a : D) (found : List Str) (b c : Sl) (l : List Nat) (S : Sm) : Prop := ∃ N l' S', whN nmC nmB N (nmE a found b l c) S = some (.nx, nmE a found b l' c, S') ∧ okL l' ∧ sl l' ∉ found ∧ Good n S'
theorem nm_stop {n : Nat} {a : D} {found : List Str} {b c : Sl} {l : List Nat} {S : Sm} (h : okL l) (hn : sl l ∉ found) (g : Good n S) : NmEnd n a found b c l S := by
  refine ⟨1, l, S, ?_, h, hn, g⟩
  unfold whN
  rw [nmC_eq, decide_eq_false hn]
theorem nm_step {n : Nat} {a : D} {found : List Str} {b c : Sl} {l : List Nat} {S S' : Sm} {k : Nat} (h : okL l) (hn : sl l ∈ found) (e : m_law_pick [.strm, .str abc] S = some (.str (sl [97 + k]), S')) (r : NmEnd n a found b c (nxt l k) S') : NmEnd n a found b c l S := by
  obtain ⟨N, l', S2, e2, h2, h3, g⟩ := r
  refine ⟨N + 1, l', S2, ?_, h2, h3, g⟩
  unfold whN
  rw [nmC_eq, decide_eq_true hn]
  simp only []
  rw [nmB_eq (Nat.le_trans h.2.1 (by decide)) e]
  exact e2
theorem nm_dry {n : Nat} {a : D} {found : List Str} {b c : Sl} : ∀ (T : Nat) (l : List Nat) (S : Sm), dry S → okL l → Good (n + T) S → sl (walkL S.mix S.cnt l T) ∉ found → NmEnd n a found b c l S
  | 0, l, S, _, h, g, hn => nm_stop h hn g
  | T + 1, l, S, hd, h, g, hn => by
    by_cases hl : sl l ∈ found
    · obtain ⟨k, S', e, hk, g', _, hs, _⟩ := q_letter (n := n + T) g
      obtain ⟨rfl, hk2⟩ := hs hd
      refine nm_step h hl e (nm_dry T _ _ hd (nxt_ok h hk) g' ?_)
      have : k = kf S.mix (S.cnt + 1) := by
        unfold kf
        rw [← hk2]
        simp
      rw [this]
      exact hn
    · exact nm_stop h hl (g.mono (by omega))
theorem nm_wet {n : Nat} {a : D} {found : List Str} {b c : Sl} (hf : found.length ≤ 25) : ∀ (p : Nat) (l : List Nat) (S : Sm), pot S ≤ p → okL l → Good (n + 2 ^ 64 + p + 1) S → NmEnd n a found b c l S := by
  have hdry : ∀ (l : List Nat) (S : Sm), dry S → okL l → Good (n + 2 ^ 64) S → NmEnd n a found b c l S := fun l S hd h g => by
    obtain ⟨T, hT, hn⟩ := unlike hf S.mix S.cnt h
    exact nm_dry T l S hd h (g.mono (by omega)) hn
  intro p
  induction p with
  | zero =>
    intro l S hp h g
    by_cases hl : sl l ∈ found
    · obtain ⟨k, S', e, hk, g', _, _, hs⟩ := q_letter (n := n + 2 ^ 64) g
      rcases hs with hs | hs
      · exact nm_step h hl e (hdry _ _ hs (nxt_ok h hk) g')
      · omega
    · exact nm_stop h hl (g.mono (by omega))
  | succ p ih =>
    intro l S hp h g
    by_cases hl : sl l ∈ found
    · obtain ⟨k, S', e, hk, g', _, _, hs⟩ := q_letter (n := n + 2 ^ 64 + p + 1) (g.mono (by omega))
      rcases hs with hs | hs
      · exact nm_step h hl e (hdry _ _ hs (nxt_ok h hk) (g'.mono (by omega)))
      · exact nm_step h hl e (ih _ _ (by omega) (nxt_ok h hk) g')
    · exact nm_stop h hl (g.mono (by omega))
end M


set_option Elab.async false
set_option linter.all false
set_option maxRecDepth 100000
set_option maxHeartbeats 4000000
namespace M
open PySem L2

theorem join_lets : ∀ (ks : List Nat), Txt.join ("" : Str) (ks.map fun k => sl [97 + k]) = sl (ks.map (97 + ·)) := by
  intro ks
  unfold Txt.join
  rw [StrLaws.glued_eq_join]
  have e : ("" : Str) = sl [] := by
    show PySem.Str.ofString _ = _
    rw [PySem.Str.ofString_eq_toList]
    simp [sl]
  rw [e]
  have ap : ∀ a b : List Nat, sl a ++ sl b = sl (a ++ b) := fun a b => by
    show Str.append _ _ = _
    unfold Str.append sl
    simp
  induction ks with
  | nil => rfl
  | cons k ks ih =>
    cases ks with
    | nil => rfl
    | cons k2 ks =>
      show sl [97 + k] ++ sl [] ++ Str.join (sl []) ((k2 :: ks).map fun k => sl [97 + k]) = _
      rw [ih, ap, ap]
      rfl
def okN (x : Str) : Prop := ∃ l, x = sl l ∧ okL l
noncomputable def nmBody : FS := (seqS (setS 5 (joinE (cE (.str "")) (lcE (rng1F (consA (opE addA (cE (.int 1)) (mE m_law_draw 2 (consA (vE 0) (consA (mE m_law_pick 2 (consA (vE 0) (consA (lstE (consA (cE (.int 1)) (consA (cE (.int 1)) (consA (cE (.int 3)) nilA)))) nilA))) nilA)))) nilA)) (tgN 6) yesT (mE m_law_pick 2 (consA (vE 0) (consA (vE 3) nilA))) [6]))) (seqS (whS nmC nmB) (appS 2 (vE 5))))
theorem paired_lets {items ys : List D} (p : Paired (fun _ y => ∃ k, k < 26 ∧ y = D.str (sl [97 + k])) items ys) : ∃ ks : List Nat, ys = ks.map (fun k => D.str (sl [97 + k])) ∧ ∀ k ∈ ks, k < 26 := by
  induction p with
  | nil => exact ⟨[], rfl, fun _ h => by cases h⟩
  | cons r _ ih =>
    obtain ⟨k, hk, rfl⟩ := r
    obtain ⟨ks, rfl, h⟩ := ih
    exact ⟨k :: ks, rfl, fun x hx => by
      rcases List.mem_cons.mp hx with rfl | hx
      · exact hk
      · exact h x hx⟩
theorem sum_lets : ∀ ks : List Nat, ((ks.map fun k => sl [97 + k]).map (·.length)).sum = ks.length
  | [] => rfl
  | k :: ks => by
    rw [List.map_cons, List.map_cons, List.sum_cons, sum_lets ks, List.length_cons]
    show 1 + ks.length = _
    omega
theorem nm_first {n : Nat} {a : D} {own : Sl} {b x y : Sl} {S : Sm} (g : Good (n + 5) S) : ∃ (l : List Nat) (S' : Sm), joinE (cE (.str "")) (lcE (rng1F (consA (opE addA (cE (.int 1)) (mE m_law_draw 2 (consA (vE 0) (consA (mE m_law_pick 2 (consA (vE 0) (consA (lstE (consA (cE (.int 1)) (consA (cE (.int 1)) (consA (cE (.int 3)) nilA)))) nilA))) nilA)))) nilA)) (tgN 6) yesT (mE m_law_pick 2 (consA (vE 0) (consA (vE 3) nilA))) [6]) [.v .strm, .v a, own, .v (.str abc), b, x, .no] S = some (.str (sl l), S') ∧ okL l ∧ Good n S' := by
  obtain ⟨d, S1, e1, hd, g1⟩ := q_pick (xs := [.int 1, .int 1, .int 3]) (n := n + 4) g (by simp) (by show 3 < 1000000; decide)
  obtain ⟨i, rfl, i1, i3⟩ : ∃ i : Int, d = .int i ∧ 1 ≤ i ∧ i ≤ 3 := by
    simp at hd
    rcases hd with rfl | rfl
    · exact ⟨1, rfl, by decide, by decide⟩
    · exact ⟨3, rfl, by decide, by decide⟩
  obtain ⟨k, S2, e2, k0, k1, g2, _⟩ := q_draw (n := n + 3) (m := i) g1 (by omega) (by omega)
  have hr : rng1F (consA (opE addA (cE (.int 1)) (mE m_law_draw 2 (consA (vE 0) (consA (mE m_law_pick 2 (consA (vE 0) (consA (lstE (consA (cE (.int 1)) (consA (cE (.int 1)) (consA (cE (.int 3)) nilA)))) nilA))) nilA)))) nilA) [.v .strm, .v a, own, .v (.str abc), b, x, .no] S = some (rngD 0 (1 + k).toNat, S2) := by
    refine rng_len (by omega) (by omega) ?_
    simp [e1, e2]
  have hl : (rngD 0 (1 + k).toNat).length = (1 + k).toNat := by unfold rngD; simp
  obtain ⟨ys, S3, e3, p, g3⟩ := lc_run (i := 6) (c := 1) (E := [.v .strm, .v a, own, .v (.str abc), b, x, .no]) (fe := mE m_law_pick 2 (consA (vE 0) (consA (vE 3) nilA))) (R := fun _ y => ∃ k, k < 26 ∧ y = D.str (sl [97 + k])) (show 6 < 7 by decide) (items := rngD 0 (1 + k).toNat) (fun d hd m S g => by
    obtain ⟨k, S', e, hk, g', _⟩ := q_letter (n := m) g
    exact ⟨_, S', by simp [e], ⟨k, hk, rfl⟩, g'⟩) n S2 .no (g2.mono (by rw [hl]; omega))
  have e3 : lcL (tgN 6) yesT (mE m_law_pick 2 (consA (vE 0) (consA (vE 3) nilA))) (rngD 0 (1 + k).toNat) [.v .strm, .v a, own, .v (.str abc), b, x, .no] S2 = some (ys, S3) := e3
  obtain ⟨ks, rfl, hks⟩ := paired_lets p
  have hlen : ks.length = (1 + k).toNat := by
    have := p.length
    rw [hl, List.length_map] at this
    exact this.symm
  refine ⟨ks.map (97 + ·), S3, ?_, ⟨by rw [List.length_map]; omega, by rw [List.length_map]; omega, fun c hc => ?_⟩, g3⟩
  · have hno : noOwn [.v .strm, .v a, own, .v (.str abc), b, x, .no] [6] = true := rfl
    have hle : (rngD 0 (1 + k).toNat).length ≤ 1000000 := by rw [hl]; omega
    have hlc : lcE (rng1F (consA (opE addA (cE (.int 1)) (mE m_law_draw 2 (consA (vE 0) (consA (mE m_law_pick 2 (consA (vE 0) (consA (lstE (consA (cE (.int 1)) (consA (cE (.int 1)) (consA (cE (.int 3)) nilA)))) nilA))) nilA)))) nilA)) (tgN 6) yesT (mE m_law_pick 2 (consA (vE 0) (consA (vE 3) nilA))) [6] [.v .strm, .v a, own, .v (.str abc), b, x, .no] S = some (.lst (ks.map (fun k => D.str (sl [97 + k]))), S3) := by
      rw [x_lc, hr]
      simp only []
      rw [if_pos ⟨hle, hno⟩]
      have hw : wipeE [.v .strm, .v a, own, .v (.str abc), b, x, .no] [6] = [.v .strm, .v a, own, .v (.str abc), b, x, .no] := rfl
      rw [hw, e3]
    unfold joinE
    rw [x_op, x_c]
    simp only [hlc]
    have hm : ks.map (fun k => D.str (sl [97 + k])) = (ks.map fun k => sl [97 + k]).map D.str := by simp
    have hsum := sum_lets ks
    have hz : Str.length ("" : Str) = 0 := by
      have e : ("" : Str) = sl [] := by
        show PySem.Str.ofString _ = _
        rw [PySem.Str.ofString_eq_toList]
        simp [sl]
      rw [e]; rfl
    unfold joinN
    rw [hm]
    simp only [strs_map]
    rw [if_pos (by rw [hsum, hz]; omega), join_lets]
  · obtain ⟨k, hk, rfl⟩ := List.mem_map.mp hc
    have := hks k hk
    omega
end M


set_option Elab.async false
set_option linter.all false
set_option maxRecDepth 100000
set_option maxHeartbeats 4000000
namespace M
open PySem L2

theorem forL_nx {tg : TgD} {body : FS} {d : D} {r : List D} {E E1 E2 : Ev} {S S2 : Sm} (ht : tg d E = some E1) (hb : body E1 S = some (.nx, E2, S2)) : forL tg body (d :: r) E S = forL tg body r E2 S2 := by
  rw [forL]
  simp only [ht, hb]
theorem set_at {f : FE} {E : Ev} {S S1 : Sm} {d : D} {i : Nat} (e : f E S = some (d, S1)) (h : i < E.length) : setS i f E S = some (.nx, E.set i (.v d), S1) := by
  rw [x_set, e]
  simp only []
  rw [if_pos h]
theorem seq_nx {g1 g2 : FS} {E E1 : Ev} {S S1 : Sm} (e : g1 E S = some (.nx, E1, S1)) : seqS g1 g2 E S = g2 E1 S1 := by
  rw [x_seq, e]
theorem nm_one {n : Nat} {a : D} {found : List Str} {b x : Sl} {S : Sm} (hf : found.length ≤ 25) (g : Good (n + 2 ^ 65) S) : ∃ (l : List Nat) (S' : Sm), nmBody [.v .strm, .v a, .o (.lst (found.map .str)), .v (.str abc), b, x, .no] S = some (.nx, [.v .strm, .v a, .o (.lst ((found ++ [sl l]).map .str)), .v (.str abc), b, .v (.str (sl l)), .no], S') ∧ okL l ∧ sl l ∉ found ∧ Good n S' := by
  obtain ⟨l, S1, e1, h1, g1⟩ := nm_first (n := n + 2 ^ 64 + 2 ^ 27 + 1) (a := a) (own := .o (.lst (found.map .str))) (b := b) (x := x) (y := .no) (g.mono (by omega))
  obtain ⟨N, l', S2, e2, h2, h3, g2⟩ := nm_wet (n := n) (a := a) (b := b) (c := .no) hf (2 ^ 27) l S1 g1.pot1 h1 g1
  refine ⟨l', S2, ?_, h2, h3, g2⟩
  unfold nmBody
  have e5 := set_at (i := 5) e1 (by show 5 < 7; decide)
  have e3 : whS nmC nmB [.v .strm, .v a, .o (.lst (found.map .str)), .v (.str abc), b, .v (.str (sl l)), .no] S1 = some (.nx, nmE a found b l' .no, S2) := whS_at e2
  have e4 : List.set [Sl.v .strm, .v a, .o (.lst (found.map .str)), .v (.str abc), b, x, .no] 5 (.v (.str (sl l))) = [.v .strm, .v a, .o (.lst (found.map .str)), .v (.str abc), b, .v (.str (sl l)), .no] := rfl
  rw [e4] at e5
  rw [seq_nx e5, seq_nx e3]
  have hl : (found.map D.str).length < 1000000 := by rw [List.length_map]; omega
  unfold appS nmE
  simp only [List.getElem?_cons_succ, List.getElem?_cons_zero, x_v]
  rw [if_pos hl, List.map_append]
  rfl
theorem nm_loop {a : D} {n : Nat} : ∀ (items : List D) (found : List Str) (b x : Sl) (S : Sm), found.length + items.length ≤ 20 → found.Nodup → (∀ y ∈ found, okN y) → Good (n + items.length * 2 ^ 65) S → ∃ (found' : List Str) (b' x' : Sl) (S' : Sm), forL (tgN 4) nmBody items [.v .strm, .v a, .o (.lst (found.map .str)), .v (.str abc), b, x, .no] S = some (.nx, [.v .strm, .v a, .o (.lst (found'.map .str)), .v (.str abc), b', x', .no], S') ∧ found'.length = found.length + items.length ∧ found'.Nodup ∧ (∀ y ∈ found', okN y) ∧ Good n S' := by
  intro items
  induction items with
  | nil => intro found b x S _ h1 h2 g; exact ⟨found, b, x, S, rfl, rfl, h1, h2, g.mono (by omega)⟩
  | cons d items ih =>
    intro found b x S hl h1 h2 g
    rw [List.length_cons] at hl g
    obtain ⟨l, S1, e1, k1, k2, g1⟩ := nm_one (n := n + items.length * 2 ^ 65) (a := a) (b := .v d) (x := x) (show found.length ≤ 25 by omega) (g.mono (by omega))
    obtain ⟨found', b', x', S', e2, f1, f2, f3, f4⟩ := ih (found ++ [sl l]) (.v d) (.v (.str (sl l))) S1 (by rw [List.length_append, List.length_singleton]; omega) (by
      rw [List.nodup_append]
      refine ⟨h1, by simp, fun y hy z hz => ?_⟩
      rw [List.mem_singleton] at hz
      subst hz
      intro e
      subst e
      exact k2 hy) (fun y hy => by
      rcases List.mem_append.mp hy with hy | hy
      · exact h2 y hy
      · rw [List.mem_singleton] at hy; exact ⟨l, hy, k1⟩) g1
    refine ⟨found', b', x', S', ?_, ?_, f2, f3, f4⟩
    · have ht : tgN 4 d [.v .strm, .v a, .o (.lst (found.map .str)), .v (.str abc), b, x, .no] = some [.v .strm, .v a, .o (.lst (found.map .str)), .v (.str abc), .v d, x, .no] := rfl
      rw [forL_nx ht e1]
      exact e2
    · rw [f1, List.length_append, List.length_singleton, List.length_cons]; omega
theorem q_names {n : Nat} {many : Nat} {S : Sm} (hm : many ≤ 20) (g : Good (n + many * 2 ^ 65) S) : ∃ (found : List Str) (S' : Sm), m_law_names [.strm, .int many] S = some (strsD found, S') ∧ found.length = many ∧ found.Nodup ∧ (∀ y ∈ found, okN y) ∧ Good n S' := by
  have hl : (rngD 0 many).length = many := by unfold rngD; rw [List.length_map, List.length_range]
  obtain ⟨found, b', x', S', e, f1, f2, f3, f4⟩ := nm_loop (a := .int many) (n := n) (rngD 0 many) [] .no .no S (by rw [hl, List.length_nil]; omega) List.nodup_nil (fun _ h => by cases h) (by rw [hl]; exact g)
  have e : forL (tgN 4) nmBody (rngD 0 many) [.v .strm, .v (.int many), .o (.lst []), .v (.str abc), .no, .no, .no] S = some (.nx, [.v .strm, .v (.int many), .o (.lst (found.map .str)), .v (.str abc), b', x', .no], S') := e
  have hr : rng1F (consA (vE 1) nilA) [.v .strm, .v (.int many), .o (.lst []), .v (.str abc), .no, .no, .no] S = some (rngD 0 many, S) := by
    have h1 := rng_len (E := [.v .strm, .v (.int many), .o (.lst []), .v (.str abc), .no, .no, .no]) (S := S) (S' := S) (f := vE 1) (Int.natCast_nonneg many) (by omega) rfl
    rw [Int.toNat_natCast] at h1
    exact h1
  refine ⟨found, S', run_rt (E' := [.v .strm, .v (.int many), .v (.lst (found.map .str)), .v (.str abc), b', x', .no]) ?_, by rw [f1, hl, List.length_nil, Nat.zero_add], f2, f3, f4⟩
  show g_law_names [.v .strm, .v (.int many), .no, .no, .no, .no, .no] S = _
  have hp : parovS 2 3 (lstE nilA) (cE (.str abc)) [.v .strm, .v (.int many), .no, .no, .no, .no, .no] S = some (.nx, [.v .strm, .v (.int many), .o (.lst []), .v (.str abc), .no, .no, .no], S) := by
    simp [parovS, parG, notTup]
  show (seqS (parovS 2 3 (lstE nilA) (cE (.str abc))) (seqS (forS (rng1F (consA (vE 1) nilA)) (tgN 4) nmBody) (giveQ 2 (retS (vE 2))))) _ S = _
  rw [x_seq, hp]
  simp only []
  rw [x_seq, x_for, hr]
  simp only []
  rw [e]
  rfl
end M


set_option Elab.async false
set_option linter.all false
set_option maxRecDepth 100000
set_option maxHeartbeats 4000000
namespace M
open PySem L2

/-! ### sorting -/
theorem leD_total : PySem.W.TotalLe leD := PySem.W.sortLe_total _ _ _
theorem leD_def {a b : D} : leD a b = !PySem.W.dataLt (toP b) (toP a) := rfl
theorem leD_anti {a b : D} (h1 : leD a b = true) (h2 : leD b a = true) : PySem.W.keyToks (toP a) = PySem.W.keyToks (toP b) := by
  rw [leD_def, Bool.not_eq_true'] at h1 h2
  exact PyProof.Rows.lex_total (O := PyProof.Rows.itemOrd) _ _ h2 h1
theorem perm_eq {α : Type} {le : α → α → Bool} : ∀ {l m : List α}, l.Perm m → l.Pairwise (fun a b => le a b = true) → m.Pairwise (fun a b => le a b = true) → (∀ a ∈ l, ∀ b ∈ l, le a b = true → le b a = true → a = b) → l = m
  | [], m, hp, _, _, _ => by
    have := hp.length_eq
    exact (List.length_eq_zero_iff.mp this.symm).symm
  | a :: l, [], hp, _, _, _ => by
    have := hp.length_eq
    simp at this
  | a :: l, b :: m, hp, h1, h2, hi => by
    have hab : a = b := by
      have hb : b ∈ a :: l := hp.mem_iff.mpr List.mem_cons_self
      have ha : a ∈ b :: m := hp.mem_iff.mp List.mem_cons_self
      rcases List.mem_cons.mp ha with e | ha
      · exact e
      · rcases List.mem_cons.mp hb with e | hb'
        · exact e.symm
        · exact hi a List.mem_cons_self b hb ((List.pairwise_cons.mp h1).1 b hb') ((List.pairwise_cons.mp h2).1 a ha)
    subst hab
    rw [perm_eq (List.Perm.cons_inv hp) (List.pairwise_cons.mp h1).2 (List.pairwise_cons.mp h2).2 fun x hx y hy => hi x (List.mem_cons_of_mem _ hx) y (List.mem_cons_of_mem _ hy)]
theorem sort_perm {l l' : List D} (hp : l'.Perm l) (hs : l.Pairwise (fun a b => leD a b = true)) (hi : ∀ a ∈ l, ∀ b ∈ l, PySem.W.keyToks (toP a) = PySem.W.keyToks (toP b) → a = b) : l'.mergeSort leD = l := by
  refine (perm_eq (le := leD) ((List.mergeSort_perm _ _).trans hp).symm hs (PySem.W.sort_pairwise leD_total _) fun a ha b hb h1 h2 => hi a ha b hb (leD_anti h1 h2)).symm
theorem okPs_of {ds : List D} (h : ∀ d ∈ ds, okP d = true) : okPs ds = true := by
  induction ds with
  | nil => rfl
  | cons d r ih =>
    rw [okPs, h d List.mem_cons_self, ih fun x hx => h x (List.mem_cons_of_mem _ hx)]
    rfl
/-- a kind of data that can be sorted -/
structure Kind (f : D → Prop) : Prop where
  ok : ∀ d, f d → okP d = true
  al : ∀ d e, f d → f e → PySem.W.alike (toP d) (toP e) = true
  sh : (∀ d, f d → tupB d = true) ∨ ∀ d, f d → oneB d = true
  dp : ∀ d, f d → (toP d).depth ≤ 40
theorem sort_kind {f : D → Prop} (k : Kind f) {l : List D} (h : ∀ d ∈ l, f d) : sortN [.lst l] = some (.lst (l.mergeSort leD)) := by
  unfold sortN
  simp only []
  rw [if_pos]
  refine ⟨okPs_of fun d hd => k.ok d (h d hd), ?_, ?_, ?_⟩
  · unfold alikeB
    rw [List.all_eq_true]
    intro a ha
    rw [List.all_eq_true]
    intro b hb
    exact k.al a b (h a ha) (h b hb)
  · rw [Bool.or_eq_true]
    rcases k.sh with s | s
    · left; rw [List.all_eq_true]; exact fun d hd => s d (h d hd)
    · right; rw [List.all_eq_true]; exact fun d hd => s d (h d hd)
  · rw [List.all_eq_true]
    intro d hd
    exact decide_eq_true (k.dp d (h d hd))
def isS (d : D) : Prop := ∃ x, d = .str x
def isSI (d : D) : Prop := ∃ x i, d = .tup [.str x, .int i]
def isSS (d : D) : Prop := ∃ x y, d = .tup [.str x, .str y]
theorem kind_S : Kind isS := by
  refine ⟨?_, ?_, .inr ?_, ?_⟩
  · rintro _ ⟨x, rfl⟩; rfl
  · rintro _ _ ⟨x, rfl⟩ ⟨y, rfl⟩; simp [toP, PySem.W.alike]
  · rintro _ ⟨x, rfl⟩; rfl
  · rintro _ ⟨x, rfl⟩; simp [toP, PyData.depth]
theorem kind_SI : Kind isSI := by
  refine ⟨?_, ?_, .inl ?_, ?_⟩
  · rintro _ ⟨x, i, rfl⟩; rfl
  · rintro _ _ ⟨x, i, rfl⟩ ⟨y, j, rfl⟩; simp [toP, toPs, PySem.W.alike, PySem.W.alikeAll]
  · rintro _ ⟨x, i, rfl⟩; rfl
  · rintro _ ⟨x, i, rfl⟩; simp [toP, toPs, PyData.depth, PyData.depthAll]
theorem kind_SS : Kind isSS := by
  refine ⟨?_, ?_, .inl ?_, ?_⟩
  · rintro _ ⟨x, i, rfl⟩; rfl
  · rintro _ _ ⟨x, i, rfl⟩ ⟨y, j, rfl⟩; simp [toP, toPs, PySem.W.alike, PySem.W.alikeAll]
  · rintro _ ⟨x, i, rfl⟩; rfl
  · rintro _ ⟨x, i, rfl⟩; simp [toP, toPs, PyData.depth, PyData.depthAll]
theorem toks_S {x y : Str} (h : PySem.W.keyToks (toP (.str x)) = PySem.W.keyToks (toP (.str y))) : x = y := by
  simp [toP, PySem.W.keyToks] at h
  exact PySem.W.str_of_cps (by simp [h])
theorem toks_SI {x y : Str} {i j : Int} (h : PySem.W.keyToks (toP (.tup [.str x, .int i])) = PySem.W.keyToks (toP (.tup [.str y, .int j]))) : x = y ∧ i = j := by
  simp [toP, toPs, PySem.W.keyToks, PySem.W.keyToksAll] at h
  exact ⟨PySem.W.str_of_cps (by simp [h]), h.2⟩
theorem toks_SS {x y a b : Str} (h : PySem.W.keyToks (toP (.tup [.str x, .str a])) = PySem.W.keyToks (toP (.tup [.str y, .str b]))) : x = y ∧ a = b := by
  simp [toP, toPs, PySem.W.keyToks, PySem.W.keyToksAll] at h
  exact ⟨PySem.W.str_of_cps (by simp [h]), PySem.W.str_of_cps (by simp [h])⟩
theorem lt_SI {x y : Str} {i j : Int} (h : leD (.str x) (.str y) = true) (hne : x ≠ y) : leD (.tup [.str x, .int i]) (.tup [.str y, .int j]) = true := by
  rw [leD_def] at h ⊢
  simp only [toP, toPs] at h ⊢
  rw [PySem.W.dataLt_pair (by simp [PySem.W.alike]) (by simp [PySem.W.alike])]
  have : PyData.eqv (.str y) (.str x) = false := by
    cases q : PyData.eqv (.str y) (.str x) with
    | false => rfl
    | true => simp [PyData.eqv] at q; exact absurd q.symm hne
  rw [this, if_neg Bool.false_ne_true]
  exact h
end M


set_option Elab.async false
set_option linter.all false
set_option maxRecDepth 100000
set_option maxHeartbeats 4000000
namespace M
open PySem L2

/-! ### a drawn season -/
theorem q_drawN {n m : Nat} {S : Sm} (h : Good (n + 1) S) (hm : 0 < m) (hm2 : m < 1000000) : ∃ (k : Nat) (S' : Sm), m_law_draw [.strm, .int (m : Int)] S = some (.int (k : Int), S') ∧ k < m ∧ Good n S' := by
  obtain ⟨k, S', e, k0, k1, g, _⟩ := q_draw (m := m) h (by omega) (by omega)
  obtain ⟨j, rfl⟩ : ∃ j : Nat, k = j := ⟨k.toNat, by omega⟩
  exact ⟨j, S', e, by omega, g⟩
theorem m_at1 {m : FM} {fa : FE} {E : Ev} {S S1 S2 : Sm} {a d : D} (h1 : fa E S = some (a, S1)) (h3 : m [a] S1 = some (d, S2)) : mE m 1 (consA fa nilA) E S = some (d, S2) := by
  simp only [x_m, x_cons, x_nil, h1]
  exact h3
theorem m_at2 {m : FM} {fa fb : FE} {E : Ev} {S S1 S2 S3 : Sm} {a b d : D} (h1 : fa E S = some (a, S1)) (h2 : fb E S1 = some (b, S2)) (h3 : m [a, b] S2 = some (d, S3)) : mE m 2 (consA fa (consA fb nilA)) E S = some (d, S3) := by
  simp only [x_m, x_cons, x_nil, h1, h2]
  exact h3
theorem m_at3 {m : FM} {fa fb fc : FE} {E : Ev} {S S1 S2 S3 S4 : Sm} {a b c d : D} (h1 : fa E S = some (a, S1)) (h2 : fb E S1 = some (b, S2)) (h4 : fc E S2 = some (c, S3)) (h3 : m [a, b, c] S3 = some (d, S4)) : mE m 3 (consA fa (consA fb (consA fc nilA))) E S = some (d, S4) := by
  simp only [x_m, x_cons, x_nil, h1, h2, h4]
  exact h3
theorem m_at4 {m : FM} {fa fb fc fd : FE} {E : Ev} {S S1 S2 S3 S4 S5 : Sm} {a b c e d : D} (h1 : fa E S = some (a, S1)) (h2 : fb E S1 = some (b, S2)) (h4 : fc E S2 = some (c, S3)) (h5 : fd E S3 = some (e, S4)) (h3 : m [a, b, c, e] S4 = some (d, S5)) : mE m 4 (consA fa (consA fb (consA fc (consA fd nilA)))) E S = some (d, S5) := by
  simp only [x_m, x_cons, x_nil, h1, h2, h4, h5]
  exact h3
theorem call_at1 {o : OpN} {fa : FE} {E : Ev} {S S1 : Sm} {a d : D} (h1 : fa E S = some (a, S1)) (h3 : o [a] = some d) : callE o (consA fa nilA) E S = some (d, S1) := by
  simp only [x_call, x_cons, x_nil, h1, h3]
theorem op_at {o : Op2} {fa fb : FE} {E : Ev} {S S1 S2 : Sm} {a b d : D} (h1 : fa E S = some (a, S1)) (h2 : fb E S1 = some (b, S2)) (h3 : o a b = some d) : opE o fa fb E S = some (d, S2) := by
  simp only [x_op, h1, h2, h3]
theorem sub_at {fa fb : FE} {E : Ev} {S S1 S2 : Sm} {a b d : D} (h1 : fa E S = some (a, S1)) (h2 : fb E S1 = some (b, S2)) (h3 : orO ixD getD a b = some d) : subE fa fb E S = some (d, S2) := op_at h1 h2 h3
theorem in_at {fa fb : FE} {E : Ev} {S S1 S2 : Sm} {a b d : D} (h1 : fa E S = some (a, S1)) (h2 : fb E S1 = some (b, S2)) (h3 : orO (orO inSq inStr) inDD a b = some d) : inE fa fb E S = some (d, S2) := op_at h1 h2 h3
theorem bT_at {f : FE} {E : Ev} {S S1 : Sm} {b : Bool} (h : f E S = some (.bl b, S1)) : bT f E S = some (b, S1) := by
  rw [x_bT, h]
theorem notT_at {f : FT} {E : Ev} {S S1 : Sm} {b : Bool} (h : f E S = some (b, S1)) : notT f E S = some (!b, S1) := by
  rw [x_notT, h]
theorem ifE_t {c : FT} {fa fb : FE} {E : Ev} {S S1 : Sm} (h : c E S = some (true, S1)) : ifE c fa fb E S = fa E S1 := by
  rw [x_if, h]
  rfl
theorem ifE_f {c : FT} {fa fb : FE} {E : Ev} {S S1 : Sm} (h : c E S = some (false, S1)) : ifE c fa fb E S = fb E S1 := by
  rw [x_if, h]
  rfl
theorem ifS_t {c : FT} {g1 g2 : FS} {E : Ev} {S S1 : Sm} (h : c E S = some (true, S1)) : ifS c g1 g2 E S = g1 E S1 := by
  rw [x_ifS, h]
  rfl
theorem ifS_f {c : FT} {g1 g2 : FS} {E : Ev} {S S1 : Sm} (h : c E S = some (false, S1)) : ifS c g1 g2 E S = g2 E S1 := by
  rw [x_ifS, h]
  rfl
theorem orT_f {c c2 : FT} {E : Ev} {S S1 : Sm} (h : c E S = some (false, S1)) : orT c c2 E S = c2 E S1 := by
  rw [x_orT, h]
theorem orT_t {c c2 : FT} {E : Ev} {S S1 : Sm} (h : c E S = some (true, S1)) : orT c c2 E S = some (true, S1) := by
  rw [x_orT, h]
theorem andT_t {c c2 : FT} {E : Ev} {S S1 : Sm} (h : c E S = some (true, S1)) : andT c c2 E S = c2 E S1 := by
  rw [x_andT, h]
theorem andT_f {c c2 : FT} {E : Ev} {S S1 : Sm} (h : c E S = some (false, S1)) : andT c c2 E S = some (false, S1) := by
  rw [x_andT, h]
theorem tup_at2 {fa fb : FE} {E : Ev} {S S1 S2 : Sm} {a b : D} (h1 : fa E S = some (a, S1)) (h2 : fb E S1 = some (b, S2)) : tupE (consA fa (consA fb nilA)) E S = some (.tup [a, b], S2) := by
  simp only [x_tup, x_cons, x_nil, h1, h2]
  rw [if_pos (show [a, b].length ≤ 100000 from (by decide : 2 ≤ 100000))]
theorem tup_at3 {fa fb fc : FE} {E : Ev} {S S1 S2 S3 : Sm} {a b c : D} (h1 : fa E S = some (a, S1)) (h2 : fb E S1 = some (b, S2)) (h3 : fc E S2 = some (c, S3)) : tupE (consA fa (consA fb (consA fc nilA))) E S = some (.tup [a, b, c], S3) := by
  simp only [x_tup, x_cons, x_nil, h1, h2, h3]
  rw [if_pos (show [a, b, c].length ≤ 100000 from (by decide : 3 ≤ 100000))]
theorem v_at {E : Ev} {S : Sm} {i : Nat} {d : D} (h : E[i]? = some (.v d)) : vE i E S = some (d, S) := by
  rw [x_v, h]
theorem lst_at1 {fa : FE} {E : Ev} {S S1 : Sm} {a : D} (h1 : fa E S = some (a, S1)) : lstE (consA fa nilA) E S = some (.lst [a], S1) := by
  simp only [x_lst, x_cons, x_nil, h1]
  rw [if_pos (show [a].length ≤ 100000 from (by decide : 1 ≤ 100000))]
theorem lst_at2 {fa fb : FE} {E : Ev} {S S1 S2 : Sm} {a b : D} (h1 : fa E S = some (a, S1)) (h2 : fb E S1 = some (b, S2)) : lstE (consA fa (consA fb nilA)) E S = some (.lst [a, b], S2) := by
  simp only [x_lst, x_cons, x_nil, h1, h2]
  rw [if_pos (show [a, b].length ≤ 100000 from (by decide : 2 ≤ 100000))]
theorem mk_at2 {C : Addr} {m : FI1} {fa fb : FE} {E : Ev} {S S1 S2 S3 : Sm} {a b : D} {fs : List (Str × D)} (h1 : fa E S = some (a, S1)) (h2 : fb E S1 = some (b, S2)) (h3 : m [a, b] S2 = some (fs, S3)) : mkE C m 2 (consA fa (consA fb nilA)) E S = some (.ins C fs, S3) := by
  unfold mkE
  simp only [x_cons, x_nil, h1, h2]
  rw [if_pos (show [a, b].length = 2 from rfl)]
  simp only [h3]
theorem lce_at {fi : FI} {tg : TgD} {c : FT} {f : FE} {own : List Nat} {E E1 : Ev} {S S1 S2 : Sm} {items xs : List D} (h1 : fi E S = some (items, S1)) (h2 : items.length ≤ 1000000) (h3 : noOwn E own = true) (h4 : wipeE E own = E1) (h5 : lcL tg c f items E1 S1 = some (xs, S2)) : lcE fi tg c f own E S = some (.lst xs, S2) := by
  rw [x_lc, h1]
  simp only []
  rw [if_pos ⟨h2, h3⟩, h4, h5]
theorem ret_at {f : FE} {E : Ev} {S S1 : Sm} {d : D} (h : f E S = some (d, S1)) : retS f E S = some (.rt d, E, S1) := by
  rw [x_ret, h]
theorem if_at {c : FT} {g1 g2 : FS} {E E2 : Ev} {S S1 S2 : Sm} {b : Bool} {o : Out} (h : c E S = some (b, S1)) (h2 : (if b then g1 E S1 else g2 E S1) = some (o, E2, S2)) : ifS c g1 g2 E S = some (o, E2, S2) := by
  rw [x_ifS, h]
  exact h2
theorem sl_at {f : FE} {fl fh : FO} {E : Ev} {S S1 S2 S3 : Sm} {d x : D} {lo hi : Option Int} (h1 : f E S = some (d, S1)) (h2 : fl E S1 = some (lo, S2)) (h3 : fh E S2 = some (hi, S3)) (h4 : slD d lo hi = some x) : slE f fl fh E S = some (x, S3) := by
  unfold slE
  simp only [h1, h2, h3, h4]
theorem some_at {f : FE} {E : Ev} {S S1 : Sm} {i : Int} (h : f E S = some (.int i, S1)) : someO f E S = some (some i, S1) := by
  unfold someO
  simp only [h]
theorem no_at {E : Ev} {S : Sm} : noO E S = some (none, S) := rfl
theorem take_lst {ys : List D} {k : Nat} : slD (.lst ys) none (some (k : Int)) = some (.lst (ys.take k)) := by
  unfold slD cutG
  simp only [HT.sIx_none, HT.sIx_nat, List.drop_zero, Nat.sub_zero]
  congr 2
  rw [List.take_eq_take_iff]
  omega
theorem len_strD {zs : List Str} : (zs.map D.str).length = zs.length := List.length_map _
def ltS' (a b : Str) : Prop := a.cps.toList < b.cps.toList
theorem lt_or {a b : Str} (h : a ≠ b) : (a.cps.toList < b.cps.toList ∧ ¬ b.cps.toList < a.cps.toList) ∨ (b.cps.toList < a.cps.toList ∧ ¬ a.cps.toList < b.cps.toList) := by
  by_cases h1 : a.cps.toList < b.cps.toList
  · exact .inl ⟨h1, fun h2 => List.lt_irrefl _ (List.lt_trans h1 h2)⟩
  · by_cases h2 : b.cps.toList < a.cps.toList
    · exact .inr ⟨h2, h1⟩
    · exact absurd (PySem.W.str_of_cps (List.le_antisymm (List.not_lt.mp h2) (List.not_lt.mp h1))) h
theorem mm_lt {x y : Str} (h : x.cps.toList < y.cps.toList) : minS x [y] = x ∧ minS y [x] = x ∧ maxS x [y] = y ∧ maxS y [x] = y := by
  have h2 : ¬ y.cps.toList < x.cps.toList := fun h2 => List.lt_irrefl _ (List.lt_trans h h2)
  refine ⟨?_, ?_, ?_, ?_⟩
  · show (if _ then _ else _) = _
    rw [if_neg h2]
  · show (if _ then _ else _) = _
    rw [if_pos h]
  · show (if _ then _ else _) = _
    rw [if_pos h]
  · show (if _ then _ else _) = _
    rw [if_neg h2]
theorem best_pair {gi : Int → List Int → Int} {gs : Str → List Str → Str} {a b : Str} {d : D} (h : Pr (.str a) (.str b) d) : bestN gi gs [d] = some (.str (gs a [b])) := by
  rcases h with rfl | rfl <;> rfl
theorem perm_strs {ys : List D} {zs : List Str} (h : ys.Perm (zs.map D.str)) : ∃ us : List Str, ys = us.map D.str ∧ us.Perm zs := by
  have hm : ∀ y ∈ ys, ∃ u, y = D.str u := fun y hy => by
    obtain ⟨u, _, rfl⟩ := List.mem_map.mp (h.mem_iff.mp hy)
    exact ⟨u, rfl⟩
  have : ∃ us : List Str, ys = us.map D.str := by
    clear h
    induction ys with
    | nil => exact ⟨[], rfl⟩
    | cons y ys ih =>
      obtain ⟨u, rfl⟩ := hm y List.mem_cons_self
      obtain ⟨us, rfl⟩ := ih fun y hy => hm y (List.mem_cons_of_mem _ hy)
      exact ⟨u :: us, rfl⟩
  obtain ⟨us, rfl⟩ := this
  refine ⟨us, rfl, ?_⟩
  have := h.map (fun d : D => match d with | .str x => x | _ => "")
  simpa [Function.comp_def] using this
theorem q_mixS {n : Nat} {S : Sm} {zs : List Str} (h : Good (n + zs.length) S) (h1 : zs.length < 1000000) : ∃ (us : List Str) (S' : Sm), m_law_mixed [.strm, .lst (zs.map D.str)] S = some (.lst (us.map D.str), S') ∧ us.Perm zs ∧ Good n S' := by
  obtain ⟨ys, S', e, p, g⟩ := q_mixed (n := n) (xs := zs.map D.str) (by rw [len_strD]; exact h) (by rw [len_strD]; exact h1)
  obtain ⟨us, rfl, p2⟩ := perm_strs p
  exact ⟨us, S', e, p2, g⟩
/-- two unlike ones of a list -/
theorem two_of {us zs : List Str} (p : us.Perm zs) (hn : zs.Nodup) (h2 : 2 ≤ zs.length) : ∃ a b r, us = a :: b :: r ∧ a ∈ zs ∧ b ∈ zs ∧ a ≠ b := by
  have hl := p.length_eq
  match us, hl with
  | [], hl => simp at hl; omega
  | [a], hl => simp at hl; omega
  | a :: b :: r, _ =>
    have hn2 := p.nodup_iff.mpr hn
    refine ⟨a, b, r, rfl, p.mem_iff.mp List.mem_cons_self, p.mem_iff.mp (by simp), fun e => ?_⟩
    subst e
    simp at hn2
noncomputable def pairG : FS := setS 10 (slE (mE m_law_mixed 2 (consA (vE 0) (consA (ifE (andT (bT (opE gtI (callE lenN (consA (vE 8) nilA)) (cE (.int 1)))) (bT (opE eqA (mE m_law_draw 2 (consA (vE 0) (consA (cE (.int 2)) nilA))) (cE (.int 0))))) (vE 8) (vE 3)) nilA))) noO (someO (cE (.int 2))))
theorem pair_ok {n : Nat} {S : Sm} {d1 d2 d4 d6 : D} {o b7 b9 b10 : Sl} {names few : List Str} (hn : names.Nodup) (h2 : 2 ≤ names.length) (hl : names.length ≤ 20) (fn : few.Nodup) (fm : ∀ x ∈ few, x ∈ names) (g : Good (n + 21) S) :
    ∃ a b S', pairG [.v .strm, .v d1, .v d2, .v (strsD names), .v d4, o, .v d6, b7, .v (strsD few), b9, b10] S = some (.nx, [.v .strm, .v d1, .v d2, .v (strsD names), .v d4, o, .v d6, b7, .v (strsD few), b9, .v (.lst [.str a, .str b])], S') ∧ a ∈ names ∧ b ∈ names ∧ a ≠ b ∧ Good n S' := by
  have fl : few.length ≤ names.length := nodup_sub fn fm
  have t2 : ∀ r : List D, slD (.lst r) none (some 2) = some (.lst (r.take 2)) := fun r => take_lst (k := 2)
  have byN : ∀ {S : Sm}, Good (n + 20) S → ∃ a b r S', m_law_mixed [.strm, .lst (names.map D.str)] S = some (.lst (D.str a :: D.str b :: r), S') ∧ a ∈ names ∧ b ∈ names ∧ a ≠ b ∧ Good n S' := fun {S} g => by
    obtain ⟨us, S', e, p, g'⟩ := q_mixS (n := n) (zs := names) (g.mono (by omega)) (by omega)
    obtain ⟨a, b, r, rfl, ha, hb, hne⟩ := two_of p hn h2
    exact ⟨a, b, _, S', e, ha, hb, hne, g'⟩
  by_cases hf : 1 < few.length
  · obtain ⟨k, S1, e1, hk, g1⟩ := q_drawN (n := n + 20) (m := 2) g (by decide) (by decide)
    have e1 : m_law_draw [.strm, .int 2] S = some (.int k, S1) := e1
    have hf' : (1 : Int) < few.length := by omega
    by_cases hk0 : k = 0
    · obtain ⟨us, S2, e2, p, g2⟩ := q_mixS (n := n) (zs := few) (g1.mono (by omega)) (by omega)
      obtain ⟨a, b, r, rfl, ha, hb, hne⟩ := two_of p fn (by omega)
      refine ⟨a, b, S2, ?_, fm a ha, fm b hb, hne, g2⟩
      subst hk0
      have e1 : m_law_draw [.strm, .int 2] S = some (.int 0, S1) := e1
      have e2 : m_law_mixed [.strm, .lst (few.map D.str)] S1 = some (.lst (D.str a :: D.str b :: r.map D.str), S2) := e2
      simp [pairG, strsD, hf', e1, e2, slE, noO, someO, t2]
    · obtain ⟨a, b, r, S2, e2, ha, hb, hne, g2⟩ := byN g1
      refine ⟨a, b, S2, ?_, ha, hb, hne, g2⟩
      simp [pairG, strsD, hf', e1, hk0, e2, slE, noO, someO, t2]
  · have hf' : ¬ (1 : Int) < few.length := by omega
    obtain ⟨a, b, r, S2, e2, ha, hb, hne, g2⟩ := byN (g.mono (by omega))
    refine ⟨a, b, S2, ?_, ha, hb, hne, g2⟩
    simp [pairG, strsD, hf', e2, slE, noO, someO, t2]
noncomputable def gameB : FS := appS 5 (tupE (consA (callE (bestN minZ minS) (consA (vE 10) nilA)) (consA (callE (bestN maxZ maxS) (consA (vE 10) nilA)) nilA)))
def okG (names : List Str) (g : Games) : Prop := ∀ x ∈ g, x.1 ∈ names ∧ x.2 ∈ names ∧ x.1.cps.toList < x.2.cps.toList
theorem game_one {n : Nat} {S : Sm} {d1 d2 d4 d6 : D} {b7 b9 b10 : Sl} {names few : List Str} {g : Games} (hn : names.Nodup) (h2 : 2 ≤ names.length) (hl : names.length ≤ 20) (fn : few.Nodup) (fm : ∀ x ∈ few, x ∈ names) (hg : okG names g) (gl : g.length < 1000) (gd : Good (n + 21) S) :
    ∃ x d S', seqS pairG gameB [.v .strm, .v d1, .v d2, .v (strsD names), .v d4, .o (gamesD g), .v d6, b7, .v (strsD few), b9, b10] S = some (.nx, [.v .strm, .v d1, .v d2, .v (strsD names), .v d4, .o (gamesD (g ++ [x])), .v d6, b7, .v (strsD few), b9, .v d], S') ∧ okG names (g ++ [x]) ∧ Good n S' := by
  obtain ⟨a, b, S', e, ha, hb, hne, g'⟩ := pair_ok (d1 := d1) (d2 := d2) (d4 := d4) (d6 := d6) (o := .o (gamesD g)) (b7 := b7) (b9 := b9) (b10 := b10) hn h2 hl fn fm gd
  have hb1 : bestN minZ minS [.lst [.str a, .str b]] = some (.str (minS a [b])) := best_pair (.inl rfl)
  have hb2 : bestN maxZ maxS [.lst [.str a, .str b]] = some (.str (maxS a [b])) := best_pair (.inl rfl)
  have hlen : (g.map gameD).length < 1000000 := by rw [List.length_map]; omega
  have key : ∀ x : Str × Str, minS a [b] = x.1 → maxS a [b] = x.2 → okG names (g ++ [x]) → ∃ x d S', seqS pairG gameB [.v .strm, .v d1, .v d2, .v (strsD names), .v d4, .o (gamesD g), .v d6, b7, .v (strsD few), b9, b10] S = some (.nx, [.v .strm, .v d1, .v d2, .v (strsD names), .v d4, .o (gamesD (g ++ [x])), .v d6, b7, .v (strsD few), b9, .v d], S') ∧ okG names (g ++ [x]) ∧ Good n S' := fun x q1 q2 ok => by
    refine ⟨x, .lst [.str a, .str b], S', ?_, ok, g'⟩
    rw [seq_nx e]
    unfold gameB appS gamesD
    simp only [List.getElem?_cons_succ, List.getElem?_cons_zero, x_tup, x_cons, x_call, x_v, x_nil, hb1, hb2, q1, q2]
    rw [if_pos (show [D.str x.1, D.str x.2].length ≤ 100000 from (by decide : 2 ≤ 100000))]
    simp only []
    rw [if_pos hlen, List.map_append]
    rfl
  rcases lt_or hne with ⟨q, _⟩ | ⟨q, _⟩
  · obtain ⟨m1, _, m3, _⟩ := mm_lt q
    refine key (a, b) m1 m3 fun x hx => ?_
    rcases List.mem_append.mp hx with hx | hx
    · exact hg x hx
    · rw [List.mem_singleton] at hx; subst hx; exact ⟨ha, hb, q⟩
  · obtain ⟨_, m2, _, m4⟩ := mm_lt q
    refine key (b, a) m2 m4 fun x hx => ?_
    rcases List.mem_append.mp hx with hx | hx
    · exact hg x hx
    · rw [List.mem_singleton] at hx; subst hx; exact ⟨hb, ha, q⟩
theorem games_loop {n : Nat} {d1 d2 d4 d6 : D} {b7 : Sl} {names few : List Str} (hn : names.Nodup) (h2 : 2 ≤ names.length) (hl : names.length ≤ 20) (fn : few.Nodup) (fm : ∀ x ∈ few, x ∈ names) : ∀ (items : List D) (g : Games) (b9 b10 : Sl) (S : Sm), okG names g → g.length + items.length ≤ 200 → Good (n + items.length * 21) S →
    ∃ g' b9' b10' S', forL (tgN 9) (seqS pairG gameB) items [.v .strm, .v d1, .v d2, .v (strsD names), .v d4, .o (gamesD g), .v d6, b7, .v (strsD few), b9, b10] S = some (.nx, [.v .strm, .v d1, .v d2, .v (strsD names), .v d4, .o (gamesD g'), .v d6, b7, .v (strsD few), b9', b10'], S') ∧ okG names g' ∧ g'.length = g.length + items.length ∧ Good n S'
  | [], g, b9, b10, S, hg, _, gd => ⟨g, b9, b10, S, rfl, hg, rfl, gd.mono (by omega)⟩
  | d :: items, g, b9, b10, S, hg, hlen, gd => by
    rw [List.length_cons] at hlen gd
    obtain ⟨x, d', S1, e1, hg1, gd1⟩ := game_one (n := n + items.length * 21) (d1 := d1) (d2 := d2) (d4 := d4) (d6 := d6) (b7 := b7) (b9 := .v d) (b10 := b10) hn h2 hl fn fm hg (by omega) (gd.mono (by omega))
    obtain ⟨g', b9', b10', S', e2, h3, h4, h5⟩ := games_loop (n := n) (d1 := d1) (d2 := d2) (d4 := d4) (d6 := d6) (b7 := b7) hn h2 hl fn fm items (g ++ [x]) (.v d) (.v d') S1 hg1 (by rw [List.length_append, List.length_singleton]; omega) gd1
    refine ⟨g', b9', b10', S', ?_, h3, by rw [h4, List.length_append, List.length_singleton, List.length_cons]; omega, h5⟩
    have ht : tgN 9 d [.v .strm, .v d1, .v d2, .v (strsD names), .v d4, .o (gamesD g), .v d6, b7, .v (strsD few), b9, b10] = some [.v .strm, .v d1, .v d2, .v (strsD names), .v d4, .o (gamesD g), .v d6, b7, .v (strsD few), .v d, b10] := rfl
    rw [forL_nx ht e1]
    exact e2
end M


set_option Elab.async false
set_option linter.all false
set_option maxRecDepth 100000
set_option maxHeartbeats 4000000
namespace M
open PySem L2

structure Sea (w : Wins) (g : Games) : Prop where
  wf : Wf w g
  ne : w ≠ []
  asc : (w.map fun p => D.str p.1).Pairwise (fun a b => leD a b = true)
  nm : ∀ p ∈ w, okN p.1
  val : ∀ p ∈ w, 0 ≤ p.2 ∧ p.2 ≤ 9000
  gs : (g.map gameD).Pairwise (fun a b => leD a b = true)
  gm : ∀ x ∈ g, x.1.cps.toList < x.2.cps.toList
theorem lst_at3 {fa fb fc : FE} {E : Ev} {S S1 S2 S3 : Sm} {a b c : D} (h1 : fa E S = some (a, S1)) (h2 : fb E S1 = some (b, S2)) (h3 : fc E S2 = some (c, S3)) : lstE (consA fa (consA fb (consA fc nilA))) E S = some (.lst [a, b, c], S3) := by
  simp only [x_lst, x_cons, x_nil, h1, h2, h3]
  rw [if_pos (show [a, b, c].length ≤ 100000 from (by decide : 3 ≤ 100000))]
noncomputable def sNames : FE := callE sortN (consA (mE m_law_names 2 (consA (vE 0) (consA (mE m_law_pick 2 (consA (vE 0) (consA (lstE (consA (vE 1) (consA (vE 1) (consA (opE addA (cE (.int 1)) (mE m_law_draw 2 (consA (vE 0) (consA (vE 1) nilA)))) nilA)))) nilA))) nilA))) nilA)
theorem names_ok {n teams : Nat} {d2 : D} {r : Ev} {S : Sm} (h0 : 0 < teams) (h1 : teams ≤ 20) (g : Good (n + 2 ^ 70) S) : ∃ names S', sNames (.v .strm :: .v (.int (teams : Int)) :: .v d2 :: r) S = some (strsD names, S') ∧ names.Nodup ∧ (∀ y ∈ names, okN y) ∧ (names.map D.str).Pairwise (fun a b => leD a b = true) ∧ 0 < names.length ∧ names.length ≤ teams ∧ Good n S' := by
  obtain ⟨k, S1, e1, hk, g1⟩ := q_drawN (n := n + 20 * 2 ^ 65 + 1) (m := teams) (g.mono (by omega)) h0 (by omega)
  obtain ⟨d, S0, e0, hd, g0⟩ := q_pick (xs := [.int teams, .int teams, .int (1 + (k : Int))]) (n := n + 20 * 2 ^ 65) g1 (by simp) (by show 3 < 1000000; decide)
  obtain ⟨many, rfl, hm0, hm1⟩ : ∃ i : Nat, d = .int (i : Int) ∧ 0 < i ∧ i ≤ teams := by
    simp at hd
    rcases hd with rfl | rfl
    · exact ⟨teams, rfl, h0, Nat.le_refl _⟩
    · exact ⟨1 + k, by congr 1, by omega, by omega⟩
  obtain ⟨found, S2, e2, f1, f2, f3, g2⟩ := q_names (n := n) (many := many) (S := S0) (by omega) (g0.mono (by
    have : many * 2 ^ 65 ≤ 20 * 2 ^ 65 := Nat.mul_le_mul_right _ (by omega)
    omega))
  have hs : sortN [strsD found] = some (.lst ((found.map D.str).mergeSort leD)) := sort_kind kind_S fun d hd => by
    obtain ⟨x, _, rfl⟩ := List.mem_map.mp hd
    exact ⟨x, rfl⟩
  obtain ⟨names, hn, hp⟩ := perm_strs (List.mergeSort_perm (found.map D.str) leD)
  have hpw := PySem.W.sort_pairwise leD_total (found.map D.str)
  rw [hn] at hs hpw
  refine ⟨names, S2, ?_, hp.nodup_iff.mpr f2, fun y hy => f3 y (hp.mem_iff.mp hy), hpw, by rw [hp.length_eq, f1]; omega, by rw [hp.length_eq, f1]; omega, g2⟩
  have c1 : lstE (consA (vE 1) (consA (vE 1) (consA (opE addA (cE (.int 1)) (mE m_law_draw 2 (consA (vE 0) (consA (vE 1) nilA)))) nilA))) (.v .strm :: .v (.int (teams : Int)) :: .v d2 :: r) S = some (.lst [.int teams, .int teams, .int (1 + (k : Int))], S1) :=
    lst_at3 (v_at rfl) (v_at rfl) (op_at rfl (m_at2 (v_at rfl) (v_at rfl) e1) add_int)
  exact call_at1 (m_at2 (v_at rfl) (m_at2 (v_at rfl) c1 e0) e2) hs
noncomputable def sRows : FE := lcE (itF (vE 3)) (tgN 7) yesT (tupE (consA (vE 7) (consA (opE addA (mE m_law_draw 2 (consA (vE 0) (consA (vE 4) nilA))) (opE mulA (cE (.int 2)) (callE intN (consA (opE eqA (mE m_law_draw 2 (consA (vE 0) (consA (cE (.int 6)) nilA))) (cE (.int 0))) nilA)))) nilA))) [7]
def rowD (p : Str × Int) : D := .tup [.str p.1, .int p.2]
theorem rows_of {names : List Str} {ys : List D} (p : Paired (fun d y => ∃ t i, d = D.str t ∧ y = D.tup [.str t, .int i] ∧ 0 ≤ i ∧ i ≤ 1000) (names.map D.str) ys) : ∃ w : Wins, ys = w.map rowD ∧ w.map (·.1) = names ∧ ∀ q ∈ w, 0 ≤ q.2 ∧ q.2 ≤ 1000 := by
  induction names generalizing ys with
  | nil => cases p; exact ⟨[], rfl, rfl, fun _ h => by cases h⟩
  | cons x names ih =>
    cases p with
    | cons r p =>
      obtain ⟨t, i, h1, rfl, h2, h3⟩ := r
      cases h1
      obtain ⟨w, rfl, hw, hv⟩ := ih p
      refine ⟨(x, i) :: w, rfl, by rw [List.map_cons, hw], fun q hq => ?_⟩
      rcases List.mem_cons.mp hq with rfl | hq
      · exact ⟨h2, h3⟩
      · exact hv q hq
theorem rows_ok {n wide : Nat} {d1 d2 : D} {o b6 b8 b9 b10 : Sl} {names : List Str} {S : Sm} (hl : names.length ≤ 20) (h0 : 0 < wide) (h1 : wide ≤ 9) (g : Good (n + 40) S) : ∃ (w : Wins) (S' : Sm), sRows [.v .strm, .v d1, .v d2, .v (strsD names), .v (.int (wide : Int)), o, b6, .no, b8, b9, b10] S = some (.lst (w.map rowD), S') ∧ w.map (·.1) = names ∧ (∀ q ∈ w, 0 ≤ q.2 ∧ q.2 ≤ 1000) ∧ Good n S' := by
  obtain ⟨ys, S', e, p, g'⟩ := lc_run (i := 7) (c := 2) (E := [.v .strm, .v d1, .v d2, .v (strsD names), .v (.int (wide : Int)), o, b6, .no, b8, b9, b10]) (fe := tupE (consA (vE 7) (consA (opE addA (mE m_law_draw 2 (consA (vE 0) (consA (vE 4) nilA))) (opE mulA (cE (.int 2)) (callE intN (consA (opE eqA (mE m_law_draw 2 (consA (vE 0) (consA (cE (.int 6)) nilA))) (cE (.int 0))) nilA)))) nilA))) (R := fun d y => ∃ t i, d = D.str t ∧ y = D.tup [.str t, .int i] ∧ 0 ≤ i ∧ i ≤ 1000) (show 7 < 11 by decide) (items := names.map D.str) (fun d hd m S g => by
    obtain ⟨t, _, rfl⟩ := List.mem_map.mp hd
    obtain ⟨k, S1, e1, hk, g1⟩ := q_drawN (n := m + 1) (m := wide) g h0 (by omega)
    obtain ⟨j, S2, e2, hj, g2⟩ := q_drawN (n := m) (m := 6) g1 (by decide) (by decide)
    have e2 : m_law_draw [.strm, .int 6] S1 = some (.int j, S2) := e2
    have hm : ∀ i : Int, mulA (.int 2) (.int i) = some (.int (2 * i)) := fun i => mul_int (.inl (by decide))
    refine ⟨_, S2, by simp [e1, e2, hm]; rfl, ⟨t, _, rfl, rfl, ?_, ?_⟩, g2⟩
    · split <;> omega
    · split <;> omega) n S .no (g.mono (by rw [len_strD]; omega))
  obtain ⟨w, rfl, h2, h3⟩ := rows_of p
  refine ⟨w, S', ?_, h2, h3, g'⟩
  have e : lcL (tgN 7) yesT _ (names.map D.str) [.v .strm, .v d1, .v d2, .v (strsD names), .v (.int (wide : Int)), o, b6, .no, b8, b9, b10] S = some (w.map rowD, S') := e
  have hle : (names.map D.str).length ≤ 1000000 := by rw [len_strD]; omega
  unfold sRows
  rw [x_lc]
  have hi : itF (vE 3) [.v .strm, .v d1, .v d2, .v (strsD names), .v (.int (wide : Int)), o, b6, .no, b8, b9, b10] S = some (names.map D.str, S) := rfl
  rw [hi]
  simp only []
  rw [if_pos ⟨hle, rfl⟩]
  have hw : wipeE [.v .strm, .v d1, .v d2, .v (strsD names), .v (.int (wide : Int)), o, b6, .no, b8, b9, b10] [7] = [.v .strm, .v d1, .v d2, .v (strsD names), .v (.int (wide : Int)), o, b6, .no, b8, b9, b10] := rfl
  rw [hw, e]
theorem perm_games {ys : List D} {g : Games} (h : ys.Perm (g.map gameD)) : ∃ g' : Games, ys = g'.map gameD ∧ g'.Perm g := by
  have hm : ∀ y ∈ ys, ∃ u, y = gameD u := fun y hy => by
    obtain ⟨u, _, rfl⟩ := List.mem_map.mp (h.mem_iff.mp hy)
    exact ⟨u, rfl⟩
  have : ∃ us : Games, ys = us.map gameD := by
    clear h
    induction ys with
    | nil => exact ⟨[], rfl⟩
    | cons y ys ih =>
      obtain ⟨u, rfl⟩ := hm y List.mem_cons_self
      obtain ⟨us, rfl⟩ := ih fun y hy => hm y (List.mem_cons_of_mem _ hy)
      exact ⟨u :: us, rfl⟩
  obtain ⟨us, rfl⟩ := this
  refine ⟨us, rfl, ?_⟩
  have := h.map (fun d : D => match d with | .tup [.str x, .str y] => (x, y) | _ => ("", ""))
  simpa [Function.comp_def, gameD] using this
theorem sort_games (g : Games) : ∃ g' : Games, sortN [gamesD g] = some (gamesD g') ∧ g'.Perm g ∧ (g'.map gameD).Pairwise (fun a b => leD a b = true) := by
  have hs : sortN [gamesD g] = some (.lst ((g.map gameD).mergeSort leD)) := sort_kind kind_SS fun d hd => by
    obtain ⟨x, _, rfl⟩ := List.mem_map.mp hd
    exact ⟨x.1, x.2, rfl⟩
  obtain ⟨g', hn, hp⟩ := perm_games (List.mergeSort_perm (g.map gameD) leD)
  have hpw := PySem.W.sort_pairwise leD_total (g.map gameD)
  rw [hn] at hs hpw
  exact ⟨g', hs, hp, hpw⟩
theorem hasW_of {w : Wins} {t : Str} (h : t ∈ w.map (·.1)) : hasW w t = true := by
  obtain ⟨p, hp, rfl⟩ := List.mem_map.mp h
  unfold hasW valW
  cases q : w.find? fun x => decide (x.1 = p.1) with
  | some _ => rfl
  | none =>
    rw [List.find?_eq_none] at q
    exact absurd (by simp) (q p hp)
theorem season_eq : g_law_season = (seqS (setS 3 sNames) (seqS (parvoS 4 5 (mE m_law_pick 2 (consA (vE 0) (consA (lstE (consA (cE (.int 1)) (consA (cE (.int 3)) (consA (cE (.int 9)) nilA)))) nilA))) (lstE nilA)) (seqS (setS 6 (callE dictN (consA sRows nilA))) (seqS (setS 8 (slE (mE m_law_mixed 2 (consA (vE 0) (consA (vE 3) nilA))) noO (someO (opE addA (cE (.int 2)) (mE m_law_draw 2 (consA (vE 0) (consA (cE (.int 3)) nilA))))))) (seqS (forS (rng1F (consA (ifE (bT (opE gtI (callE lenN (consA (vE 3) nilA)) (cE (.int 1)))) (mE m_law_pick 2 (consA (vE 0) (consA (lstE (consA (vE 2) (consA (vE 2) (consA (mE m_law_draw 2 (consA (vE 0) (consA (opE addA (vE 2) (cE (.int 1))) nilA))) nilA)))) nilA))) (cE (.int 0))) nilA)) (tgN 9) (seqS pairG gameB)) (giveQ 5 (retS (tupE (consA (vE 6) (consA (callE sortN (consA (vE 5) nilA)) nilA)))))))))) := rfl
theorem q_season {n teams games : Nat} {S : Sm} (h0 : 0 < teams) (h1 : teams ≤ 20) (h2 : games ≤ 120) (g : Good (n + 2 ^ 71) S) : ∃ w gm S', m_law_season [.strm, .int (teams : Int), .int (games : Int)] S = some (seaT w gm, S') ∧ Sea w gm ∧ w.length ≤ teams ∧ gm.length ≤ games ∧ (∀ p ∈ w, p.2 ≤ 1000) ∧ Good n S' := by
  obtain ⟨names, S1, e1, n1, n2, n3, n4, n5, g1⟩ := names_ok (n := n + 5000) (teams := teams) (d2 := .int (games : Int)) (r := [.no, .no, .no, .no, .no, .no, .no, .no]) h0 h1 (g.mono (by omega))
  obtain ⟨d, S2, e2, hd, g2⟩ := q_pick (xs := [.int 1, .int 3, .int 9]) (n := n + 4999) (g1.mono (by omega)) (by simp) (by show 3 < 1000000; decide)
  obtain ⟨wide, rfl, w0, w9⟩ : ∃ i : Nat, d = .int (i : Int) ∧ 0 < i ∧ i ≤ 9 := by
    simp at hd
    rcases hd with rfl | rfl | rfl
    · exact ⟨1, rfl, by decide, by decide⟩
    · exact ⟨3, rfl, by decide, by decide⟩
    · exact ⟨9, rfl, by decide, by decide⟩
  obtain ⟨w, S3, e3, w1, w2, g3⟩ := rows_ok (n := n + 4900) (wide := wide) (d1 := .int (teams : Int)) (d2 := .int (games : Int)) (o := .o (.lst [])) (b6 := .no) (b8 := .no) (b9 := .no) (b10 := .no) (names := names) (by omega) w0 w9 (g2.mono (by omega))
  have hnd : NdW w := by unfold NdW; rw [w1]; exact n1
  have e3' : dictN [.lst (w.map rowD)] = some (winD w) := dict_win hnd
  obtain ⟨us, S4, e4, p4, g4⟩ := q_mixS (n := n + 4800) (zs := names) (S := S3) (g3.mono (by omega)) (by omega)
  obtain ⟨k5, S5, e5, hk5, g5⟩ := q_drawN (n := n + 4700) (m := 3) (g4.mono (by omega)) (by decide) (by decide)
  have e5 : m_law_draw [.strm, .int 3] S4 = some (.int k5, S5) := e5
  have t5 : slD (.lst (us.map D.str)) none (some (2 + (k5 : Int))) = some (strsD (us.take (2 + k5))) := by
    have := take_lst (ys := us.map D.str) (k := 2 + k5)
    rw [show (((2 + k5 : Nat)) : Int) = 2 + (k5 : Int) by omega] at this
    rw [this, strsD, List.map_take]
  have fn : (us.take (2 + k5)).Nodup := (List.take_sublist _ _).nodup (p4.nodup_iff.mpr n1)
  have fm : ∀ x ∈ us.take (2 + k5), x ∈ names := fun x hx => p4.mem_iff.mp (List.mem_of_mem_take hx)
  -- the games
  have hgm : ∃ gm b9 b10 S6, (forS (rng1F (consA (ifE (bT (opE gtI (callE lenN (consA (vE 3) nilA)) (cE (.int 1)))) (mE m_law_pick 2 (consA (vE 0) (consA (lstE (consA (vE 2) (consA (vE 2) (consA (mE m_law_draw 2 (consA (vE 0) (consA (opE addA (vE 2) (cE (.int 1))) nilA))) nilA)))) nilA))) (cE (.int 0))) nilA)) (tgN 9) (seqS pairG gameB)) [.v .strm, .v (.int teams), .v (.int games), .v (strsD names), .v (.int wide), .o (.lst []), .v (winD w), .no, .v (strsD (us.take (2 + k5))), .no, .no] S5 = some (.nx, [.v .strm, .v (.int teams), .v (.int games), .v (strsD names), .v (.int wide), .o (gamesD gm), .v (winD w), .no, .v (strsD (us.take (2 + k5))), b9, b10], S6) ∧ okG names gm ∧ gm.length ≤ games ∧ Good n S6 := by
    by_cases hlen : 1 < names.length
    · have hlen' : (1 : Int) < names.length := by omega
      obtain ⟨k5', S5', e5', hk5', g5'⟩ := q_drawN (n := n + 120 * 21 + 1) (m := games + 1) (S := S5) (g5.mono (by omega)) (by omega) (by omega)
      obtain ⟨dm, S6, e6, hd6, g6⟩ := q_pick (xs := [.int games, .int games, .int (k5' : Int)]) (n := n + 120 * 21) g5' (by simp) (by show 3 < 1000000; decide)
      obtain ⟨k6, rfl, hk6⟩ : ∃ i : Nat, dm = .int (i : Int) ∧ i < games + 1 := by
        simp at hd6
        rcases hd6 with rfl | rfl
        · exact ⟨games, rfl, by omega⟩
        · exact ⟨k5', rfl, hk5'⟩
      obtain ⟨gm, b9, b10, S7, e7, h7, l7, g7⟩ := games_loop (n := n) (d1 := .int teams) (d2 := .int games) (d4 := .int wide) (d6 := winD w) (b7 := .no) n1 hlen (by omega) fn fm (rngD 0 k6) [] .no .no S6 (fun _ h => by cases h) (by unfold rngD; simp; omega) (g6.mono (by unfold rngD; simp; omega))
      refine ⟨gm, b9, b10, S7, ?_, h7, by rw [l7]; unfold rngD; simp; omega, g7⟩
      have hr : rng1F (consA (ifE (bT (opE gtI (callE lenN (consA (vE 3) nilA)) (cE (.int 1)))) (mE m_law_pick 2 (consA (vE 0) (consA (lstE (consA (vE 2) (consA (vE 2) (consA (mE m_law_draw 2 (consA (vE 0) (consA (opE addA (vE 2) (cE (.int 1))) nilA))) nilA)))) nilA))) (cE (.int 0))) nilA) [.v .strm, .v (.int teams), .v (.int games), .v (strsD names), .v (.int wide), .o (.lst []), .v (winD w), .no, .v (strsD (us.take (2 + k5))), .no, .no] S5 = some (rngD 0 k6, S6) := by
        have h1 := rng_len (f := (ifE (bT (opE gtI (callE lenN (consA (vE 3) nilA)) (cE (.int 1)))) (mE m_law_pick 2 (consA (vE 0) (consA (lstE (consA (vE 2) (consA (vE 2) (consA (mE m_law_draw 2 (consA (vE 0) (consA (opE addA (vE 2) (cE (.int 1))) nilA))) nilA)))) nilA))) (cE (.int 0)))) (E := [.v .strm, .v (.int teams), .v (.int games), .v (strsD names), .v (.int wide), .o (.lst []), .v (winD w), .no, .v (strsD (us.take (2 + k5))), .no, .no]) (S := S5) (S' := S6) (n := (k6 : Int)) (by omega) (by omega) (by
          have t : bT (opE gtI (callE lenN (consA (vE 3) nilA)) (cE (.int 1))) [.v .strm, .v (.int teams), .v (.int games), .v (strsD names), .v (.int wide), .o (.lst []), .v (winD w), .no, .v (strsD (us.take (2 + k5))), .no, .no] S5 = some (true, S5) := bT_at (op_at (call_at1 (v_at rfl) len_strs) rfl (by rw [gt_int, decide_eq_true hlen']))
          rw [ifE_t t]
          exact m_at2 (v_at rfl) (lst_at3 (v_at rfl) (v_at rfl) (m_at2 (v_at rfl) (op_at (v_at rfl) rfl add_int) e5')) e6)
        rw [Int.toNat_natCast] at h1
        exact h1
      rw [x_for, hr]
      exact e7
    · have hlen' : ¬ (1 : Int) < names.length := by omega
      refine ⟨[], .no, .no, S5, ?_, (fun _ h => by cases h), Nat.zero_le _, g5.mono (by omega)⟩
      have hr : rng1F (consA (ifE (bT (opE gtI (callE lenN (consA (vE 3) nilA)) (cE (.int 1)))) (mE m_law_pick 2 (consA (vE 0) (consA (lstE (consA (vE 2) (consA (vE 2) (consA (mE m_law_draw 2 (consA (vE 0) (consA (opE addA (vE 2) (cE (.int 1))) nilA))) nilA)))) nilA))) (cE (.int 0))) nilA) [.v .strm, .v (.int teams), .v (.int games), .v (strsD names), .v (.int wide), .o (.lst []), .v (winD w), .no, .v (strsD (us.take (2 + k5))), .no, .no] S5 = some (rngD 0 0, S5) := by
        have h1 := rng_len (f := (ifE (bT (opE gtI (callE lenN (consA (vE 3) nilA)) (cE (.int 1)))) (mE m_law_pick 2 (consA (vE 0) (consA (lstE (consA (vE 2) (consA (vE 2) (consA (mE m_law_draw 2 (consA (vE 0) (consA (opE addA (vE 2) (cE (.int 1))) nilA))) nilA)))) nilA))) (cE (.int 0)))) (E := [.v .strm, .v (.int teams), .v (.int games), .v (strsD names), .v (.int wide), .o (.lst []), .v (winD w), .no, .v (strsD (us.take (2 + k5))), .no, .no]) (S := S5) (S' := S5) (n := 0) (by omega) (by omega) (by simp [strsD, hlen'])
        exact h1
      rw [x_for, hr]
      rfl
  obtain ⟨gm0, b9, b10, S6, e6, h6, l6, g6⟩ := hgm
  obtain ⟨gm, es, ps, pw⟩ := sort_games gm0
  have okS : okG names gm := fun x hx => h6 x (ps.mem_iff.mp hx)
  refine ⟨w, gm, S6, run_rt (E' := [.v .strm, .v (.int teams), .v (.int games), .v (strsD names), .v (.int wide), .v (gamesD gm0), .v (winD w), .no, .v (strsD (us.take (2 + k5))), b9, b10]) ?_, ⟨⟨hnd, ?_, ?_, fun x hx e => ?_, fun x hx => ?_⟩, ?_, ?_, ?_, fun p hp => ⟨(w2 p hp).1, Int.le_trans (w2 p hp).2 (by decide)⟩, pw, fun x hx => (okS x hx).2.2⟩, ?_, ?_, fun p hp => (w2 p hp).2, g6⟩
  · show g_law_season [.v .strm, .v (.int teams), .v (.int games), .no, .no, .no, .no, .no, .no, .no, .no] S = _
    have a1 : setS 3 sNames [.v .strm, .v (.int teams), .v (.int games), .no, .no, .no, .no, .no, .no, .no, .no] S = some (.nx, [.v .strm, .v (.int teams), .v (.int games), .v (strsD names), .no, .no, .no, .no, .no, .no, .no], S1) := set_at e1 (by show 3 < 11; decide)
    have a2 : parvoS 4 5 (mE m_law_pick 2 (consA (vE 0) (consA (lstE (consA (cE (.int 1)) (consA (cE (.int 3)) (consA (cE (.int 9)) nilA)))) nilA))) (lstE nilA) [.v .strm, .v (.int teams), .v (.int games), .v (strsD names), .no, .no, .no, .no, .no, .no, .no] S1 = some (.nx, [.v .strm, .v (.int teams), .v (.int games), .v (strsD names), .v (.int wide), .o (.lst []), .no, .no, .no, .no, .no], S2) := by
      simp [parvoS, parG, e2, notTup]
    have a3 : setS 6 (callE dictN (consA sRows nilA)) [.v .strm, .v (.int teams), .v (.int games), .v (strsD names), .v (.int wide), .o (.lst []), .no, .no, .no, .no, .no] S2 = some (.nx, [.v .strm, .v (.int teams), .v (.int games), .v (strsD names), .v (.int wide), .o (.lst []), .v (winD w), .no, .no, .no, .no], S3) := by
      refine set_at (i := 6) ?_ (by show 6 < 11; decide)
      rw [x_call, x_cons, e3]
      simp [e3']
    have a4 : setS 8 (slE (mE m_law_mixed 2 (consA (vE 0) (consA (vE 3) nilA))) noO (someO (opE addA (cE (.int 2)) (mE m_law_draw 2 (consA (vE 0) (consA (cE (.int 3)) nilA)))))) [.v .strm, .v (.int teams), .v (.int games), .v (strsD names), .v (.int wide), .o (.lst []), .v (winD w), .no, .no, .no, .no] S3 = some (.nx, [.v .strm, .v (.int teams), .v (.int games), .v (strsD names), .v (.int wide), .o (.lst []), .v (winD w), .no, .v (strsD (us.take (2 + k5))), .no, .no], S5) := by
      refine set_at (i := 8) ?_ (by show 8 < 11; decide)
      have e4 : m_law_mixed [.strm, strsD names] S3 = some (.lst (us.map D.str), S4) := e4
      refine sl_at (S1 := S4) (S2 := S4) (d := .lst (us.map D.str)) ?_ no_at (some_at (i := 2 + (k5 : Int)) ?_) t5
      · simp [e4]
      · simp [e5]
    rw [season_eq]
    rw [seq_nx a1, seq_nx a2, seq_nx a3, seq_nx a4, seq_nx e6]
    simp [es, seaT]
  · have : w.length = names.length := by rw [← w1, List.length_map]
    omega
  · rw [ps.length_eq]; omega
  · have := (okS x hx).2.2
    rw [e] at this
    exact List.lt_irrefl _ this
  · have := okS x hx
    exact ⟨hasW_of (w1 ▸ this.1), hasW_of (w1 ▸ this.2.1)⟩
  · intro e
    rw [e] at w1
    rw [← w1] at n4
    simp at n4
  · have : (w.map fun p => D.str p.1) = names.map D.str := by rw [← w1, List.map_map]; rfl
    rw [this]
    exact n3
  · intro p hp
    exact n2 p.1 (w1 ▸ List.mem_map.mpr ⟨p, hp, rfl⟩)
  · have : w.length = names.length := by rw [← w1, List.length_map]
    omega
  · rw [ps.length_eq]; exact l6
end M


set_option Elab.async false
set_option linter.all false
set_option maxRecDepth 100000
set_option maxHeartbeats 4000000
namespace M
open PySem L2

/-! ### a season made -/
theorem q_is_list {d : D} {ys : List D} {S : Sm} (h : sq d ys) : m_is_list [d] S = some (.bl true, S) := by
  refine run_rt (E' := [.v d]) ?_
  rcases h with rfl | rfl <;> simp [g_is_list]
theorem q_is_row {a b d : D} {S : Sm} (h : Pr a b d) : m_is_row [d, .int 2] S = some (.bl true, S) := by
  refine run_rt (E' := [.v d, .v (.int 2)]) ?_
  have hl := q_is_list (S := S) h
  rcases h with rfl | rfl <;> simp [g_is_row, hl]
theorem q_is_number {i : Int} {S : Sm} (h : 0 ≤ i) : m_is_number [.int i] S = some (.bl true, S) := by
  have h1 : m_is_whole [.int i] S = some (.bl true, S) := by
    refine run_rt (E' := [.v (.int i)]) ?_
    simp [g_is_whole]
  refine run_rt (E' := [.v (.int i)]) ?_
  simp [g_is_number, h1, h]
theorem lets_true {l : List Nat} {S : Sm} {x : Sl} {d : D} : (∀ c ∈ l, 97 ≤ c ∧ c < 123) → lcL (tgN 1) yesT (inE (vE 1) (cE (.str abc))) (l.map fun c => .str ⟨#[c]⟩) [.v d, x] S = some (List.replicate l.length (.bl true), S) := by
  intro h
  induction l generalizing x with
  | nil => rfl
  | cons c l ih =>
    have hc := h c List.mem_cons_self
    have ih := fun x => ih (x := x) fun y hy => h y (List.mem_cons_of_mem _ hy)
    have hm : (c ∈ abc.cps.toList) = True := by
      rw [abc_list, eq_iff_iff, iff_true]
      exact List.mem_map.mpr ⟨c - 97, List.mem_range.mpr (by omega), by omega⟩
    have hi : orO (orO inSq inStr) inDD (.str ⟨#[c]⟩) (.str abc) = some (.bl true) := by
      simp only [orO, inSq, inStr, hm, decide_true]
    rw [List.map_cons, lcL]
    simp only [x_tgN]
    rw [if_pos (show 1 < [Sl.v d, x].length from (by decide : 1 < 2))]
    have he : inE (vE 1) (cE (.str abc)) ([Sl.v d, x].set 1 (.v (.str ⟨#[c]⟩))) S = some (.bl true, S) := by
      simp only [x_in, x_op, x_v, x_c, List.set_cons_succ, List.set_cons_zero, List.getElem?_cons_succ, List.getElem?_cons_zero, hi]
    simp only [x_yes, he]
    have ih := ih x
    rw [ih]
    rfl
theorem q_is_name {t : Str} {S : Sm} (h : okN t) : m_is_name [.str t] S = some (.bl true, S) := by
  obtain ⟨l, rfl, h1, h2, h3⟩ := h
  have hl : (sl l).length = l.length := by unfold sl Str.length; simp
  have hs : signsD (sl l) = l.map fun c => .str ⟨#[c]⟩ := by unfold signsD sl; simp
  have hlc := lets_true (S := S) (x := .no) (d := .str (sl l)) h3
  have hlen : (l.map fun c => D.str ⟨#[c]⟩).length ≤ 1000000 := by rw [List.length_map]; omega
  have e1 : lcE (itF (vE 0)) (tgN 1) yesT (inE (vE 1) (cE (.str abc))) [1] [.v (.str (sl l)), .no] S = some (.lst (List.replicate l.length (.bl true)), S) := by
    rw [x_lc, x_it, x_v]
    simp only [List.getElem?_cons_zero, hs]
    rw [if_pos ⟨hlen, rfl⟩]
    have hw : wipeE [Sl.v (.str (sl l)), .no] [1] = [.v (.str (sl l)), .no] := rfl
    rw [hw, hlc]
  have e2 : chE ltA ltA (cE (.int 0)) (callE lenN (consA (vE 0) nilA)) (cE (.int 9)) [.v (.str (sl l)), .no] S = some (.bl true, S) := by
    have hn : lenN [.str (sl l)] = some (.int l.length) := by
      unfold lenN
      simp only [hl]
      rw [if_pos (by omega)]
    have c1 : decide ((0 : Int) < (l.length : Int)) = true := decide_eq_true (by omega)
    have c2 : decide ((l.length : Int) < 9) = true := decide_eq_true (by omega)
    have l1 : ltA (.int 0) (.int (l.length : Int)) = some (.bl true) := by rw [lt_int, c1]
    have l2 : ltA (.int (l.length : Int)) (.int 9) = some (.bl true) := by rw [lt_int, c2]
    have c3 : callE lenN (consA (vE 0) nilA) [.v (.str (sl l)), .no] S = some (.int l.length, S) := by simp [hn]
    unfold chE
    simp only [x_c, c3, l1, l2]
  refine run_rt (E' := [.v (.str (sl l)), .no]) ?_
  show g_is_name [.v (.str (sl l)), .no] S = _
  unfold g_is_name
  rw [x_ret, x_and, x_is, x_v]
  simp only [List.getElem?_cons_zero, is_str_str]
  rw [x_and, e2]
  simp only []
  rw [x_call, x_cons, e1]
  simp only [x_nil, all_same]
/-! #### the first bad row -/
def knownD (ts : List Str) : D := .dic (ts.map fun t => (.inr t, .bl true))
theorem in_known {t : Str} {ts : List Str} (h : t ∉ ts) : orO (orO inSq inStr) inDD (.str t) (knownD ts) = some (.bl false) := by
  have hf : (ts.map fun t => ((.inr t : Key), D.bl true)).find? (fun kv => decide (kv.1 = .inr t)) = none := by
    rw [List.find?_eq_none]
    intro p hp
    obtain ⟨u, hu, rfl⟩ := List.mem_map.mp hp
    simp
    rintro rfl
    exact h hu
  have : inDD (.str t) (knownD ts) = some (.bl false) := by
    unfold inDD knownD lookD keyD valD
    simp only [hf]
    rfl
  simp only [orO, inSq, inStr, knownD] at this ⊢
  exact this
theorem put_known {t : Str} {ts : List Str} (h : t ∉ ts) (hl : ts.length < 1000) : putOD (knownD ts) (.str t) (.bl true) = some (knownD (ts ++ [t])) := by
  have hlen : (ts.map fun t => ((.inr t : Key), D.bl true)).length < 1000000 := by rw [List.length_map]; omega
  have ha : ((ts.map fun t => ((.inr t : Key), D.bl true)).any fun kv => decide (kv.1 = .inr t)) = false := by
    rw [List.any_eq_false]
    intro p hp
    obtain ⟨u, hu, rfl⟩ := List.mem_map.mp hp
    simp
    rintro rfl
    exact h hu
  unfold putOD knownD keyD
  simp only []
  rw [if_pos hlen]
  unfold putD
  rw [ha, if_neg Bool.false_ne_true, List.map_append]
  rfl
def RowP (p : Str × Int) (y : D) : Prop := Pr (.str p.1) (.int p.2) y
noncomputable def fbC : FT := (orT (notT (bT (mE m_is_row 2 (consA (vE 3) (consA (cE (.int 2)) nilA))))) (orT (notT (bT (mE m_is_name 1 (consA (subE (vE 3) (cE (.int 0))) nilA)))) (orT (bT (inOE (subE (vE 3) (cE (.int 0))) 1)) (notT (bT (mE m_is_number 1 (consA (subE (vE 3) (cE (.int 1))) nilA)))))))
noncomputable def fbB : FS := seqS (ifS fbC (retS (vE 2)) nextS) (dputS 1 (subE (vE 3) (cE (.int 0))) (cE (.bl true)))
theorem pr_sub {a b d : D} (h : Pr a b d) : orO ixD getD d (.int 0) = some a ∧ orO ixD getD d (.int 1) = some b := by
  rcases h with rfl | rfl <;> exact ⟨rfl, rfl⟩
theorem fb_one {p : Str × Int} {y a b : D} {ts : List Str} {S : Sm} (h : RowP p y) (h1 : okN p.1) (h2 : 0 ≤ p.2) (h3 : p.1 ∉ ts) (hl : ts.length < 1000) : fbB [.v a, .o (knownD ts), .v b, .v y] S = some (.nx, [.v a, .o (knownD (ts ++ [p.1])), .v b, .v y], S) := by
  obtain ⟨s0, s1⟩ := pr_sub h
  have r := q_is_row (S := S) h
  have nm := q_is_name (S := S) h1
  have nu := q_is_number (S := S) h2
  have ik := in_known h3
  have pk := put_known h3 hl
  have e : fbC [.v a, .o (knownD ts), .v b, .v y] S = some (false, S) := by
    unfold fbC
    simp [r, nm, s0, s1, inOE, ik, nu]
  unfold fbB
  rw [x_seq, x_ifS, e]
  simp [dputS, s0, pk]
theorem fb_loop {rows : D} : ∀ (w : Wins) (ys : List D), Paired RowP w ys → ∀ (n : Nat) (ts : List Str) (b c : Sl) (S : Sm), (∀ p ∈ w, okN p.1 ∧ 0 ≤ p.2) → (ts ++ w.map (·.1)).Nodup → ts.length + w.length < 1000 → ∃ ts' b' c', forL (tgT 2 (tgCons (tgN 2) (tgCons (tgN 3) tgNil))) fbB (enumD n ys) [.v rows, .o (knownD ts), b, c] S = some (.nx, [.v rows, .o (knownD ts'), b', c'], S)
  | _, _, .nil, n, ts, b, c, S, _, _, _ => ⟨ts, b, c, rfl⟩
  | _, _, @Paired.cons _ _ _ p y w ys r t, n, ts, b, c, S, hw, hn, hl => by
    have hp := hw p List.mem_cons_self
    rw [List.length_cons] at hl
    have h3 : p.1 ∉ ts := fun h => by
      rw [List.map_cons, List.nodup_append] at hn
      exact hn.2.2 _ h _ List.mem_cons_self rfl
    obtain ⟨ts', b', c', e⟩ := fb_loop (rows := rows) w ys t (n + 1) (ts ++ [p.1]) (.v (.int n)) (.v y) S (fun q hq => hw q (List.mem_cons_of_mem _ hq)) (by rw [List.append_assoc]; exact hn) (by rw [List.length_append, List.length_singleton]; omega)
    refine ⟨ts', b', c', ?_⟩
    have ht : tgT 2 (tgCons (tgN 2) (tgCons (tgN 3) tgNil)) (.tup [.int n, y]) [.v rows, .o (knownD ts), b, c] = some [.v rows, .o (knownD ts), .v (.int n), .v y] := by simp
    rw [enumD, forL_nx ht (fb_one r hp.1 hp.2 h3 (by omega))]
    exact e
theorem en_sq {d : D} {ys : List D} {a : FA} {E : Ev} {S S' : Sm} (h : sq d ys) (e : a E S = some ([d], S')) : enA a E S = some (enumD 0 ys, S') := by
  rw [x_en, e]
  rcases h with rfl | rfl <;> rfl
theorem q_fbr {w : Wins} {rows : D} {ys : List D} {S : Sm} (hs : sq rows ys) (hp : Paired RowP w ys) (hw : ∀ p ∈ w, okN p.1 ∧ 0 ≤ p.2) (hn : NdW w) (hl : w.length < 1000) : m_first_bad_row [rows] S = some (.non, S) := by
  obtain ⟨ts', b', c', e⟩ := fb_loop (rows := rows) w ys hp 0 [] .no .no S hw (by rw [List.nil_append]; exact hn) (by rw [List.length_nil]; omega)
  refine run_rt (E' := [.v rows, .o (knownD ts'), b', c']) ?_
  show (seqS (ownS 1 (cE (.dic []))) (seqS (ifS (notT (bT (mE m_is_list 1 (consA (vE 0) nilA)))) (retS (cE (.int 0))) nextS) (seqS (forS (enA (consA (vE 0) nilA)) (tgT 2 (tgCons (tgN 2) (tgCons (tgN 3) tgNil))) fbB) (retS (cE .non))))) [.v rows, .no, .no, .no] S = _
  have e1 : ownS 1 (cE (.dic [])) [.v rows, .no, .no, .no] S = some (.nx, [.v rows, .o (knownD []), .no, .no], S) := by simp [knownD, notTup]
  have hl := q_is_list (S := S) hs
  have e2 : ifS (notT (bT (mE m_is_list 1 (consA (vE 0) nilA)))) (retS (cE (.int 0))) nextS [.v rows, .o (knownD []), .no, .no] S = some (.nx, [.v rows, .o (knownD []), .no, .no], S) := by simp [hl]
  have e3 : forS (enA (consA (vE 0) nilA)) (tgT 2 (tgCons (tgN 2) (tgCons (tgN 3) tgNil))) fbB [.v rows, .o (knownD []), .no, .no] S = some (.nx, [.v rows, .o (knownD ts'), b', c'], S) := by
    rw [x_for, en_sq (S' := S) hs (by simp)]
    exact e
  rw [seq_nx e1, seq_nx e2, seq_nx e3]
  rfl
end M


set_option Elab.async false
set_option linter.all false
set_option maxRecDepth 100000
set_option maxHeartbeats 4000000
namespace M
open PySem L2

theorem it_sq {f : FE} {E : Ev} {S S' : Sm} {d : D} {ys : List D} (h : sq d ys) (e : f E S = some (d, S')) : itF f E S = some (ys, S') := by
  rw [x_it, e]
  rcases h with rfl | rfl <;> rfl
theorem tup_pr {a b d : D} (h : Pr a b d) : tupN [d] = some (.tup [a, b]) := by
  rcases h with rfl | rfl <;> rfl
def GR (x : Str × Str) (y : D) : Prop := Pr (.str x.1) (.str x.2) y ∨ Pr (.str x.2) (.str x.1) y
section
variable {rows games : D} {S : Sm}
theorem rows_tup : ∀ {w : Wins} {ys : List D}, Paired RowP w ys → lcL (tgN 6) yesT (callE tupN (consA (vE 6) nilA)) ys (iE_Season rows games) S = some (w.map rowD, S)
  | _, _, .nil => rfl
  | _, _, @Paired.cons _ _ _ p y w ys r t => by
    have ih := rows_tup t
    have h1 := tup_pr r
    have ht : tgN 6 y (iE_Season rows games) = some [.no, .v rows, .v games, .no, .no, .no, .v y, .no, .no] := rfl
    have he : callE tupN (consA (vE 6) nilA) [.no, .v rows, .v games, .no, .no, .no, .v y, .no, .no] S = some (rowD p, S) := by
      simp [h1, rowD]
    rw [lcL, ht]
    simp only [x_yes, he, ih]
    rfl
theorem dict_loop {E : Ev} (hE : E.length = 9) : ∀ (w pre : Wins), (pre.map (·.1) ++ w.map (·.1)).Nodup → dcL (tgT 2 (tgCons (tgN 4) (tgCons (tgN 5) tgNil))) yesT (vE 4) (vE 5) (w.map rowD) (pre.map fun p => ((.inr p.1 : Key), D.int p.2)) E S = some ((pre ++ w).map fun p => ((.inr p.1 : Key), D.int p.2), S)
  | [], pre, _ => by rw [List.append_nil]; rfl
  | p :: w, pre, hn => by
    have ih := dict_loop hE w (pre ++ [p]) (by rw [List.map_append, List.append_assoc]; exact hn)
    have ht : tgT 2 (tgCons (tgN 4) (tgCons (tgN 5) tgNil)) (rowD p) E = some ((E.set 4 (.v (.str p.1))).set 5 (.v (.int p.2))) := by
      unfold rowD
      rw [x_tgT, if_pos (show [D.str p.1, D.int p.2].length = 2 from rfl), x_tgCons, x_tgN, if_pos (by omega)]
      simp only []
      rw [x_tgCons, x_tgN, if_pos (by rw [List.length_set]; omega)]
      rfl
    have h4 : vE 4 ((E.set 4 (.v (.str p.1))).set 5 (.v (.int p.2))) S = some (.str p.1, S) := by
      rw [x_v, List.getElem?_set_ne (by decide), List.getElem?_set_self (by omega)]
    have h5 : vE 5 ((E.set 4 (.v (.str p.1))).set 5 (.v (.int p.2))) S = some (.int p.2, S) := by
      rw [x_v, List.getElem?_set_self (by rw [List.length_set]; omega)]
    have hp : putD (pre.map fun p => ((.inr p.1 : Key), D.int p.2)) (.inr p.1) (.int p.2) = ((pre ++ [p]).map fun p => ((.inr p.1 : Key), D.int p.2)) := by
      unfold putD
      have ha : ((pre.map fun p => ((.inr p.1 : Key), D.int p.2)).any fun kv => decide (kv.1 = .inr p.1)) = false := by
        rw [List.any_eq_false]
        intro q hq
        obtain ⟨u, hu, rfl⟩ := List.mem_map.mp hq
        simp
        intro e
        rw [List.map_cons, List.nodup_append] at hn
        exact hn.2.2 _ (List.mem_map.mpr ⟨u, hu, rfl⟩) _ List.mem_cons_self e
      rw [ha, if_neg Bool.false_ne_true, List.map_append]
      rfl
    rw [List.map_cons, dcL, ht]
    simp only [x_yes, h4, h5, keyD, hp]
    rw [ih, List.append_assoc]
    rfl
end
theorem row_le {w : Wins} (hn : NdW w) (h : (w.map fun p => D.str p.1).Pairwise (fun a b => leD a b = true)) : (w.map rowD).Pairwise (fun a b => leD a b = true) := by
  induction w with
  | nil => exact List.Pairwise.nil
  | cons p w ih =>
    unfold NdW at hn
    rw [List.map_cons, List.nodup_cons] at hn
    rw [List.map_cons, List.pairwise_cons] at h
    rw [List.map_cons, List.pairwise_cons]
    refine ⟨fun a ha => ?_, ih hn.2 h.2⟩
    obtain ⟨q, hq, rfl⟩ := List.mem_map.mp ha
    exact lt_SI (h.1 _ (List.mem_map.mpr ⟨q, hq, rfl⟩)) fun e => hn.1 (List.mem_map.mpr ⟨q, hq, e.symm⟩)
theorem row_inj {w : Wins} : ∀ a ∈ w.map rowD, ∀ b ∈ w.map rowD, PySem.W.keyToks (toP a) = PySem.W.keyToks (toP b) → a = b := by
  intro a ha b hb h
  obtain ⟨p, _, rfl⟩ := List.mem_map.mp ha
  obtain ⟨q, _, rfl⟩ := List.mem_map.mp hb
  obtain ⟨h1, h2⟩ := toks_SI h
  unfold rowD
  rw [h1, h2]
theorem game_inj {g : Games} : ∀ a ∈ g.map gameD, ∀ b ∈ g.map gameD, PySem.W.keyToks (toP a) = PySem.W.keyToks (toP b) → a = b := by
  intro a ha b hb h
  obtain ⟨p, _, rfl⟩ := List.mem_map.mp ha
  obtain ⟨q, _, rfl⟩ := List.mem_map.mp hb
  obtain ⟨h1, h2⟩ := toks_SS h
  unfold gameD
  rw [h1, h2]
theorem q_i2 {C : Addr} {w w' : Wins} {ys : List D} {rows games : D} {S : Sm} (hs : sq rows ys) (hp : Paired RowP w' ys) (hw : w'.Perm w) (hn : NdW w) (ha : (w.map fun p => D.str p.1).Pairwise (fun a b => leD a b = true)) (hl : w.length ≤ 1000) : i2_Season C (iE_Season rows games) S = some (winD w, S) := by
  have e1 : lcE (itF (vE 1)) (tgN 6) yesT (callE tupN (consA (vE 6) nilA)) [6] (iE_Season rows games) S = some (.lst (w'.map rowD), S) := by
    rw [x_lc, it_sq (S' := S) hs (by rfl)]
    simp only []
    have hlen : ys.length ≤ 1000000 := by rw [← Paired.length hp, hw.length_eq]; omega
    rw [if_pos ⟨hlen, rfl⟩]
    have hwp : wipeE (iE_Season rows games) [6] = iE_Season rows games := rfl
    rw [hwp, rows_tup hp]
  have e2 : sortN [.lst (w'.map rowD)] = some (.lst (w.map rowD)) := by
    rw [sort_kind kind_SI (fun d hd => by obtain ⟨p, _, rfl⟩ := List.mem_map.mp hd; exact ⟨p.1, p.2, rfl⟩), sort_perm (hw.map rowD) (row_le hn ha) row_inj]
  have e3 : itF (callE sortN (consA (lcE (itF (vE 1)) (tgN 6) yesT (callE tupN (consA (vE 6) nilA)) [6]) nilA)) (iE_Season rows games) S = some (w.map rowD, S) := by
    rw [x_it, x_call, x_cons, e1]
    simp only [x_nil, e2]
  unfold i2_Season dcE
  rw [e3]
  simp only []
  rw [if_pos ⟨by rw [List.length_map]; omega, rfl⟩]
  have := dict_loop (S := S) (E := wipeE (iE_Season rows games) [4, 5]) rfl w [] (by rw [List.map_nil, List.nil_append]; exact hn)
  rw [List.map_nil] at this
  rw [this]
  rfl
theorem gr_sub {x : Str × Str} {y : D} (h : GR x y) : ∃ a b, Pr (.str a) (.str b) y ∧ ((a = x.1 ∧ b = x.2) ∨ (a = x.2 ∧ b = x.1)) := by
  rcases h with h | h
  · exact ⟨x.1, x.2, h, .inl ⟨rfl, rfl⟩⟩
  · exact ⟨x.2, x.1, h, .inr ⟨rfl, rfl⟩⟩
theorem fld_self {C : Addr} {w : Wins} {r : Ev} {S : Sm} : fldE C "own_wins" (vE 0) (.v (.ins C [("own_wins", winD w)]) :: r) S = some (winD w, S) := by
  rw [x_fld]
  simp [List.lookup]
theorem pr_list {a b d : D} (h : Pr a b d) : sq d [a, b] := h
theorem q_is_game {C : Addr} {w : Wins} {x : Str × Str} {y : D} {S : Sm} (h : GR x y) (h1 : hasW w x.1 = true) (h2 : hasW w x.2 = true) (hne : x.1 ≠ x.2) : m_Season_is_game C [.ins C [("own_wins", winD w)], y] S = some (.bl true, S) := by
  obtain ⟨a, b, hp, hab⟩ := gr_sub h
  have ha : hasW w a = true := by rcases hab with ⟨rfl, rfl⟩ | ⟨rfl, rfl⟩ <;> assumption
  have hb : hasW w b = true := by rcases hab with ⟨rfl, rfl⟩ | ⟨rfl, rfl⟩ <;> assumption
  have hd : a ≠ b := by
    rcases hab with ⟨rfl, rfl⟩ | ⟨rfl, rfl⟩
    · exact hne
    · exact hne.symm
  have r := q_is_row (S := S) hp
  obtain ⟨s0, s1⟩ := pr_sub hp
  have one : ∀ (t : Str), hasW w t = true → andE (isE ["str"] (vE 2)) (inE (vE 2) (fldE C "own_wins" (vE 0))) [.v (.ins C [("own_wins", winD w)]), .v y, .v (.str t)] S = some (.bl true, S) := fun t ht => by
    simp [fld_self, ht]
  have e0 : lcL (tgN 2) yesT (andE (isE ["str"] (vE 2)) (inE (vE 2) (fldE C "own_wins" (vE 0)))) [.str a, .str b] [.v (.ins C [("own_wins", winD w)]), .v y, .no] S = some ([.bl true, .bl true], S) := by
    have oa := one a ha
    have ob := one b hb
    have ta : tgN 2 (.str a) [.v (.ins C [("own_wins", winD w)]), .v y, .no] = some [.v (.ins C [("own_wins", winD w)]), .v y, .v (.str a)] := rfl
    have tb : tgN 2 (.str b) [.v (.ins C [("own_wins", winD w)]), .v y, .no] = some [.v (.ins C [("own_wins", winD w)]), .v y, .v (.str b)] := rfl
    rw [lcL, ta]
    simp only [x_yes, oa]
    rw [lcL, tb]
    simp only [x_yes, ob]
    rfl
  have e1 : lcE (itF (vE 1)) (tgN 2) yesT (andE (isE ["str"] (vE 2)) (inE (vE 2) (fldE C "own_wins" (vE 0)))) [2] [.v (.ins C [("own_wins", winD w)]), .v y, .no] S = some (.lst [.bl true, .bl true], S) := by
    rw [x_lc, it_sq (S' := S) (pr_list hp) (by rfl)]
    simp only []
    rw [if_pos ⟨by show 2 ≤ 1000000; decide, rfl⟩]
    have hwp : wipeE [Sl.v (.ins C [("own_wins", winD w)]), .v y, .no] [2] = [.v (.ins C [("own_wins", winD w)]), .v y, .no] := rfl
    rw [hwp, e0]
  have e2 : allN [.lst [.bl true, .bl true]] = some (.bl true) := rfl
  refine run_rt (E' := [.v (.ins C [("own_wins", winD w)]), .v y, .no]) ?_
  show g_Season_is_game C [.v (.ins C [("own_wins", winD w)]), .v y, .no] S = _
  unfold g_Season_is_game
  have e3 : ifS (orT (notT (bT (mE m_is_row 2 (consA (vE 1) (consA (cE (.int 2)) nilA))))) (notT (bT (callE allN (consA (lcE (itF (vE 1)) (tgN 2) yesT (andE (isE ["str"] (vE 2)) (inE (vE 2) (fldE C "own_wins" (vE 0)))) [2]) nilA))))) (retS (cE (.bl false))) nextS [.v (.ins C [("own_wins", winD w)]), .v y, .no] S = some (.nx, [.v (.ins C [("own_wins", winD w)]), .v y, .no], S) := by
    have c1 : mE m_is_row 2 (consA (vE 1) (consA (cE (.int 2)) nilA)) [.v (.ins C [("own_wins", winD w)]), .v y, .no] S = some (.bl true, S) := by simp [r]
    have c2 : callE allN (consA (lcE (itF (vE 1)) (tgN 2) yesT (andE (isE ["str"] (vE 2)) (inE (vE 2) (fldE C "own_wins" (vE 0)))) [2]) nilA) [.v (.ins C [("own_wins", winD w)]), .v y, .no] S = some (.bl true, S) := by
      rw [x_call, x_cons, e1]
      simp only [x_nil, e2]
    simp only [x_ifS, x_orT, x_notT, x_bT, c1, c2, Bool.not_true]
    rfl
  rw [seq_nx e3]
  simp [s0, s1, hd]
theorem q_i4 {C : Addr} {w : Wins} {rows games : D} {S : Sm} : ∀ (g : Games) (ys : List D), Paired GR g ys → (∀ x ∈ g, hasW w x.1 = true ∧ hasW w x.2 = true) → Apart g → ∀ (n : Nat) (a b : Sl), ∃ E', forL (tgT 2 (tgCons (tgN 7) (tgCons (tgN 8) tgNil))) (ifS (notT (bT (methE C "is_game" (m_Season_is_game C) 2 (vE 0) (consA (vE 8) nilA)))) neverS nextS) (enumD n ys) [.v (.ins C [("own_wins", winD w)]), .v rows, .v games, .no, .no, .no, .no, a, b] S = some (.nx, E', S)
  | _, _, .nil, _, _, n, a, b => ⟨_, rfl⟩
  | _, _, @Paired.cons _ _ _ x y g ys r t, h, ap, n, a, b => by
    obtain ⟨E', ih⟩ := q_i4 (C := C) (w := w) (rows := rows) (games := games) (S := S) g ys t (fun z hz => h z (List.mem_cons_of_mem _ hz)) (fun z hz => ap z (List.mem_cons_of_mem _ hz)) (n + 1) (.v (.int n)) (.v y)
    refine ⟨E', ?_⟩
    have hx := h x List.mem_cons_self
    have e := q_is_game (C := C) (S := S) r hx.1 hx.2 (ap x List.mem_cons_self)
    have ht : tgT 2 (tgCons (tgN 7) (tgCons (tgN 8) tgNil)) (.tup [.int n, y]) [.v (.ins C [("own_wins", winD w)]), .v rows, .v games, .no, .no, .no, .no, a, b] = some [.v (.ins C [("own_wins", winD w)]), .v rows, .v games, .no, .no, .no, .no, .v (.int n), .v y] := by simp
    have hb : ifS (notT (bT (methE C "is_game" (m_Season_is_game C) 2 (vE 0) (consA (vE 8) nilA)))) neverS nextS [.v (.ins C [("own_wins", winD w)]), .v rows, .v games, .no, .no, .no, .no, .v (.int n), .v y] S = some (.nx, [.v (.ins C [("own_wins", winD w)]), .v rows, .v games, .no, .no, .no, .no, .v (.int n), .v y], S) := by
      have hm : methE C "is_game" (m_Season_is_game C) 2 (vE 0) (consA (vE 8) nilA) [.v (.ins C [("own_wins", winD w)]), .v rows, .v games, .no, .no, .no, .no, .v (.int n), .v y] S = some (.bl true, S) := by
        have hlk : List.lookup ("is_game" : Str) [(("own_wins" : Str), winD w)] = none := by
          rw [List.lookup_cons]
          have : (("is_game" : Str) == "own_wins") = false := by decide +kernel
          rw [this]
          rfl
        unfold methE
        simp only [x_v, List.getElem?_cons_zero]
        rw [if_pos ⟨trivial, hlk⟩]
        simp [e]
      simp only [x_ifS, x_notT, x_bT, hm]
      rfl
    rw [enumD, forL_nx ht hb]
    exact ih
theorem q_i5 {C : Addr} {g g' : Games} {ys : List D} {rows games : D} {S : Sm} (hs : sq games ys) (hp : Paired GR g' ys) (hg : g'.Perm g) (hl : g.length ≤ 1000) (hgm : ∀ x ∈ g, x.1.cps.toList < x.2.cps.toList) (ha : (g.map gameD).Pairwise (fun a b => leD a b = true)) : i5_Season C (iE_Season rows games) S = some (gamesD g, S) := by
  have go : ∀ {g : Games} {ys : List D}, Paired GR g ys → (∀ x ∈ g, x.1.cps.toList < x.2.cps.toList) → lcL (tgN 8) yesT (tupE (consA (callE (bestN minZ minS) (consA (vE 8) nilA)) (consA (callE (bestN maxZ maxS) (consA (vE 8) nilA)) nilA))) ys (iE_Season rows games) S = some (g.map gameD, S) := by
    intro g ys hp
    induction hp with
    | nil => intro _; rfl
    | @cons x y g ys r _ ih =>
      intro h
      have ih := ih fun z hz => h z (List.mem_cons_of_mem _ hz)
      have hx := h x List.mem_cons_self
      obtain ⟨m1, m2, m3, m4⟩ := mm_lt hx
      have hmin : bestN minZ minS [y] = some (.str x.1) := by
        rcases r with r | r
        · rw [best_pair r, m1]
        · rw [best_pair r, m2]
      have hmax : bestN maxZ maxS [y] = some (.str x.2) := by
        rcases r with r | r
        · rw [best_pair r, m3]
        · rw [best_pair r, m4]
      have ht : tgN 8 y (iE_Season rows games) = some [.no, .v rows, .v games, .no, .no, .no, .no, .no, .v y] := rfl
      have he : tupE (consA (callE (bestN minZ minS) (consA (vE 8) nilA)) (consA (callE (bestN maxZ maxS) (consA (vE 8) nilA)) nilA)) [.no, .v rows, .v games, .no, .no, .no, .no, .no, .v y] S = some (gameD x, S) := by
        simp [hmin, hmax, gameD]
      rw [lcL, ht]
      simp only [x_yes, he, ih]
      rfl
  have e1 : lcE (itF (vE 2)) (tgN 8) yesT (tupE (consA (callE (bestN minZ minS) (consA (vE 8) nilA)) (consA (callE (bestN maxZ maxS) (consA (vE 8) nilA)) nilA))) [8] (iE_Season rows games) S = some (.lst (g'.map gameD), S) := by
    rw [x_lc, it_sq (S' := S) hs (by rfl)]
    simp only []
    have hlen : ys.length ≤ 1000000 := by rw [← Paired.length hp, hg.length_eq]; omega
    rw [if_pos ⟨hlen, rfl⟩]
    have hwp : wipeE (iE_Season rows games) [8] = iE_Season rows games := rfl
    rw [hwp, go hp fun x hx => hgm x (hg.mem_iff.mp hx)]
  have e2 : sortN [.lst (g'.map gameD)] = some (.lst (g.map gameD)) := by
    rw [sort_kind kind_SS (fun d hd => by obtain ⟨p, _, rfl⟩ := List.mem_map.mp hd; exact ⟨p.1, p.2, rfl⟩), sort_perm (hg.map gameD) ha game_inj]
  unfold i5_Season
  rw [x_call, x_cons, e1]
  simp only [x_nil, e2]
  rfl
theorem q_init {C : Addr} {w w' : Wins} {g g' : Games} {rows games : D} {ys zs : List D} {S : Sm} (f : Sea w g) (hs : sq rows ys) (hp : Paired RowP w' ys) (hw : w'.Perm w) (hs2 : sq games zs) (hp2 : Paired GR g' zs) (hg : g'.Perm g) : mk_m_Season C [rows, games] S = some ([(("own_wins" : Str), winD w), (("own_games" : Str), gamesD g)], S) := by
  have hl1 := f.wf.lw
  have hl2 := f.wf.lg
  have e1 : i1_Season C (iE_Season rows games) S = some (.non, S) := by
    have := q_fbr (S := S) hs hp (fun p hp => ⟨f.nm p (hw.mem_iff.mp hp), (f.val p (hw.mem_iff.mp hp)).1⟩) (show NdW w' from (hw.map (fun p : Str × Int => p.1)).nodup_iff.mpr f.wf.nd) (by rw [hw.length_eq]; omega)
    unfold i1_Season iE_Season
    simp [this]
  have e2 := q_i2 (C := C) (games := games) (S := S) hs hp hw f.wf.nd f.asc (by omega)
  have e3 : i3_Season C (iE_Season rows games) S = some (false, S) := by
    have := q_is_list (S := S) hs2
    unfold i3_Season iE_Season
    simp [this]
  have e4 : ∃ E', i4_Season C ((iE_Season rows games).set 0 (.v (.ins C [("own_wins", winD w)]))) S = some (.nx, E', S) := by
    obtain ⟨E', e⟩ := q_i4 (C := C) (w := w) (rows := rows) (games := games) (S := S) g' zs hp2 (fun x hx => f.wf.tm x (hg.mem_iff.mp hx)) (fun x hx => f.wf.ap x (hg.mem_iff.mp hx)) 0 .no .no
    refine ⟨E', ?_⟩
    unfold i4_Season
    rw [x_for, en_sq (S' := S) hs2 (by rfl)]
    exact e
  obtain ⟨E', e4⟩ := e4
  have e5 := q_i5 (C := C) (rows := rows) (S := S) hs2 hp2 hg (by omega) f.gm f.gs
  unfold mk_m_Season
  simp only [e1, e2, e3, e4, e5]
end M


set_option Elab.async false
set_option linter.all false
set_option maxRecDepth 100000
set_option maxHeartbeats 4000000
namespace M
open PySem L2

theorem fm_some {α β : Type} {f : α → Option β} {g : α → β} : ∀ {l : List α}, (∀ a ∈ l, f a = some (g a)) → l.filterMap f = l.map g
  | [], _ => rfl
  | a :: l, h => by
    rw [List.filterMap_cons, h a List.mem_cons_self, List.map_cons, fm_some fun x hx => h x (List.mem_cons_of_mem _ hx)]
theorem paired_perm {α β : Type} {R : α → β → Prop} {ys' ys : List β} (hp : ys'.Perm ys) : ∀ {xs : List α}, Paired R xs ys → ∃ xs', xs'.Perm xs ∧ Paired R xs' ys' := by
  induction hp with
  | nil => intro xs p; exact ⟨xs, .refl _, p⟩
  | cons x _ ih =>
    intro xs p
    cases p with
    | cons r p =>
      obtain ⟨xs', h1, h2⟩ := ih p
      exact ⟨_ :: xs', h1.cons _, .cons r h2⟩
  | swap x y l =>
    intro xs p
    cases p with
    | cons r p => cases p with
      | cons r2 p => exact ⟨_, .swap _ _ _, .cons r2 (.cons r p)⟩
  | trans _ _ ih1 ih2 =>
    intro xs p
    obtain ⟨xs1, h1, p1⟩ := ih2 p
    obtain ⟨xs2, h2, p2⟩ := ih1 p1
    exact ⟨xs2, h2.trans h1, p2⟩
theorem paired_trans {α β γ : Type} {R : α → β → Prop} {T : β → γ → Prop} {U : α → γ → Prop} (h : ∀ a b c, R a b → T b c → U a c) : ∀ {xs : List α} {ys : List β} {zs : List γ}, Paired R xs ys → Paired T ys zs → Paired U xs zs
  | _, _, _, .nil, .nil => .nil
  | _, _, _, .cons r p, .cons t q => .cons (h _ _ _ r t) (paired_trans h p q)
theorem paired_map {α β : Type} (f : α → β) : ∀ xs : List α, Paired (fun x y => y = f x) xs (xs.map f)
  | [] => .nil
  | x :: xs => .cons rfl (paired_map f xs)
theorem perm_rows {ys : List D} {w : Wins} (h : ys.Perm (w.map rowD)) : ∃ w' : Wins, ys = w'.map rowD ∧ w'.Perm w := by
  obtain ⟨w', h1, h2⟩ := paired_perm h (paired_map rowD w)
  refine ⟨w', ?_, h1⟩
  clear h h1
  induction h2 with
  | nil => rfl
  | cons r _ ih => rw [List.map_cons, r, ih]
/-- the rows, handed in other forms and orders -/
theorem made_rows {n : Nat} {w : Wins} {ys : List D} {S : Sm} (hl : w.length ≤ 20) (hy : ys = w.map rowD) (gd : Good (n + 50) S) : ∃ (w' : Wins) (d : D) (zs : List D) (S1 S2 : Sm), (∃ us, m_law_mixed [.strm, .lst ys] S = some (.lst us, S1) ∧ m_law_loose 4 [.strm, .lst us] S1 = some (d, S2)) ∧ w'.Perm w ∧ sq d zs ∧ Paired RowP w' zs ∧ Good n S2 := by
  subst hy
  obtain ⟨us, S1, e1, p1, g1⟩ := q_mixed (n := n + 25) (xs := w.map rowD) (gd.mono (by rw [List.length_map]; omega)) (by rw [List.length_map]; omega)
  obtain ⟨w', rfl, hw⟩ := perm_rows p1
  have hl' : w'.length ≤ 20 := by rw [hw.length_eq]; exact hl
  obtain ⟨d, zs, S2, e2, s2, p2, g2⟩ := q_loose (n := 3) (c := 1) (d := .lst (w'.map rowD)) (xs := w'.map rowD) (R := fun x y => ∃ p, x = rowD p ∧ RowP p y) (.inl rfl) (by rw [List.length_map]; omega) (fun x hx m S g => by
    obtain ⟨p, _, rfl⟩ := List.mem_map.mp hx
    obtain ⟨e, S', e1, h1, g1⟩ := q_loose2 (n := 1) (a := .str p.1) (b := .int p.2) (d := rowD p) (.inl ⟨_, rfl⟩) (.inr ⟨_, rfl⟩) (.inr rfl) g
    exact ⟨e, S', e1, ⟨p, rfl, h1⟩, g1⟩) (m := n) (S := S1) (g1.mono (by rw [List.length_map]; omega))
  refine ⟨w', d, zs, S1, S2, ⟨_, e1, e2⟩, hw, s2, ?_, g2⟩
  refine paired_trans (fun a b c h1 h2 => ?_) (paired_map rowD w') p2
  obtain ⟨p, hp, hr⟩ := h2
  have h1 : b = rowD a := h1
  rw [h1] at hp
  unfold rowD at hp
  have : a = p := by
    cases a; cases p
    simp at hp
    rw [hp.1, hp.2]
  rw [this]
  exact hr
/-- one game, handed in another form, turned or not -/
theorem made_game {n : Nat} {x : Str × Str} {a b c d : Sl} {S : Sm} (gd : Good (n + 3) S) : ∃ y S', mE (m_law_loose 4) 2 (consA (vE 0) (consA (callE tupN (consA (mE m_law_mixed 2 (consA (vE 0) (consA (callE listA (consA (vE 5) nilA)) nilA))) nilA)) nilA)) [.v .strm, a, b, c, d, .v (gameD x)] S = some (y, S') ∧ GR x y ∧ Good n S' := by
  obtain ⟨us, S1, e1, p1, g1⟩ := q_mixS (n := n + 1) (zs := [x.1, x.2]) (S := S) gd (by show 2 < 1000000; decide)
  have hu : us = [x.1, x.2] ∨ us = [x.2, x.1] := by
    have hl := p1.length_eq
    match us, hl with
    | [u, v], _ =>
      have m1 := p1.mem_iff.mp (show u ∈ [u, v] by simp)
      simp at m1
      rcases m1 with rfl | rfl
      · have := (List.perm_cons _).mp p1
        have := List.perm_singleton.mp this
        left; rw [List.singleton_inj.mp this]
      · have := (List.perm_cons _).mp (p1.trans (List.Perm.swap _ _ _))
        have := List.perm_singleton.mp this
        right; rw [List.singleton_inj.mp this]
  obtain ⟨u, v, rfl, huv⟩ : ∃ u v, us = [u, v] ∧ ((u = x.1 ∧ v = x.2) ∨ (u = x.2 ∧ v = x.1)) := by
    rcases hu with rfl | rfl
    · exact ⟨_, _, rfl, .inl ⟨rfl, rfl⟩⟩
    · exact ⟨_, _, rfl, .inr ⟨rfl, rfl⟩⟩
  obtain ⟨y, S2, e2, h2, g2⟩ := q_loose2 (n := 2) (a := .str u) (b := .str v) (d := .tup [.str u, .str v]) (.inl ⟨_, rfl⟩) (.inl ⟨_, rfl⟩) (.inr rfl) (m := n) (S := S1) g1
  refine ⟨y, S2, ?_, ?_, g2⟩
  · have e0 : listA [gameD x] = some (.lst [.str x.1, .str x.2]) := rfl
    have e1 : m_law_mixed [.strm, .lst [.str x.1, .str x.2]] S = some (.lst [.str u, .str v], S1) := e1
    have c1 : callE listA (consA (vE 5) nilA) [.v .strm, a, b, c, d, .v (gameD x)] S = some (.lst [.str x.1, .str x.2], S) := call_at1 (v_at rfl) e0
    exact m_at2 (v_at rfl) (call_at1 (m_at2 (v_at rfl) c1 e1) rfl) e2
  · rcases huv with ⟨rfl, rfl⟩ | ⟨rfl, rfl⟩
    · exact .inl h2
    · exact .inr h2
theorem pr_inj {a b c d : D} {y : D} (h : Pr a b y) (h2 : Pr c d y) : c = a ∧ d = b := by
  rcases h with rfl | rfl <;> rcases h2 with h2 | h2 <;> cases h2 <;> exact ⟨rfl, rfl⟩
theorem gr_same {a b : Str} {y z : D} {x : Str × Str} (h : Pr (.str a) (.str b) y) (h2 : Pr (.str a) (.str b) z) (hx : GR x y) : GR x z := by
  rcases hx with hx | hx
  · obtain ⟨e1, e2⟩ := pr_inj h hx
    left; rw [e1, e2]; exact h2
  · obtain ⟨e1, e2⟩ := pr_inj h hx
    right; rw [e1, e2]; exact h2
theorem loose_game {n : Nat} {x : Str × Str} {y : D} {S : Sm} (h : GR x y) (gd : Good (n + 1) S) : ∃ z S', m_law_loose 3 [.strm, y] S = some (z, S') ∧ GR x z ∧ Good n S' := by
  rcases h with h | h
  · obtain ⟨z, S', e, h2, g⟩ := q_loose2 (n := 1) (.inl ⟨_, rfl⟩) (.inl ⟨_, rfl⟩) h gd
    exact ⟨z, S', e, .inl h2, g⟩
  · obtain ⟨z, S', e, h2, g⟩ := q_loose2 (n := 1) (.inl ⟨_, rfl⟩) (.inl ⟨_, rfl⟩) h gd
    exact ⟨z, S', e, .inr h2, g⟩
/-- what is known of a stream that is left -/
theorem q_made {C : Addr} {n : Nat} {w : Wins} {g : Games} {S : Sm} (f : Sea w g) (gd : Good (n + 1000) S) : ∃ S', m_law_made C [.strm, seaT w g] S = some (seasD C w g, S') ∧ Good n S' := by
  have hl1 := f.wf.lw
  have hl2 := f.wf.lg
  -- the rows
  have e0 : lcE (keysF (opE ixD (vE 1) (cE (.int 0)))) (tgN 3) yesT (tupE (consA (vE 3) (consA (subE (subE (vE 1) (cE (.int 0))) (vE 3)) nilA))) [3] [.v .strm, .v (seaT w g), .no, .no, .no, .no] S = some (.lst (w.map rowD), S) := by
    have hk : keysF (opE ixD (vE 1) (cE (.int 0))) [.v .strm, .v (seaT w g), .no, .no, .no, .no] S = some (w.map fun p => D.str p.1, S) := by
      simp [seaT, winD]
      intro a b _
      rfl
    refine lce_at hk (by rw [List.length_map]; omega) rfl rfl ?_
    have := lcL_pure (tg := tgN 3) (c := yesT) (fe := tupE (consA (vE 3) (consA (subE (subE (vE 1) (cE (.int 0))) (vE 3)) nilA))) (E := [.v .strm, .v (seaT w g), .no, .no, .no, .no]) (S := S) (fun d => match d with | .str t => (valW w t).map fun i => rowD (t, i) | _ => none) (w.map fun p => D.str p.1) (fun d hd => by
      obtain ⟨p, hp, rfl⟩ := List.mem_map.mp hd
      have hv := valW_mem f.wf.nd hp
      refine ⟨[.v .strm, .v (seaT w g), .no, .v (.str p.1), .no, .no], rfl, .inr ⟨rowD p, by simp [hv], rfl, ?_⟩⟩
      simp [seaT, hv, rowD])
    rw [List.filterMap_map] at this
    have e : List.filterMap ((fun d : D => match d with | .str t => (valW w t).map fun i => rowD (t, i) | _ => none) ∘ fun p : Str × Int => D.str p.1) w = w.map rowD := by
      refine fm_some fun p hp => ?_
      simp [valW_mem f.wf.nd hp]
    rw [e] at this
    exact this
  obtain ⟨w', rows, zs, S1, S2, ⟨us, e1, e2⟩, hw, hs, hp, g2⟩ := made_rows (n := n + 900) hl1 rfl (gd.mono (by omega))
  have a1 : setS 2 (mE (m_law_loose 4) 2 (consA (vE 0) (consA (mE m_law_mixed 2 (consA (vE 0) (consA (lcE (keysF (opE ixD (vE 1) (cE (.int 0)))) (tgN 3) yesT (tupE (consA (vE 3) (consA (subE (subE (vE 1) (cE (.int 0))) (vE 3)) nilA))) [3]) nilA))) nilA))) [.v .strm, .v (seaT w g), .no, .no, .no, .no] S = some (.nx, [.v .strm, .v (seaT w g), .v rows, .no, .no, .no], S2) :=
    set_at (m_at2 (v_at rfl) (m_at2 (v_at rfl) e0 e1) e2) (by show 2 < 6; decide)
  -- the games
  obtain ⟨ys, S3, e3, p3, g3⟩ := lc_run (i := 5) (c := 3) (E := [.v .strm, .v (seaT w g), .v rows, .no, .no, .no]) (fe := mE (m_law_loose 4) 2 (consA (vE 0) (consA (callE tupN (consA (mE m_law_mixed 2 (consA (vE 0) (consA (callE listA (consA (vE 5) nilA)) nilA))) nilA)) nilA))) (R := fun d y => ∃ x, d = gameD x ∧ GR x y) (show 5 < 6 by decide) (items := g.map gameD) (fun d hd m S gs => by
    obtain ⟨x, _, rfl⟩ := List.mem_map.mp hd
    obtain ⟨y, S', e, h, g'⟩ := made_game (n := m) (x := x) (a := .v (seaT w g)) (b := .v rows) (c := .no) (d := .no) gs
    exact ⟨y, S', e, ⟨x, rfl, h⟩, g'⟩) (n + 500) S2 .no (g2.mono (by rw [List.length_map]; omega))
  have p3 : Paired GR g ys := paired_trans (fun a b c (h1 : b = gameD a) h2 => by
    obtain ⟨x, hx, hr⟩ := h2
    rw [h1] at hx
    unfold gameD at hx
    have : a = x := by
      cases a; cases x
      simp at hx
      rw [hx.1, hx.2]
    rw [this]
    exact hr) (paired_map gameD g) p3
  have hyl : ys.length = g.length := (Paired.length p3).symm
  have a2 : setS 4 (lcE (itF (subE (vE 1) (cE (.int 1)))) (tgN 5) yesT (mE (m_law_loose 4) 2 (consA (vE 0) (consA (callE tupN (consA (mE m_law_mixed 2 (consA (vE 0) (consA (callE listA (consA (vE 5) nilA)) nilA))) nilA)) nilA))) [5]) [.v .strm, .v (seaT w g), .v rows, .no, .no, .no] S2 = some (.nx, [.v .strm, .v (seaT w g), .v rows, .no, .v (.lst ys), .no], S3) := by
    refine set_at (i := 4) (lce_at (items := g.map gameD) (S1 := S2) ?_ (by rw [List.length_map]; omega) rfl rfl e3) (by show 4 < 6; decide)
    exact it_sq (d := gamesD g) (.inl rfl) (op_at (v_at rfl) rfl rfl)
  -- mixed, and handed on
  obtain ⟨us2, S4, e4, p4, g4⟩ := q_mixed (n := n + 300) (xs := ys) (S := S3) (g3.mono (by omega)) (by omega)
  obtain ⟨g', hg, p5⟩ := paired_perm p4 p3
  have hul : us2.length = g.length := by rw [p4.length_eq, hyl]
  obtain ⟨games, zs2, S5, e5, s5, p6, g5⟩ := q_loose (n := 3) (c := 1) (d := .lst us2) (xs := us2) (R := fun y z => ∀ x, GR x y → GR x z) (.inl rfl) (by omega) (fun y hy m S gs => by
    obtain ⟨x, hx⟩ : ∃ x, GR x y := by
      clear e4
      have : ∀ {g' : Games} {us : List D}, Paired GR g' us → ∀ y ∈ us, ∃ x, GR x y := by
        intro g' us h
        induction h with
        | nil => intro y hy; cases hy
        | cons r _ ih =>
          intro y hy
          rcases List.mem_cons.mp hy with rfl | hy
          · exact ⟨_, r⟩
          · exact ih y hy
      exact this p5 y hy
    rcases hx with h | h
    · obtain ⟨z, S', e, h2, g⟩ := q_loose2 (n := 1) (.inl ⟨_, rfl⟩) (.inl ⟨_, rfl⟩) h gs
      refine ⟨z, S', e, fun u hu => ?_, g⟩
      exact gr_same h h2 hu
    · obtain ⟨z, S', e, h2, g⟩ := q_loose2 (n := 1) (.inl ⟨_, rfl⟩) (.inl ⟨_, rfl⟩) h gs
      refine ⟨z, S', e, fun u hu => ?_, g⟩
      exact gr_same h h2 hu) (m := n) (S := S4) (g4.mono (by omega))
  have p7 : Paired GR g' zs2 := paired_trans (fun a b c h1 h2 => h2 a h1) p5 p6
  have e6 := q_init (C := C) (S := S5) f hs hp hw s5 p7 hg
  refine ⟨S5, run_rt (E' := [.v .strm, .v (seaT w g), .v rows, .no, .v (.lst ys), .no]) ?_, g5⟩
  show g_law_made C [.v .strm, .v (seaT w g), .no, .no, .no, .no] S = _
  unfold g_law_made
  rw [seq_nx a1, seq_nx a2]
  exact ret_at (mk_at2 (v_at rfl) (m_at2 (v_at rfl) (m_at2 (v_at rfl) (v_at rfl) e4) e5) e6)
end M


set_option Elab.async false
set_option linter.all false
set_option maxRecDepth 100000
set_option maxHeartbeats 4000000
namespace M
open PySem L2 PyProof

/-! ### repr of a season -/
theorem join_le (ts : List Str) : (Str.join ", " ts).length ≤ PySem.piled ts := by
  by_cases h : ts = []
  · subst h; exact Nat.le_refl _
  · have := join_length_add ts h
    omega
theorem piled_le {ts : List Str} {b : Nat} (h : ∀ t ∈ ts, t.length ≤ b) : piled ts ≤ ts.length * (b + 2) := by
  induction ts with
  | nil => exact Nat.zero_le _
  | cons t ts ih =>
    rw [piled_cons, List.length_cons, Nat.succ_mul]
    have := ih fun x hx => h x (List.mem_cons_of_mem _ hx)
    have := h t List.mem_cons_self
    omega
theorem tuple_le {ts : List Str} {b : Nat} (h : ∀ t ∈ ts, t.length ≤ b) : (tupleText ts).length ≤ 4 + ts.length * (b + 2) := by
  have h1 := join_le ts
  have h2 := piled_le h
  have e1 : (("(" : String) : Str).length = 1 := rfl
  unfold tupleText
  rw [strLen_append, strLen_append, e1]
  split
  · have e2 : ((",)" : String) : Str).length = 2 := rfl
    rw [e2]; omega
  · have e2 : ((")" : String) : Str).length = 1 := rfl
    rw [e2]; omega
theorem dictT_le {ts : List Str} {b : Nat} (h : ∀ t ∈ ts, t.length ≤ b) : (dictText ts).length ≤ 4 + ts.length * (b + 2) := by
  have h1 := join_le ts
  have h2 := piled_le h
  have e1 : (("{" : String) : Str).length = 1 := rfl
  have e2 : (("}" : String) : Str).length = 1 := rfl
  unfold dictText
  rw [strLen_append, strLen_append, e1, e2]
  omega
theorem textFrom_le : ∀ (ts : List Str) (k : Nat) (acc : Str), (textFrom k acc ts).length ≤ acc.length + piled ts
  | [], k, acc => Nat.le_refl _
  | t :: ts, k, acc => by
    have ih := textFrom_le ts (k + 1) (acc ++ (if k > 0 then ", " else "" : String) ++ t)
    have e : (acc ++ (if k > 0 then ", " else "" : String) ++ t).length ≤ acc.length + 2 + t.length := by
      rw [strLen_append, strLen_append]
      split
      · exact Nat.le_refl _
      · have : (("" : String) : Str).length = 0 := rfl
        omega
    rw [piled_cons]
    show (textFrom (k + 1) (acc ++ (if k > 0 then ", " else "" : String) ++ t) ts).length ≤ _
    omega
theorem list_le {ts : List Str} {b : Nat} (h : ∀ t ∈ ts, t.length ≤ b) : (listText ts).length ≤ 4 + ts.length * (b + 2) := by
  have h1 := textFrom_le ts 0 "["
  have h2 := piled_le h
  have e1 : (("[" : String) : Str).length = 1 := rfl
  have e2 : (("]" : String) : Str).length = 1 := rfl
  unfold listText
  rw [strLen_append, e2]
  omega
theorem letter_len : ∀ c : Fin 26, (PySem.Builtin.Str.reprChar 39 (97 + c.val)).length ≤ 10 ∧ (PySem.Builtin.Str.reprChar 34 (97 + c.val)).length ≤ 10 := by decide +kernel
theorem name_len {x : Str} (h : okN x) : (reprText x).length ≤ 52 := by
  obtain ⟨l, rfl, h1, h2, h3⟩ := h
  rw [← reprLen_eq, ← Array.foldl_toList]
  have hq : reprQuote (sl l) = 34 ∨ reprQuote (sl l) = 39 := by
    unfold reprQuote
    split
    · exact .inl rfl
    · exact .inr rfl
  have e : (sl l).cps.toList = l := by unfold sl; simp
  rw [e]
  generalize reprQuote (sl l) = q at hq
  have go : ∀ (m : List Nat) (a : Nat), (∀ c ∈ m, 97 ≤ c ∧ c < 123) → m.foldl (fun n c => n + (PySem.Builtin.Str.reprChar q c).length) a ≤ a + m.length * 10 := by
    intro m
    induction m with
    | nil => intro a _; exact Nat.le_add_right _ _
    | cons c m ih =>
      intro a h
      rw [List.foldl_cons, List.length_cons, Nat.succ_mul]
      have h9 := h c List.mem_cons_self
      have h8 := letter_len ⟨c - 97, by omega⟩
      have h7 : 97 + (c - 97) = c := by omega
      simp only [h7] at h8
      have : (PySem.Builtin.Str.reprChar q c).length ≤ 10 := by
        rcases hq with q | q
        · rw [q]; exact h8.2
        · rw [q]; exact h8.1
      have := ih (a + (PySem.Builtin.Str.reprChar q c).length) fun y hy => h y (List.mem_cons_of_mem _ hy)
      omega
  have := go l 2 h3
  omega
theorem num_len {i : Int} (h0 : 0 ≤ i) (h1 : i ≤ 9000) : ((toString i : String) : Str).length ≤ 6 := by
  rw [ofString_length]
  exact int_text_length_le10 (k := 5) (by decide) (by omega)
theorem shownAll_len : ∀ xs : List PyData, (PyData.shownAll xs).length = xs.length
  | [] => rfl
  | x :: xs => by rw [PyData.shownAll, List.length_cons, List.length_cons, shownAll_len xs]
theorem shownAll_le {b : Nat} : ∀ {xs : List PyData}, (∀ x ∈ xs, x.shown.length ≤ b) → ∀ t ∈ PyData.shownAll xs, t.length ≤ b
  | [], _, t, ht => by rw [PyData.shownAll] at ht; cases ht
  | x :: xs, h, t, ht => by
    rw [PyData.shownAll] at ht
    rcases List.mem_cons.mp ht with rfl | ht
    · exact h x List.mem_cons_self
    · exact shownAll_le (fun y hy => h y (List.mem_cons_of_mem _ hy)) t ht
theorem game_len {x : Str × Str} (h1 : okN x.1) (h2 : okN x.2) : (toP (gameD x)).shown.length ≤ 120 := by
  have e : toP (gameD x) = .tuple [.str x.1, .str x.2] := rfl
  rw [e, PyData.shown]
  have := tuple_le (ts := PyData.shownAll [.str x.1, .str x.2]) (b := 52) (shownAll_le (by
    intro y hy
    simp at hy
    rcases hy with rfl | rfl
    · rw [PyData.shown]; exact name_len h1
    · rw [PyData.shown]; exact name_len h2))
  rw [shownAll_len] at this
  simp at this
  omega
theorem games_len {g : Games} (h : ∀ x ∈ g, okN x.1 ∧ okN x.2) (hl : g.length ≤ 120) : (toP (gamesD g)).shown.length ≤ 15000 := by
  have e : toP (gamesD g) = .list (toPs (g.map gameD)) := by rw [gamesD, toP]
  rw [e, PyData.shown]
  have := list_le (ts := PyData.shownAll (toPs (g.map gameD))) (b := 120) (shownAll_le (by
    intro y hy
    rw [toPs_map, List.map_map] at hy
    obtain ⟨x, hx, rfl⟩ := List.mem_map.mp hy
    exact game_len (h x hx).1 (h x hx).2))
  have hn : (toPs (g.map gameD)).length = g.length := by rw [toPs_map, List.length_map, List.length_map]
  rw [shownAll_len, hn] at this
  have h3 : g.length * (120 + 2) ≤ 120 * 122 := Nat.mul_le_mul_right _ hl
  omega
theorem kv_len {w : Wins} (h : ∀ p ∈ w, okN p.1 ∧ 0 ≤ p.2 ∧ p.2 ≤ 9000) : ∀ t ∈ PyData.shownKv (toPk (w.map fun p => ((.inr p.1 : Key), D.int p.2))), t.length ≤ 60 := by
  induction w with
  | nil => intro t ht; rw [List.map_nil, toPk, PyData.shownKv] at ht; cases ht
  | cons p w ih =>
    intro t ht
    rw [List.map_cons, toPk, PyData.shownKv] at ht
    obtain ⟨h1, h2, h3⟩ := h p List.mem_cons_self
    rcases List.mem_cons.mp ht with rfl | ht
    · have a := name_len h1
      have b := num_len h2 h3
      rw [strLen_append, strLen_append]
      have e2 : ((": " : String) : Str).length = 2 := rfl
      have e3 : (kP (.inr p.1)).shown = reprText p.1 := by rw [kP, PyData.shown]
      have e4 : (toP (.int p.2)).shown = ((toString p.2 : String) : Str) := by rw [toP, PyData.shown]
      rw [e2, e3, e4]
      omega
    · exact ih (fun q hq => h q (List.mem_cons_of_mem _ hq)) t ht
theorem kv_count (w : Wins) : (PyData.shownKv (toPk (w.map fun p => ((.inr p.1 : Key), D.int p.2)))).length = w.length := by
  induction w with
  | nil => rfl
  | cons p w ih => rw [List.map_cons, toPk, PyData.shownKv, List.length_cons, List.length_cons, ih]
theorem win_len {w : Wins} (h : ∀ p ∈ w, okN p.1 ∧ 0 ≤ p.2 ∧ p.2 ≤ 9000) (hl : w.length ≤ 20) : (toP (winD w)).shown.length ≤ 15000 := by
  have e : toP (winD w) = .dict (toPk (w.map fun p => ((.inr p.1 : Key), D.int p.2))) := by rw [winD, toP]
  rw [e, PyData.shown]
  have := dictT_le (kv_len h)
  rw [kv_count] at this
  have h3 : w.length * (60 + 2) ≤ 20 * 62 := Nat.mul_le_mul_right _ hl
  omega
theorem okPk_win : ∀ w : Wins, okPk (w.map fun p => ((.inr p.1 : Key), D.int p.2)) = true
  | [] => rfl
  | p :: w => by rw [List.map_cons, okPk, okPk_win w]; rfl
theorem show_win : ∀ {w : Wins}, (∀ p ∈ w, 0 ≤ p.2 ∧ p.2 ≤ 9000) → PyData.showableKv (toPk (w.map fun p => ((.inr p.1 : Key), D.int p.2))) = true
  | [], _ => rfl
  | p :: w, h => by
    rw [List.map_cons, toPk, PyData.showableKv, show_win fun q hq => h q (List.mem_cons_of_mem _ hq)]
    obtain ⟨h1, h2⟩ := h p List.mem_cons_self
    have : p.2.natAbs.log2 < 1920 := by
      by_cases h0 : p.2.natAbs = 0
      · rw [h0]; decide
      · rw [Nat.log2_lt h0]
        exact Nat.lt_of_lt_of_le (show p.2.natAbs < 2 ^ 14 by omega) (Nat.pow_le_pow_right (by decide) (by decide))
    simp [kP, toP, PyData.showable, this]
theorem depth_win : ∀ w : Wins, PyData.depthKv (toPk (w.map fun p => ((.inr p.1 : Key), D.int p.2))) = 0
  | [] => rfl
  | p :: w => by
    rw [List.map_cons, toPk, PyData.depthKv, depth_win w]
    rfl
theorem games_ok : ∀ g : Games, okPs (g.map gameD) = true ∧ noDicts (g.map gameD) = true ∧ PyData.showableAll (toPs (g.map gameD)) = true ∧ PyData.depthAll (toPs (g.map gameD)) ≤ 1
  | [] => ⟨rfl, rfl, rfl, Nat.zero_le _⟩
  | x :: g => by
    obtain ⟨h1, h2, h3, h4⟩ := games_ok g
    refine ⟨?_, ?_, ?_, ?_⟩
    · rw [List.map_cons, okPs, h1]; rfl
    · rw [List.map_cons, noDicts, h2]; rfl
    · rw [List.map_cons, toPs, PyData.showableAll, h3]
      simp [gameD, toP, toPs, PyData.showable, PyData.showableAll]
    · rw [List.map_cons, toPs, PyData.depthAll]
      have : (toP (gameD x)).depth = 1 := by simp [gameD, toP, toPs, PyData.depth, PyData.depthAll]
      omega
theorem mem_hasW {w : Wins} {t : Str} (h : hasW w t = true) : t ∈ w.map (·.1) := by
  unfold hasW at h
  cases q : valW w t with
  | none => rw [q] at h; cases h
  | some i => exact List.mem_map.mpr ⟨(t, i), mem_val q, rfl⟩
theorem q_repr {w : Wins} {g : Games} (f : Sea w g) : ∃ x, reprN [seaT w g] = some (.str x) := by
  have hnm : ∀ t, hasW w t = true → okN t := fun t ht => by
    obtain ⟨p, hp, rfl⟩ := List.mem_map.mp (mem_hasW ht)
    exact f.nm p hp
  have h1 := win_len (fun p hp => ⟨f.nm p hp, f.val p hp⟩) f.wf.lw
  have h2 := games_len (fun x hx => ⟨hnm _ (f.wf.tm x hx).1, hnm _ (f.wf.tm x hx).2⟩) f.wf.lg
  obtain ⟨g1, g2, g3, g4⟩ := games_ok g
  have hok : reprOk [winD w, gamesD g] = true := by
    unfold reprOk
    have a1 : okPs [winD w, gamesD g] = true := by
      simp [okPs, winD, gamesD, okP, okPk_win, g1]
    have a2 : [winD w, gamesD g].all itemOk = true := by
      simp [winD, gamesD, itemOk, noDict, g2, flatD]
    have a3 : PyData.showableAll (toPs [winD w, gamesD g]) = true := by
      simp [toPs, winD, gamesD, toP, PyData.showableAll, PyData.showable, show_win f.val, g3]
    have a4 : (toP (.tup [winD w, gamesD g])).shown.length ≤ 10000000 := by
      have e : toP (.tup [winD w, gamesD g]) = .tuple [toP (winD w), toP (gamesD g)] := by rw [toP, toPs, toPs, toPs]
      rw [e, PyData.shown]
      have := tuple_le (ts := PyData.shownAll [toP (winD w), toP (gamesD g)]) (b := 15000) (shownAll_le (by
        intro y hy
        simp at hy
        rcases hy with rfl | rfl
        · exact h1
        · exact h2))
      rw [shownAll_len] at this
      simp at this
      omega
    have a5 : PyData.depthAll (toPs [winD w, gamesD g]) ≤ 40 := by
      simp [toPs, winD, gamesD, toP, PyData.depthAll, PyData.depth, depth_win]
      omega
    rw [a1, a2, a3, decide_eq_true a4, decide_eq_true a5]
    rfl
  refine ⟨(toP (.tup [winD w, gamesD g])).shown, ?_⟩
  unfold reprN seaT
  simp only []
  rw [if_pos hok]
end M


set_option Elab.async false
set_option linter.all false
set_option maxRecDepth 100000
set_option maxHeartbeats 4000000
namespace M
open PySem L2

/-! ### keys of tables, and the seasons that are written out -/
abbrev keysOf (w : Wins) : List Str := w.map (·.1)
theorem kstr {w : Wins} : (w.map fun p => D.str p.1) = (keysOf w).map D.str := by
  rw [List.map_map]
  rfl
theorem keys_win {w : Wins} : (w.map fun p => ((.inr p.1 : Key), D.int p.2)).map (fun p => kD p.1) = w.map fun p => D.str p.1 := by
  rw [List.map_map]
  rfl
theorem list_win {w : Wins} : listA [winD w] = some (.lst (w.map fun p => D.str p.1)) := by
  show some (D.lst ((w.map fun p => ((.inr p.1 : Key), D.int p.2)).map (fun p => kD p.1))) = _
  rw [keys_win]
theorem keysF_win {f : FE} {E : Ev} {S S' : Sm} {w : Wins} (h : f E S = some (winD w, S')) : keysF f E S = some (w.map fun p => D.str p.1, S') := by
  rw [x_keys, h]
  show some ((w.map fun p => ((.inr p.1 : Key), D.int p.2)).map (fun p => kD p.1), S') = _
  rw [keys_win]
theorem perm_keys {n : Nat} {w : Wins} {S : Sm} (hl : w.length ≤ 20) (gd : Good (n + 20) S) : ∃ (ts : List Str) (S' : Sm), m_law_mixed [.strm, .lst (w.map fun p => D.str p.1)] S = some (.lst (ts.map D.str), S') ∧ (∀ t ∈ ts, t ∈ keysOf w) ∧ Good n S' := by
  obtain ⟨us, S', e, p, g⟩ := q_mixS (n := n) (zs := keysOf w) (S := S) (gd.mono (by rw [List.length_map]; omega)) (by rw [List.length_map]; omega)
  rw [kstr]
  exact ⟨us, S', e, fun t ht => p.mem_iff.mp ht, g⟩
theorem lit_a : ("a" : Str) = sl [97] := by
  show PySem.Str.ofString _ = _
  rw [PySem.Str.ofString_eq_toList]
  simp [sl]
theorem lit_b : ("b" : Str) = sl [98] := by
  show PySem.Str.ofString _ = _
  rw [PySem.Str.ofString_eq_toList]
  simp [sl]
theorem lit_c : ("c" : Str) = sl [99] := by
  show PySem.Str.ofString _ = _
  rw [PySem.Str.ofString_eq_toList]
  simp [sl]
theorem lit_d : ("d" : Str) = sl [100] := by
  show PySem.Str.ofString _ = _
  rw [PySem.Str.ofString_eq_toList]
  simp [sl]
theorem lit_q : ("q" : Str) = sl [113] := by
  show PySem.Str.ofString _ = _
  rw [PySem.Str.ofString_eq_toList]
  simp [sl]
theorem ok1 (n : Nat) (h : 97 ≤ n ∧ n < 123) : okN (sl [n]) := ⟨[n], rfl, by show 0 < 1; decide, by show 1 ≤ 5; decide, fun c hc => by rw [List.mem_singleton] at hc; rw [hc]; exact h⟩
end M

set_option Elab.async false
set_option linter.all false
set_option maxRecDepth 100000
set_option maxHeartbeats 4000000
namespace M
open PySem L2

def intsI (l : List Int) : D := .lst (l.map D.int)
/-! ### outcomes that are drawn -/
theorem outs_of {ys : List D} {g : Games} (p : Paired (fun d y => ∃ x z, d = gameD x ∧ y = D.str z ∧ inG z x = true) (g.map gameD) ys) : ∃ zs : List Str, ys = zs.map D.str ∧ IsOut g zs := by
  induction g generalizing ys with
  | nil => cases p; exact ⟨[], rfl, .nil⟩
  | cons x g ih =>
    cases p with
    | cons r p =>
      obtain ⟨x', z, h1, rfl, h2⟩ := r
      obtain ⟨zs, rfl, h3⟩ := ih p
      have : x = x' := by
        unfold gameD at h1
        simp at h1
        exact Prod.ext h1.1 h1.2
      subst this
      exact ⟨z :: zs, rfl, .cons h2 h3⟩
theorem q_drawn {n : Nat} {w : Wins} {g : Games} {S : Sm} (hg : g.length ≤ 1000) (gd : Good (n + g.length) S) : ∃ (zs : List Str) (S' : Sm), m_law_drawn_outcome [.strm, seaT w g] S = some (strsD zs, S') ∧ IsOut g zs ∧ Good n S' := by
  obtain ⟨ys, S', e, p, g'⟩ := lc_run (i := 2) (c := 1) (E := [.v .strm, .v (seaT w g), .no]) (fe := mE m_law_pick 2 (consA (vE 0) (consA (callE listA (consA (vE 2) nilA)) nilA))) (R := fun d y => ∃ x z, d = gameD x ∧ y = D.str z ∧ inG z x = true) (show 2 < 3 by decide) (items := g.map gameD) (fun d hd m S g1 => by
    obtain ⟨x, _, rfl⟩ := List.mem_map.mp hd
    obtain ⟨y, S', e, hy, g'⟩ := q_pick (xs := [.str x.1, .str x.2]) (n := m) g1 (by simp) (by show 2 < 1000000; decide)
    refine ⟨y, S', m_at2 (v_at rfl) (call_at1 (v_at rfl) rfl) e, ?_, g'⟩
    simp at hy
    rcases hy with rfl | rfl
    · exact ⟨x, x.1, rfl, rfl, by simp [inG]⟩
    · exact ⟨x, x.2, rfl, rfl, by simp [inG]⟩) n S .no (gd.mono (by rw [List.length_map]; omega))
  obtain ⟨zs, rfl, h⟩ := outs_of p
  refine ⟨zs, S', run_rt (E' := [.v .strm, .v (seaT w g), .no]) ?_, h, g'⟩
  show g_law_drawn_outcome [.v .strm, .v (seaT w g), .no] S = _
  unfold g_law_drawn_outcome
  exact ret_at (lce_at (it_sq (.inl rfl) (sub_at (v_at rfl) rfl sea1)) (by rw [List.length_map]; omega) rfl rfl e)
/-! ### prices -/
theorem ints_of {items ys : List D} (p : Paired (fun _ y => ∃ i : Int, y = D.int i ∧ 0 ≤ i ∧ i ≤ 1000) items ys) : ∃ l : List Int, ys = l.map D.int ∧ l.length = items.length ∧ ∀ i ∈ l, 0 ≤ i ∧ i ≤ 1000 := by
  induction items generalizing ys with
  | nil => cases p; exact ⟨[], rfl, rfl, fun _ h => by cases h⟩
  | cons x r ih =>
    cases p with
    | cons h p =>
      obtain ⟨i, rfl, h1, h2⟩ := h
      obtain ⟨l, rfl, e, h3⟩ := ih p
      refine ⟨i :: l, rfl, by rw [List.length_cons, List.length_cons, e], fun j hj => ?_⟩
      rcases List.mem_cons.mp hj with rfl | hj
      · exact ⟨h1, h2⟩
      · exact h3 j hj
theorem q_prices {n : Nat} {w : Wins} {g : Games} {S : Sm} (hg : g.length ≤ 1000) (gd : Good (n + g.length + 1) S) : ∃ (ps : List Int) (S' : Sm), m_law_prices [.strm, seaT w g] S = some (intsI ps, S') ∧ ps.length = g.length ∧ (∀ i ∈ ps, 0 ≤ i ∧ i ≤ 1000) ∧ Good n S' := by
  obtain ⟨d, S1, e1, hd, g1⟩ := q_pick (xs := [.lst [.int 1], .lst [.int 0, .int 1, .int 2], .lst [.int 1, .int 2, .int 3, .int 5, .int 9], .lst [.int 0, .int 7, .int 1000, .int 333]]) (n := n + g.length) gd (by simp) (by show 4 < 1000000; decide)
  obtain ⟨some, rfl, s0, s1, s2⟩ : ∃ l : List D, d = .lst l ∧ l ≠ [] ∧ l.length < 1000000 ∧ ∀ y ∈ l, ∃ i : Int, y = .int i ∧ 0 ≤ i ∧ i ≤ 1000 := by
    simp at hd
    rcases hd with rfl | rfl | rfl | rfl
    · refine ⟨_, rfl, by simp, by show 1 < 1000000; decide, fun y hy => ?_⟩
      simp at hy
      subst hy
      exact ⟨1, rfl, by decide, by decide⟩
    · refine ⟨_, rfl, by simp, by show 3 < 1000000; decide, fun y hy => ?_⟩
      simp at hy
      rcases hy with rfl | rfl | rfl
      · exact ⟨0, rfl, by decide, by decide⟩
      · exact ⟨1, rfl, by decide, by decide⟩
      · exact ⟨2, rfl, by decide, by decide⟩
    · refine ⟨_, rfl, by simp, by show 5 < 1000000; decide, fun y hy => ?_⟩
      simp at hy
      rcases hy with rfl | rfl | rfl | rfl | rfl
      · exact ⟨1, rfl, by decide, by decide⟩
      · exact ⟨2, rfl, by decide, by decide⟩
      · exact ⟨3, rfl, by decide, by decide⟩
      · exact ⟨5, rfl, by decide, by decide⟩
      · exact ⟨9, rfl, by decide, by decide⟩
    · refine ⟨_, rfl, by simp, by show 4 < 1000000; decide, fun y hy => ?_⟩
      simp at hy
      rcases hy with rfl | rfl | rfl | rfl
      · exact ⟨0, rfl, by decide, by decide⟩
      · exact ⟨7, rfl, by decide, by decide⟩
      · exact ⟨1000, rfl, by decide, by decide⟩
      · exact ⟨333, rfl, by decide, by decide⟩
  have a1 : setS 2 (mE m_law_pick 2 (consA (vE 0) (consA (lstE (consA (lstE (consA (cE (.int 1)) nilA)) (consA (lstE (consA (cE (.int 0)) (consA (cE (.int 1)) (consA (cE (.int 2)) nilA)))) (consA (lstE (consA (cE (.int 1)) (consA (cE (.int 2)) (consA (cE (.int 3)) (consA (cE (.int 5)) (consA (cE (.int 9)) nilA)))))) (consA (lstE (consA (cE (.int 0)) (consA (cE (.int 7)) (consA (cE (.int 1000)) (consA (cE (.int 333)) nilA))))) nilA))))) nilA))) [.v .strm, .v (seaT w g), .no, .no] S = Option.some (.nx, [.v .strm, .v (seaT w g), .v (.lst some), .no], S1) :=
    set_at (i := 2) (m_at2 (v_at rfl) rfl e1) (by show 2 < 4; decide)
  obtain ⟨ys, S2, e, p, g2⟩ := lc_run (i := 3) (c := 1) (E := [.v .strm, .v (seaT w g), .v (.lst some), .no]) (fe := mE m_law_pick 2 (consA (vE 0) (consA (vE 2) nilA))) (R := fun _ y => ∃ i : Int, y = D.int i ∧ 0 ≤ i ∧ i ≤ 1000) (show 3 < 4 by decide) (items := g.map gameD) (fun d hd m S g1 => by
    obtain ⟨y, S', e, hy, g'⟩ := q_pick (xs := some) (n := m) g1 s0 s1
    exact ⟨y, S', m_at2 (v_at rfl) (v_at rfl) e, s2 y hy, g'⟩) n S1 .no (g1.mono (by rw [List.length_map]; omega))
  obtain ⟨ps, rfl, h1, h2⟩ := ints_of p
  refine ⟨ps, S2, run_rt (E' := [.v .strm, .v (seaT w g), .v (.lst some), .no]) ?_, by rw [h1, List.length_map], h2, g2⟩
  show g_law_prices [.v .strm, .v (seaT w g), .no, .no] S = _
  unfold g_law_prices
  rw [seq_nx a1]
  exact ret_at (lce_at (it_sq (.inl rfl) (sub_at (v_at rfl) rfl sea1)) (by rw [List.length_map]; omega) rfl rfl e)
/-! ### what an outcome costs -/
def costL : List Str → List Int → List Str → List Int
  | f :: fs, p :: ps, z :: zs => if f = z then costL fs ps zs else p :: costL fs ps zs
  | _, _, _ => []
def costZ (fs : List Str) (ps : List Int) (zs : List Str) : Int := (costL fs ps zs).sum
theorem lc_yes {tg : TgD} {c : FT} {fe : FE} {d x : D} {r xs : List D} {E E1 : Ev} {S S1 S2 S3 : Sm} (ht : tg d E = some E1) (hc : c E1 S = some (true, S1)) (hf : fe E1 S1 = some (x, S2)) (ih : lcL tg c fe r E S2 = some (xs, S3)) : lcL tg c fe (d :: r) E S = some (x :: xs, S3) := by
  rw [lcL, ht]
  simp only [hc, hf, ih]
theorem lc_no {tg : TgD} {c : FT} {fe : FE} {d : D} {r xs : List D} {E E1 : Ev} {S S1 S3 : Sm} (ht : tg d E = some E1) (hc : c E1 S = some (false, S1)) (ih : lcL tg c fe r E S1 = some (xs, S3)) : lcL tg c fe (d :: r) E S = some (xs, S3) := by
  rw [lcL, ht]
  simp only [hc, ih]
theorem cost_lc {a b c x y z : Sl} {S : Sm} : ∀ (fs : List Str) (ps : List Int) (zs : List Str), lcL (tgT 3 (tgCons (tgN 3) (tgCons (tgN 4) (tgCons (tgN 5) tgNil)))) (bT (opE (notO eqA) (vE 3) (vE 5))) (vE 4) (zip3D (fs.map D.str) (ps.map D.int) (zs.map D.str)) [a, b, c, x, y, z] S = some ((costL fs ps zs).map D.int, S)
  | f :: fs, p :: ps, z' :: zs => by
    have ih := cost_lc (a := a) (b := b) (c := c) (x := x) (y := y) (z := z) (S := S) fs ps zs
    have hc : bT (opE (notO eqA) (vE 3) (vE 5)) [a, b, c, .v (.str f), .v (.int p), .v (.str z')] S = some (!decide (f = z'), S) := bT_at (op_at (v_at rfl) (v_at rfl) ne_str)
    rw [List.map_cons, List.map_cons, List.map_cons, zip3D]
    unfold costL
    by_cases q : f = z'
    · rw [decide_eq_true q] at hc
      rw [if_pos q]
      exact lc_no (E1 := [a, b, c, .v (.str f), .v (.int p), .v (.str z')]) rfl hc ih
    · rw [decide_eq_false q] at hc
      rw [if_neg q]
      exact lc_yes (E1 := [a, b, c, .v (.str f), .v (.int p), .v (.str z')]) rfl hc (v_at rfl) ih
  | [], _, _ => by simp [zip3D, lcL, costL]
  | f :: fs, [], _ => by simp [zip3D, lcL, costL]
  | f :: fs, p :: ps, [] => by simp [zip3D, lcL, costL]
theorem q_law_cost {fs zs : List Str} {ps : List Int} {S : Sm} (hl : fs.length ≤ 1000) : m_law_cost [strsD fs, intsI ps, strsD zs] S = some (.int (costZ fs ps zs), S) := by
  refine run_rt (E' := [.v (strsD fs), .v (intsI ps), .v (strsD zs), .no, .no, .no]) ?_
  show g_law_cost [.v (strsD fs), .v (intsI ps), .v (strsD zs), .no, .no, .no] S = _
  unfold g_law_cost
  have hi : zip3A (consA (vE 0) (consA (vE 1) (consA (vE 2) nilA))) [.v (strsD fs), .v (intsI ps), .v (strsD zs), .no, .no, .no] S = some (zip3D (fs.map D.str) (ps.map D.int) (zs.map D.str), S) := rfl
  refine ret_at (call_at1 (lce_at hi (by rw [zip3D_len, List.length_map]; omega) rfl rfl (cost_lc fs ps zs)) ?_)
  unfold sumN
  simp only [ints_map]
  rfl
end M

set_option Elab.async false
set_option linter.all false
set_option maxRecDepth 100000
set_option maxHeartbeats 4000000
namespace M
open PySem L2

/-! ### bills -/
/-- the bounds of the teams, pairs in either form -/
def Bds (bd : D) (lo hi : Str → Int) (ts : List Str) : Prop := ∀ t ∈ ts, ∃ d, orO ixD getD bd (.str t) = some d ∧ Pr (.int (lo t)) (.int (hi t)) d
def teamZ (lo hi tab : Str → Int) (p : Str × Int) : Int := p.2 * ((if p.2 > 0 then lo p.1 else hi p.1) - tab p.1)
noncomputable def biB : FS := seqS (setS 8 (subE (vE 4) (vE 7))) (setS 6 (opE addA (vE 6) (ifE (bT (opE gtI (vE 8) (cE (.int 0)))) (opE mulA (vE 8) (opE subI (subE (subE (vE 1) (vE 7)) (cE (.int 0))) (subE (vE 5) (vE 7)))) (opE mulA (vE 8) (opE subI (subE (subE (vE 1) (vE 7)) (cE (.int 1))) (subE (vE 5) (vE 7)))))))
abbrev BE (sea bd fo pr : D) (pl tb : Wins) (found : Int) (s7 s8 s9 : Sl) : Ev := [.v sea, .v bd, .v fo, .v pr, .v (winD pl), .v (winD tb), .v (.int found), s7, s8, s9]
section
variable {sea bd fo pr : D} {pl tb : Wins} {lo hi : Str → Int} {S : Sm} {s9 : Sl}
theorem bi_one (hp : NdW pl) (hb : Bds bd lo hi (pl.map (·.1))) (ht : ∀ p ∈ pl, hasW tb p.1 = true) {p : Str × Int} (hm : p ∈ pl) (small : p.2.natAbs < 2 ^ 63) (f : Int) (s8 : Sl) :
    biB (BE sea bd fo pr pl tb f (.v (.str p.1)) s8 s9) S = some (.nx, BE sea bd fo pr pl tb (f + teamZ lo hi (fun t => (valW tb t).getD 0) p) (.v (.str p.1)) (.v (.int p.2)) s9, S) := by
  have h1 := valW_mem hp hm
  obtain ⟨i, h2⟩ : ∃ i, valW tb p.1 = some i := by
    have := ht p hm
    unfold hasW at this
    cases q : valW tb p.1 with
    | none => rw [q] at this; cases this
    | some i => exact ⟨i, rfl⟩
  obtain ⟨d, h3, h4⟩ := hb p.1 (List.mem_map.mpr ⟨p, hm, rfl⟩)
  obtain ⟨g0, g1⟩ := pr_sub h4
  have a1 : setS 8 (subE (vE 4) (vE 7)) (BE sea bd fo pr pl tb f (.v (.str p.1)) s8 s9) S = some (.nx, BE sea bd fo pr pl tb f (.v (.str p.1)) (.v (.int p.2)) s9, S) :=
    set_at (i := 8) (sub_at (v_at rfl) (v_at rfl) (by rw [sub_win, h1]; rfl)) (by show 8 < 10; decide)
  have tb1 : subE (vE 5) (vE 7) (BE sea bd fo pr pl tb f (.v (.str p.1)) (.v (.int p.2)) s9) S = some (.int i, S) := sub_at (v_at rfl) (v_at rfl) (by rw [sub_win, h2]; rfl)
  have c : bT (opE gtI (vE 8) (cE (.int 0))) (BE sea bd fo pr pl tb f (.v (.str p.1)) (.v (.int p.2)) s9) S = some (decide (p.2 > 0), S) := bT_at (op_at (v_at rfl) rfl gt_int)
  unfold biB
  rw [seq_nx a1]
  refine set_at (i := 6) (op_at (v_at rfl) (b := .int (teamZ lo hi (fun t => (valW tb t).getD 0) p)) ?_ add_int) (by show 6 < 10; decide)
  unfold teamZ
  rw [show (fun t => (valW tb t).getD 0) p.1 = i by simp only [h2, Option.getD_some]]
  by_cases q : p.2 > 0
  · rw [decide_eq_true q] at c
    rw [ifE_t c, if_pos q]
    exact op_at (v_at rfl) (op_at (sub_at (sub_at (v_at rfl) (v_at rfl) h3) rfl g0) tb1 sub_int) (mul_int (.inl small))
  · rw [decide_eq_false q] at c
    rw [ifE_f c, if_neg q]
    exact op_at (v_at rfl) (op_at (sub_at (sub_at (v_at rfl) (v_at rfl) h3) rfl g1) tb1 sub_int) (mul_int (.inl small))
theorem bi_loop (hp : NdW pl) (hb : Bds bd lo hi (pl.map (·.1))) (ht : ∀ p ∈ pl, hasW tb p.1 = true) (small : ∀ p ∈ pl, p.2.natAbs < 2 ^ 63) : ∀ (l : Wins), (∀ p ∈ l, p ∈ pl) → ∀ (f : Int) (s7 s8 : Sl), ∃ s7' s8', forL (tgN 7) biB (l.map fun p => D.str p.1) (BE sea bd fo pr pl tb f s7 s8 s9) S = some (.nx, BE sea bd fo pr pl tb (f + (l.map (teamZ lo hi fun t => (valW tb t).getD 0)).sum) s7' s8' s9, S)
  | [], _, f, s7, s8 => ⟨s7, s8, by rw [List.map_nil, List.map_nil, List.sum_nil, Int.add_zero]; rfl⟩
  | p :: l, h, f, s7, s8 => by
    have hm := h p List.mem_cons_self
    have e := bi_one (sea := sea) (fo := fo) (pr := pr) (S := S) (s9 := s9) hp hb ht hm (small p hm) f s8
    obtain ⟨a7, a8, e2⟩ := bi_loop hp hb ht small l (fun q hq => h q (List.mem_cons_of_mem _ hq)) (f + teamZ lo hi (fun t => (valW tb t).getD 0) p) (.v (.str p.1)) (.v (.int p.2))
    refine ⟨a7, a8, ?_⟩
    rw [List.map_cons, forL_nx (show tgN 7 (.str p.1) (BE sea bd fo pr pl tb f s7 s8 s9) = some (BE sea bd fo pr pl tb f (.v (.str p.1)) s8 s9) from rfl) e, e2, List.map_cons, List.sum_cons, Int.add_assoc]
end
/-! ### what can be saved is not more than what a bill says: the plain law behind k40 -/
/-- a team's part of a bill is not more than pull times what the table has over the forecast's -/
theorem team_le {lo hi tf tz : Int} {x : Int} (h1 : lo ≤ tz) (h2 : tz ≤ hi) : x * ((if x > 0 then lo else hi) - tf) ≤ x * (tz - tf) := by
  by_cases q : x > 0
  · rw [if_pos q]
    exact Int.mul_le_mul_of_nonneg_left (by omega) (by omega)
  · rw [if_neg q]
    have : (-x) * (tz - tf) ≤ (-x) * (hi - tf) := Int.mul_le_mul_of_nonneg_left (by omega) (by omega)
    rw [Int.neg_mul, Int.neg_mul] at this
    omega
end M

set_option Elab.async false
set_option linter.all false
set_option maxRecDepth 100000
set_option maxHeartbeats 4000000
namespace M
open PySem L2

def othS (x : Str × Str) (z : Str) : Str := if z = x.1 then x.2 else x.1
theorem q_law_other {w : Wins} {g : Games} {n : Nat} {x : Str × Str} {z : Str} {S : Sm} (h : g[n]? = some x) : m_law_other [seaT w g, .int (n : Int), .str z] S = some (.str (othS x z), S) := by
  refine run_rt (E' := [.v (seaT w g), .v (.int (n : Int)), .v (.str z), .v (.str x.1), .v (.str x.2)]) ?_
  show g_law_other [.v (seaT w g), .v (.int (n : Int)), .v (.str z), .no, .no] S = _
  unfold g_law_other
  have hs : orO ixD getD (gamesD g) (.int (n : Int)) = some (gameD x) := by rw [sub_games, h]; rfl
  have a1 : asgS (subE (subE (vE 0) (cE (.int 1))) (vE 1)) (tgT 2 (tgCons (tgN 3) (tgCons (tgN 4) tgNil))) [.v (seaT w g), .v (.int (n : Int)), .v (.str z), .no, .no] S = some (.nx, [.v (seaT w g), .v (.int (n : Int)), .v (.str z), .v (.str x.1), .v (.str x.2)], S) := by
    rw [x_asg, sub_at (sub_at (v_at rfl) rfl sea1) (v_at rfl) hs]
    rfl
  rw [seq_nx a1]
  have c : bT (opE eqA (vE 2) (vE 3)) [.v (seaT w g), .v (.int (n : Int)), .v (.str z), .v (.str x.1), .v (.str x.2)] S = some (decide (z = x.1), S) := bT_at (op_at (v_at rfl) (v_at rfl) eq_str)
  refine ret_at ?_
  unfold othS
  by_cases q : z = x.1
  · rw [decide_eq_true q] at c
    rw [ifE_t c, if_pos q]
    exact v_at rfl
  · rw [decide_eq_false q] at c
    rw [ifE_f c, if_neg q]
    exact v_at rfl
def pvZ (pl : Wins) (t : Str) : Int := (valW pl t).getD 0
def gameZ (pl : Wins) (x : Str × Str) (z : Str) (p : Int) : Int := min 0 (p + pvZ pl z - pvZ pl (othS x z))
def gamesZ (pl : Wins) : Games → List Str → List Int → Int
  | x :: g, z :: zs, p :: ps => gameZ pl x z p + gamesZ pl g zs ps
  | _, _, _ => 0
theorem oth_in {x : Str × Str} {z : Str} : inG (othS x z) x = true := by
  unfold othS inG
  split <;> simp
noncomputable def biG : FS := setS 6 (opE addA (vE 6) (callE min2N (consA (cE (.int 0)) (consA (opE subI (opE addA (subE (vE 3) (vE 9)) (subE (vE 4) (vE 7))) (subE (vE 4) (mE m_law_other 3 (consA (vE 0) (consA (vE 9) (consA (vE 7) nilA)))))) nilA))))
theorem min2_int {a b : Int} : min2N [.int a, .int b] = some (.int (if b < a then b else a)) := rfl
theorem call_at2 {o : OpN} {fa fb : FE} {E : Ev} {S S1 S2 : Sm} {a b d : D} (h1 : fa E S = some (a, S1)) (h2 : fb E S1 = some (b, S2)) (h3 : o [a, b] = some d) : callE o (consA fa (consA fb nilA)) E S = some (d, S2) := by
  simp only [x_call, x_cons, x_nil, h1, h2, h3]
theorem val_pv {pl : Wins} {t : Str} (h : hasW pl t = true) : valW pl t = some (pvZ pl t) := by
  unfold hasW at h
  unfold pvZ
  cases q : valW pl t with
  | none => rw [q] at h; cases h
  | some i => rfl
theorem big_loop {w : Wins} {g : Games} {bd fo : D} {pl tb : Wins} {qs : List Int} {s8 : Sl} {S : Sm} (hp : ∀ x ∈ g, hasW pl x.1 = true ∧ hasW pl x.2 = true) : ∀ (suf pre : Games) (zs : List Str) (ps pp : List Int), g = pre ++ suf → IsOut suf zs → ps.length = suf.length → qs = pp ++ ps → pp.length = pre.length → ∀ (f : Int) (s7 s9 : Sl),
    ∃ s7' s9', forL (tgT 2 (tgCons (tgN 9) (tgCons (tgN 7) tgNil))) biG (enumD pre.length (zs.map D.str)) (BE (seaT w g) bd fo (intsI qs) pl tb f s7 s8 s9) S = some (.nx, BE (seaT w g) bd fo (intsI qs) pl tb (f + gamesZ pl suf zs ps) s7' s8 s9', S)
  | [], pre, zs, ps, pp, e, ho, _, _, _, f, s7, s9 => ⟨s7, s9, by
      have hz := ho.len
      rw [List.length_nil] at hz
      have hz : zs = [] := List.length_eq_zero_iff.mp hz
      subst hz
      show some _ = _
      unfold gamesZ
      rw [Int.add_zero]⟩
  | x :: suf, pre, [], ps, pp, e, ho, _, _, _, f, s7, s9 => by have := ho.len; simp at this
  | x :: suf, pre, z :: zs, [], pp, e, ho, hl, _, _, f, s7, s9 => by cases hl
  | x :: suf, pre, z :: zs, p :: ps, pp, e, ho, hl, eq, hpp, f, s7, s9 => by
    obtain ⟨r, t⟩ : inG z x = true ∧ IsOut suf zs := by
      cases ho with
      | cons r t => exact ⟨r, t⟩
    have hx : g[pre.length]? = some x := by rw [e]; simp
    have hq : qs[pre.length]? = some p := by rw [eq, ← hpp]; simp
    have hm : x ∈ g := List.mem_of_getElem? hx
    have has : ∀ y, inG y x = true → hasW pl y = true := fun y hy => by
      unfold inG at hy
      rw [Bool.or_eq_true] at hy
      rcases hy with hy | hy
      · rw [← (by simpa using hy : x.1 = y)]; exact (hp x hm).1
      · rw [← (by simpa using hy : x.2 = y)]; exact (hp x hm).2
    have v1 := val_pv (has z r)
    have v2 := val_pv (has _ (oth_in (x := x) (z := z)))
    obtain ⟨a7, a9, e2⟩ := big_loop (w := w) (g := g) (bd := bd) (fo := fo) (pl := pl) (tb := tb) (qs := qs) (s8 := s8) (S := S) hp suf (pre ++ [x]) zs ps (pp ++ [p]) (by rw [e]; simp) t (by simpa using hl) (by rw [eq]; simp) (by simp [hpp]) (f + gameZ pl x z p) (.v (.str z)) (.v (.int (pre.length : Nat)))
    rw [List.length_append, List.length_singleton] at e2
    refine ⟨a7, a9, ?_⟩
    have hs : orO ixD getD (intsI qs) (.int (pre.length : Nat)) = some (.int p) := by
      unfold intsI orO ixD getD
      simp only [atI_nat, List.getElem?_map, hq]
      rfl
    have b1 : biG (BE (seaT w g) bd fo (intsI qs) pl tb f (.v (.str z)) s8 (.v (.int (pre.length : Nat)))) S = some (.nx, BE (seaT w g) bd fo (intsI qs) pl tb (f + gameZ pl x z p) (.v (.str z)) s8 (.v (.int (pre.length : Nat))), S) := by
      refine set_at (i := 6) (op_at (v_at rfl) (b := .int (gameZ pl x z p)) (call_at2 rfl (op_at (op_at (sub_at (v_at rfl) (v_at rfl) hs) (sub_at (v_at rfl) (v_at rfl) (by rw [sub_win, v1]; rfl)) add_int) (sub_at (v_at rfl) (m_at3 (v_at rfl) (v_at rfl) (v_at rfl) (q_law_other hx)) (by rw [sub_win, v2]; rfl)) sub_int) ?_) add_int) (by show 6 < 10; decide)
      rw [min2_int]
      unfold gameZ
      congr 2
      split <;> omega
    rw [List.map_cons, enumD]
    rw [forL_nx (show tgT 2 (tgCons (tgN 9) (tgCons (tgN 7) tgNil)) (.tup [.int (pre.length : Nat), .str z]) (BE (seaT w g) bd fo (intsI qs) pl tb f s7 s8 s9) = some (BE (seaT w g) bd fo (intsI qs) pl tb f (.v (.str z)) s8 (.v (.int (pre.length : Nat)))) from rfl) b1]
    rw [e2]
    show _ = some (Out.nx, BE (seaT w g) bd fo (intsI qs) pl tb (f + (gameZ pl x z p + gamesZ pl suf zs ps)) a7 s8 a9, S)
    rw [Int.add_assoc]
end M

set_option Elab.async false
set_option linter.all false
set_option maxRecDepth 100000
set_option maxHeartbeats 4000000
namespace M
open PySem L2

def billZ (w : Wins) (g : Games) (lo hi : Str → Int) (fs : List Str) (ps : List Int) (pl : Wins) : Int := (pl.map (teamZ lo hi fun t => (valW (tabOf w fs) t).getD 0)).sum + gamesZ pl g fs ps
theorem hasW_iff {w : Wins} {t : Str} : hasW w t = true ↔ t ∈ w.map (·.1) := ⟨fun h => mem_hasW h, hasW_of⟩
theorem hasW_tab {w : Wins} {zs : List Str} {t : Str} : hasW (tabOf w zs) t = hasW w t := by
  unfold hasW
  rw [bumps_val]
  cases valW w t <;> rfl
theorem q_law_bill {w : Wins} {g : Games} {bd : D} {lo hi : Str → Int} {fs : List Str} {ps : List Int} {pl : Wins} {S : Sm} (f : Wf w g) (hf : IsOut g fs) (hps : ps.length = g.length) (hp : NdW pl) (hk : ∀ t, t ∈ pl.map (·.1) ↔ t ∈ w.map (·.1)) (hb : Bds bd lo hi (w.map (·.1))) (small : ∀ p ∈ pl, p.2.natAbs < 2 ^ 63) :
    m_law_bill [seaT w g, bd, strsD fs, intsI ps, winD pl] S = some (.int (billZ w g lo hi fs ps pl), S) := by
  have e1 := q_table (g := g) (S := S) f.nd (show w.length ≤ 1000 by have := f.lw; omega) (f.mem hf)
  have has : ∀ t, hasW pl t = hasW w t := fun t => by rw [Bool.eq_iff_iff, hasW_iff, hasW_iff]; exact hk t
  obtain ⟨a7, a8, e2⟩ := bi_loop (sea := seaT w g) (bd := bd) (fo := strsD fs) (pr := intsI ps) (pl := pl) (tb := tabOf w fs) (lo := lo) (hi := hi) (S := S) (s9 := .no) hp (fun t ht => hb t ((hk t).mp ht)) (fun p hm => by rw [hasW_tab, ← has]; exact hasW_iff.mpr (List.mem_map.mpr ⟨p, hm, rfl⟩)) small pl (fun _ h => h) 0 .no .no
  obtain ⟨b7, b9, e3⟩ := big_loop (w := w) (g := g) (bd := bd) (fo := strsD fs) (pl := pl) (tb := tabOf w fs) (qs := ps) (s8 := a8) (S := S) (fun x hx => by rw [has, has]; exact f.tm x hx) g [] fs ps [] rfl hf hps rfl rfl (0 + (pl.map (teamZ lo hi fun t => (valW (tabOf w fs) t).getD 0)).sum) a7 .no
  have a1 : parvvS 5 6 (mE m_law_table 2 (consA (vE 0) (consA (vE 2) nilA))) (cE (.int 0)) [.v (seaT w g), .v bd, .v (strsD fs), .v (intsI ps), .v (winD pl), .no, .no, .no, .no, .no] S = some (.nx, BE (seaT w g) bd (strsD fs) (intsI ps) pl (tabOf w fs) 0 .no .no .no, S) := by
    unfold parvvS parG
    rw [m_at2 (v_at rfl) (v_at rfl) e1]
    rfl
  have a2 : forS (keysF (vE 4)) (tgN 7) biB (BE (seaT w g) bd (strsD fs) (intsI ps) pl (tabOf w fs) 0 .no .no .no) S = some (.nx, BE (seaT w g) bd (strsD fs) (intsI ps) pl (tabOf w fs) (0 + (pl.map (teamZ lo hi fun t => (valW (tabOf w fs) t).getD 0)).sum) a7 a8 .no, S) := by
    have hi := keysF_win (w := pl) (f := vE 4) (E := BE (seaT w g) bd (strsD fs) (intsI ps) pl (tabOf w fs) 0 .no .no .no) (S := S) (S' := S) (v_at rfl)
    rw [x_for, hi]
    exact e2
  have a3 : forS (enA (consA (vE 2) nilA)) (tgT 2 (tgCons (tgN 9) (tgCons (tgN 7) tgNil))) biG (BE (seaT w g) bd (strsD fs) (intsI ps) pl (tabOf w fs) (0 + (pl.map (teamZ lo hi fun t => (valW (tabOf w fs) t).getD 0)).sum) a7 a8 .no) S = some (.nx, BE (seaT w g) bd (strsD fs) (intsI ps) pl (tabOf w fs) (0 + (pl.map (teamZ lo hi fun t => (valW (tabOf w fs) t).getD 0)).sum + gamesZ pl g fs ps) b7 a8 b9, S) := by
    have hi : enA (consA (vE 2) nilA) (BE (seaT w g) bd (strsD fs) (intsI ps) pl (tabOf w fs) (0 + (pl.map (teamZ lo hi fun t => (valW (tabOf w fs) t).getD 0)).sum) a7 a8 .no) S = some (enumD 0 (fs.map D.str), S) := rfl
    rw [x_for, hi]
    exact e3
  refine run_rt (E' := BE (seaT w g) bd (strsD fs) (intsI ps) pl (tabOf w fs) (0 + (pl.map (teamZ lo hi fun t => (valW (tabOf w fs) t).getD 0)).sum + gamesZ pl g fs ps) b7 a8 b9) ?_
  show (seqS (parvvS 5 6 (mE m_law_table 2 (consA (vE 0) (consA (vE 2) nilA))) (cE (.int 0))) (seqS (forS (keysF (vE 4)) (tgN 7) biB) (seqS (forS (enA (consA (vE 2) nilA)) (tgT 2 (tgCons (tgN 9) (tgCons (tgN 7) tgNil))) biG) (retS (vE 6))))) [.v (seaT w g), .v bd, .v (strsD fs), .v (intsI ps), .v (winD pl), .no, .no, .no, .no, .no] S = _
  rw [seq_nx a1, seq_nx a2, seq_nx a3]
  have hz : billZ w g lo hi fs ps pl = 0 + (pl.map (teamZ lo hi fun t => (valW (tabOf w fs) t).getD 0)).sum + gamesZ pl g fs ps := by
    unfold billZ
    rw [Int.zero_add]
  rw [hz]
  exact ret_at (v_at rfl)
end M

set_option Elab.async false
set_option linter.all false
set_option maxRecDepth 100000
set_option maxHeartbeats 4000000
namespace M
open PySem L2

/-! ### a bill is not more than what an outcome within the bounds costs -/
theorem sum_none {pl : Wins} {z : Str} : (∀ p ∈ pl, p.1 ≠ z) → (pl.map fun p => if z = p.1 then p.2 else 0).sum = 0 := by
  induction pl with
  | nil => intro _; rfl
  | cons p pl ih =>
    intro h
    rw [List.map_cons, List.sum_cons, ih fun q hq => h q (List.mem_cons_of_mem _ hq), if_neg fun e => h p List.mem_cons_self e.symm]
    rfl
theorem sum_one {z : Str} : ∀ {pl : Wins}, NdW pl → hasW pl z = true → (pl.map fun p => if z = p.1 then p.2 else 0).sum = pvZ pl z
  | [], _, h => by cases h
  | p :: pl, hn, h => by
    have hn2 := List.nodup_cons.mp (show (p.1 :: pl.map (·.1)).Nodup from hn)
    rw [List.map_cons, List.sum_cons]
    have e : pvZ (p :: pl) z = if p.1 = z then p.2 else pvZ pl z := by
      unfold pvZ
      rw [valW_cons]
      split <;> rfl
    by_cases q : p.1 = z
    · rw [e, if_pos q, if_pos q.symm, sum_none fun r hr hz => hn2.1 (by rw [q, ← hz]; exact List.mem_map.mpr ⟨r, hr, rfl⟩), Int.add_zero]
    · have h2 : hasW pl z = true := by
        unfold hasW at h ⊢
        rw [valW_cons, if_neg q] at h
        exact h
      rw [e, if_neg q, if_neg fun z => q z.symm, sum_one hn2.2 h2, Int.zero_add]
theorem sum_add {α : Type} (F G : α → Int) : ∀ l : List α, (l.map fun x => F x + G x).sum = (l.map F).sum + (l.map G).sum
  | [] => rfl
  | x :: l => by rw [List.map_cons, List.map_cons, List.map_cons, List.sum_cons, List.sum_cons, List.sum_cons, sum_add F G l]; omega
theorem sum_le {α : Type} {F G : α → Int} : ∀ {l : List α}, (∀ x ∈ l, F x ≤ G x) → (l.map F).sum ≤ (l.map G).sum
  | [], _ => Int.le_refl _
  | x :: l, h => by
    rw [List.map_cons, List.map_cons, List.sum_cons, List.sum_cons]
    have := sum_le fun y hy => h y (List.mem_cons_of_mem _ hy)
    have := h x List.mem_cons_self
    omega
theorem sum_zero {α : Type} : ∀ l : List α, (l.map fun _ => (0 : Int)).sum = 0
  | [] => rfl
  | x :: l => by rw [List.map_cons, List.sum_cons, sum_zero l]; rfl
def cnt (zs : List Str) (t : Str) : Int := ((zs.count t : Nat) : Int)
theorem cnt_cons {z : Str} {zs : List Str} {t : Str} : cnt (z :: zs) t = cnt zs t + if z = t then 1 else 0 := by
  unfold cnt
  rw [List.count_cons]
  by_cases q : z = t
  · simp [q]
  · simp [q]
/-- pulls times what one outcome has over another -/
def shiftZ (pl : Wins) : List Str → List Str → Int
  | z :: zs, f :: fs => pvZ pl z - pvZ pl f + shiftZ pl zs fs
  | _, _ => 0
theorem shift_sum {pl : Wins} (hn : NdW pl) : ∀ (zs fs : List Str), zs.length = fs.length → (∀ z ∈ zs, hasW pl z = true) → (∀ z ∈ fs, hasW pl z = true) → (pl.map fun p => p.2 * (cnt zs p.1 - cnt fs p.1)).sum = shiftZ pl zs fs
  | [], [], _, _, _ => by
    have : (pl.map fun p => p.2 * (cnt [] p.1 - cnt [] p.1)) = pl.map fun p => (0 : Int) := List.map_congr_left fun p _ => by rw [Int.sub_self, Int.mul_zero]
    rw [this]
    exact sum_zero pl
  | [], f :: fs, h, _, _ => by cases h
  | z :: zs, [], h, _, _ => by cases h
  | z :: zs, f :: fs, h, hz, hf => by
    have ih := shift_sum hn zs fs (Nat.succ.inj h) (fun y hy => hz y (List.mem_cons_of_mem _ hy)) fun y hy => hf y (List.mem_cons_of_mem _ hy)
    have e : (pl.map fun p => p.2 * (cnt (z :: zs) p.1 - cnt (f :: fs) p.1)) = pl.map fun p => p.2 * (cnt zs p.1 - cnt fs p.1) + ((if z = p.1 then p.2 else 0) + (if f = p.1 then -p.2 else 0)) := by
      apply List.map_congr_left
      intro p _
      rw [cnt_cons, cnt_cons]
      have : cnt zs p.1 + (if z = p.1 then 1 else 0) - (cnt fs p.1 + if f = p.1 then 1 else 0) = (cnt zs p.1 - cnt fs p.1) + ((if z = p.1 then 1 else 0) - if f = p.1 then 1 else 0) := by omega
      rw [this, Int.mul_add]
      congr 1
      by_cases q1 : z = p.1 <;> by_cases q2 : f = p.1 <;> simp [q1, q2] <;> omega
    have neg : (pl.map fun p => if f = p.1 then -p.2 else 0).sum = - pvZ pl f := by
      have h1 := sum_one hn (hf f List.mem_cons_self)
      have h2 := sum_add (fun p : Str × Int => if f = p.1 then p.2 else 0) (fun p => if f = p.1 then -p.2 else 0) pl
      have h3 : (pl.map fun p : Str × Int => (if f = p.1 then p.2 else 0) + (if f = p.1 then -p.2 else 0)).sum = 0 := by
        clear ih e h1 h2 hn hz hf
        induction pl with
        | nil => rfl
        | cons p pl ih => rw [List.map_cons, List.sum_cons, ih]; split <;> omega
      omega
    rw [e, sum_add, sum_add, ih, sum_one hn (hz z List.mem_cons_self), neg]
    show _ = pvZ pl z - pvZ pl f + shiftZ pl zs fs
    omega
/-- the games' part -/
theorem games_le {pl : Wins} : ∀ {g : Games} {fs zs : List Str} (ps : List Int), IsOut g fs → IsOut g zs → Apart g → ps.length = g.length → (∀ p ∈ ps, 0 ≤ p) → shiftZ pl zs fs + gamesZ pl g fs ps ≤ costZ fs ps zs
  | [], fs, zs, ps, hf, hz, _, hp, _ => by
    cases hf
    cases hz
    unfold shiftZ gamesZ costZ costL
    exact Int.le_refl _
  | x :: g, fs, zs, [], _, _, _, hp, _ => by cases hp
  | x :: g, fs, zs, p :: ps, hf, hz, ha, hp, h0 => by
    cases hf with
    | @cons f _ fs _ rf tf =>
    cases hz with
    | @cons z _ zs _ rz tz =>
      have ih := games_le (pl := pl) ps tf tz (fun y hy => ha y (List.mem_cons_of_mem _ hy)) (Nat.succ.inj hp) fun q hq => h0 q (List.mem_cons_of_mem _ hq)
      have hx := ha x List.mem_cons_self
      have hp0 := h0 p List.mem_cons_self
      have key : pvZ pl z - pvZ pl f + gameZ pl x f p ≤ if f = z then 0 else p := by
        by_cases q : f = z
        · rw [if_pos q, q]
          unfold gameZ
          omega
        · rw [if_neg q]
          have : othS x f = z := by
            have rf : inG f x = true := rf
            have rz : inG z x = true := rz
            unfold inG at rf rz
            rw [Bool.or_eq_true] at rf rz
            unfold othS
            rcases rf with rf | rf <;> rcases rz with rz | rz
            · exact absurd ((by simpa using rf : x.1 = f).symm.trans (by simpa using rz)) q
            · rw [if_pos (by simpa using rf : x.1 = f).symm]; simpa using rz
            · have : ¬ f = x.1 := fun e => q (e.trans (by simpa using rz))
              rw [if_neg this]; simpa using rz
            · exact absurd ((by simpa using rf : x.2 = f).symm.trans (by simpa using rz)) q
          unfold gameZ
          rw [this]
          omega
      have ec : costZ (f :: fs) (p :: ps) (z :: zs) = (if f = z then 0 else p) + costZ fs ps zs := by
        unfold costZ
        rw [show costL (f :: fs) (p :: ps) (z :: zs) = if f = z then costL fs ps zs else p :: costL fs ps zs from rfl]
        split
        · rw [Int.zero_add]
        · rw [List.sum_cons]
      rw [ec]
      show pvZ pl z - pvZ pl f + shiftZ pl zs fs + (gameZ pl x f p + gamesZ pl g fs ps) ≤ _
      omega
/-- the plain law of k40 -/
theorem bill_le {w : Wins} {g : Games} {lo hi : Str → Int} {fs zs : List Str} {ps : List Int} {pl : Wins} (f : Wf w g) (hf : IsOut g fs) (hz : IsOut g zs) (hps : ps.length = g.length) (h0 : ∀ p ∈ ps, 0 ≤ p) (hn : NdW pl) (hk : ∀ t, t ∈ pl.map (·.1) ↔ t ∈ w.map (·.1))
    (keeps : ∀ t ∈ w.map (·.1), lo t ≤ (valW (tabOf w zs) t).getD 0 ∧ (valW (tabOf w zs) t).getD 0 ≤ hi t) : billZ w g lo hi fs ps pl ≤ costZ fs ps zs := by
  have has : ∀ t, hasW pl t = hasW w t := fun t => by rw [Bool.eq_iff_iff, hasW_iff, hasW_iff]; exact hk t
  have h1 : (pl.map (teamZ lo hi fun t => (valW (tabOf w fs) t).getD 0)).sum ≤ (pl.map fun p => p.2 * (cnt zs p.1 - cnt fs p.1)).sum := sum_le fun p hm => by
    have ht : p.1 ∈ w.map (·.1) := (hk p.1).mp (List.mem_map.mpr ⟨p, hm, rfl⟩)
    obtain ⟨k1, k2⟩ := keeps p.1 ht
    have := team_le (tf := (valW (tabOf w fs) p.1).getD 0) (x := p.2) k1 k2
    refine Int.le_trans this (Int.le_of_eq ?_)
    congr 1
    rw [bumps_val, bumps_val]
    cases q : valW w p.1 with
    | none => have := hasW_of ht; unfold hasW at this; rw [q] at this; cases this
    | some i =>
      show i + cnt zs p.1 - (i + cnt fs p.1) = _
      omega
  rw [shift_sum hn zs fs (hz.len.trans hf.len.symm) (fun z h => by rw [has]; exact f.mem hz z h) (fun z h => by rw [has]; exact f.mem hf z h)] at h1
  have h2 := games_le (pl := pl) ps hf hz f.ap hps h0
  unfold billZ
  omega
end M

set_option Elab.async false
set_option linter.all false
set_option maxRecDepth 100000
set_option maxHeartbeats 4000000
namespace M
open PySem L2

/-! ### pulls that are drawn -/
theorem prows_of {names : List Str} {ys : List D} (p : Paired (fun d y => ∃ t i, d = D.str t ∧ y = D.tup [.str t, .int i] ∧ -1000 ≤ i ∧ i ≤ 1000) (names.map D.str) ys) : ∃ w : Wins, ys = w.map rowD ∧ w.map (·.1) = names ∧ ∀ q ∈ w, -1000 ≤ q.2 ∧ q.2 ≤ 1000 := by
  induction names generalizing ys with
  | nil => cases p; exact ⟨[], rfl, rfl, fun _ h => by cases h⟩
  | cons x names ih =>
    cases p with
    | cons r p =>
      obtain ⟨t, i, h1, rfl, h2, h3⟩ := r
      cases h1
      obtain ⟨w, rfl, hw, hv⟩ := ih p
      refine ⟨(x, i) :: w, rfl, by rw [List.map_cons, hw], fun q hq => ?_⟩
      rcases List.mem_cons.mp hq with rfl | hq
      · exact ⟨h2, h3⟩
      · exact hv q hq
def pullLs : List D := [.lst [.int 0, .int 0, .int 1, .int (-1)], .lst [.int 0, .int 1, .int 2, .int (-2), .int 5], .lst [.int 0, .int 0, .int 0, .int 1000, .int (-1000), .int 7]]
theorem pull_ls {d : D} (hd : d ∈ pullLs) : ∃ l : List Int, d = .lst (l.map D.int) ∧ l ≠ [] ∧ l.length < 1000000 ∧ ∀ i ∈ l, -1000 ≤ i ∧ i ≤ 1000 := by
  unfold pullLs at hd
  simp at hd
  rcases hd with rfl | rfl | rfl
  · exact ⟨[0, 0, 1, -1], rfl, by simp, by decide, by decide⟩
  · exact ⟨[0, 1, 2, -2, 5], rfl, by simp, by decide, by decide⟩
  · exact ⟨[0, 0, 0, 1000, -1000, 7], rfl, by simp, by decide, by decide⟩
theorem q_pulls {n : Nat} {w : Wins} {g : Games} {S : Sm} (hn : NdW w) (hw : w.length ≤ 20) (gd : Good (n + 21) S) : ∃ (pl : Wins) (S' : Sm), m_law_drawn_pulls [.strm, seaT w g] S = some (winD pl, S') ∧ pl.map (·.1) = w.map (·.1) ∧ (∀ p ∈ pl, -1000 ≤ p.2 ∧ p.2 ≤ 1000) ∧ Good n S' := by
  obtain ⟨d, S1, e1, hd, g1⟩ := q_pick (xs := pullLs) (n := n + 20) gd (by simp [pullLs]) (by show 3 < 1000000; decide)
  obtain ⟨l, rfl, l0, l1, l2⟩ := pull_ls hd
  obtain ⟨ys, S2, e, p, g2⟩ := lc_run (i := 3) (c := 1) (E := [.v .strm, .v (seaT w g), .v (.lst (l.map D.int)), .no]) (fe := tupE (consA (vE 3) (consA (mE m_law_pick 2 (consA (vE 0) (consA (vE 2) nilA))) nilA))) (R := fun d y => ∃ t i, d = D.str t ∧ y = D.tup [.str t, .int i] ∧ -1000 ≤ i ∧ i ≤ 1000) (show 3 < 4 by decide) (items := (keysOf w).map D.str) (fun d hd m S g1 => by
    obtain ⟨t, _, rfl⟩ := List.mem_map.mp hd
    obtain ⟨y, S', e, hy, g'⟩ := q_pick (xs := l.map D.int) (n := m) g1 (fun z => l0 (List.map_eq_nil_iff.mp z)) (by rw [List.length_map]; exact l1)
    obtain ⟨i, hi, rfl⟩ := List.mem_map.mp hy
    exact ⟨_, S', tup_at2 (v_at rfl) (m_at2 (v_at rfl) (v_at rfl) e), ⟨t, i, rfl, rfl, (l2 i hi).1, (l2 i hi).2⟩, g'⟩) n S1 .no (g1.mono (by rw [List.length_map, List.length_map]; omega))
  obtain ⟨pl, rfl, h1, h2⟩ := prows_of p
  have hnd : NdW pl := by unfold NdW; rw [h1]; exact hn
  refine ⟨pl, S2, run_rt (E' := [.v .strm, .v (seaT w g), .v (.lst (l.map D.int)), .no]) ?_, h1, h2, g2⟩
  have hk : keysF (opE ixD (vE 1) (cE (.int 0))) [.v .strm, .v (seaT w g), .v (.lst (l.map D.int)), .no] S1 = some ((keysOf w).map D.str, S1) := by
    rw [keysF_win (w := w) (op_at (v_at rfl) rfl seai0), kstr]
  show (seqS (setS 2 (mE m_law_pick 2 (consA (vE 0) (consA (lstE (consA (lstE (consA (cE (.int 0)) (consA (cE (.int 0)) (consA (cE (.int 1)) (consA (negU (cE (.int 1))) nilA))))) (consA (lstE (consA (cE (.int 0)) (consA (cE (.int 1)) (consA (cE (.int 2)) (consA (negU (cE (.int 2))) (consA (cE (.int 5)) nilA)))))) (consA (lstE (consA (cE (.int 0)) (consA (cE (.int 0)) (consA (cE (.int 0)) (consA (cE (.int 1000)) (consA (negU (cE (.int 1000))) (consA (cE (.int 7)) nilA))))))) nilA)))) nilA)))) (retS (callE dictN (consA (lcE (keysF (opE ixD (vE 1) (cE (.int 0)))) (tgN 3) yesT (tupE (consA (vE 3) (consA (mE m_law_pick 2 (consA (vE 0) (consA (vE 2) nilA))) nilA))) [3]) nilA)))) [.v .strm, .v (seaT w g), .no, .no] S = _
  rw [seq_nx (set_at (i := 2) (m_at2 (b := .lst pullLs) (v_at rfl) rfl e1) (by show 2 < 4; decide))]
  exact ret_at (call_at1 (lce_at hk (by rw [List.length_map, List.length_map]; omega) rfl rfl e) (dict_win hnd))
/-! ### an outcome keeps the bounds -/
end M

set_option Elab.async false
set_option linter.all false
set_option maxRecDepth 100000
set_option maxHeartbeats 4000000
namespace M
open PySem L2

theorem ch_at {fa fb fc : FE} {E : Ev} {S S1 S2 : Sm} {a b c : Int} (h1 : fa E S = some (.int a, S1)) (h2 : fb E S1 = some (.int b, S2)) (h3 : fc E S2 = some (.int c, S2)) : chE leI leI fa fb fc E S = some (.bl (decide (a ≤ b) && decide (b ≤ c)), S2) := by
  unfold chE
  simp only [h1, h2, le_int]
  cases decide (a ≤ b) with
  | false => rfl
  | true => simp only [h3, le_int, Bool.true_and]
theorem all_blsF (l : List Bool) : allN [.lst (l.map D.bl)] = some (.bl (l.all id)) := by
  show (bools? (l.map D.bl)).map (fun bs => D.bl (bs.all id)) = _
  rw [bools_map]
  rfl
def keepB (lo hi : Str → Int) (tb : Wins) : Bool := tb.all fun p => decide (lo p.1 ≤ p.2) && decide (p.2 ≤ hi p.1)
theorem keep_lc {sea bd fo : D} {tb : Wins} {lo hi : Str → Int} {S : Sm} (hn : NdW tb) (hb : Bds bd lo hi (tb.map (·.1))) : ∀ l : Wins, (∀ p ∈ l, p ∈ tb) → lcL (tgN 4) yesT (chE leI leI (subE (subE (vE 1) (vE 4)) (cE (.int 0))) (subE (vE 3) (vE 4)) (subE (subE (vE 1) (vE 4)) (cE (.int 1)))) (l.map fun p => D.str p.1) [.v sea, .v bd, .v fo, .v (winD tb), .no] S = some ((l.map fun p => decide (lo p.1 ≤ p.2) && decide (p.2 ≤ hi p.1)).map D.bl, S)
  | [], _ => rfl
  | p :: l, h => by
    have ih := keep_lc (sea := sea) (fo := fo) (S := S) hn hb l fun q hq => h q (List.mem_cons_of_mem _ hq)
    have hm := h p List.mem_cons_self
    obtain ⟨d, h3, h4⟩ := hb p.1 (List.mem_map.mpr ⟨p, hm, rfl⟩)
    obtain ⟨g0, g1⟩ := pr_sub h4
    exact lc_yes (E1 := [.v sea, .v bd, .v fo, .v (winD tb), .v (.str p.1)]) rfl rfl (ch_at (sub_at (sub_at (v_at rfl) (v_at rfl) h3) rfl g0) (sub_at (v_at rfl) (v_at rfl) (by rw [sub_win, valW_mem hn hm]; rfl)) (sub_at (sub_at (v_at rfl) (v_at rfl) h3) rfl g1)) ih
theorem q_keeps {w : Wins} {g : Games} {bd : D} {lo hi : Str → Int} {zs : List Str} {S : Sm} (f : Wf w g) (hz : IsOut g zs) (hb : Bds bd lo hi (w.map (·.1))) : m_law_keeps [seaT w g, bd, strsD zs] S = some (.bl (keepB lo hi (tabOf w zs)), S) := by
  have e1 := q_table (g := g) (S := S) f.nd (show w.length ≤ 1000 by have := f.lw; omega) (f.mem hz)
  have fst : ∀ {zs : List Str} {w : Wins}, (tabOf w zs).map (·.1) = w.map (·.1) := fun {zs} => by
    induction zs with
    | nil => intro w; rfl
    | cons z zs ih => intro w; show (tabOf (bump w z) zs).map (·.1) = _; rw [ih, bump_fst]
  have e2 := keep_lc (sea := seaT w g) (fo := strsD zs) (S := S) (bumps_nd (zs := zs) f.nd) (by rw [fst]; exact hb) (tabOf w zs) fun _ h => h
  have a1 : setS 3 (mE m_law_table 2 (consA (vE 0) (consA (vE 2) nilA))) [.v (seaT w g), .v bd, .v (strsD zs), .no, .no] S = some (.nx, [.v (seaT w g), .v bd, .v (strsD zs), .v (winD (tabOf w zs)), .no], S) :=
    set_at (i := 3) (m_at2 (v_at rfl) (v_at rfl) e1) (by show 3 < 5; decide)
  refine run_rt (E' := [.v (seaT w g), .v bd, .v (strsD zs), .v (winD (tabOf w zs)), .no]) ?_
  show g_law_keeps [.v (seaT w g), .v bd, .v (strsD zs), .no, .no] S = _
  unfold g_law_keeps
  rw [seq_nx a1]
  have hk := keysF_win (w := tabOf w zs) (f := vE 3) (E := [.v (seaT w g), .v bd, .v (strsD zs), .v (winD (tabOf w zs)), .no]) (S := S) (S' := S) (v_at rfl)
  have hl : ((tabOf w zs).map fun p => D.str p.1).length ≤ 1000000 := by
    rw [List.length_map, ← List.length_map (f := fun p : Str × Int => p.1), fst, List.length_map]
    have := f.lw
    omega
  refine ret_at (call_at1 (lce_at hk hl rfl rfl e2) ?_)
  rw [all_blsF]
  unfold keepB
  rw [List.all_map]
  rfl
/-- as bill_le wants it -/
theorem keeps_of {w : Wins} {lo hi : Str → Int} {zs : List Str} (hn : NdW w) (h : keepB lo hi (tabOf w zs) = true) : ∀ t ∈ w.map (·.1), lo t ≤ (valW (tabOf w zs) t).getD 0 ∧ (valW (tabOf w zs) t).getD 0 ≤ hi t := fun t ht => by
  obtain ⟨i, hi'⟩ : ∃ i, valW (tabOf w zs) t = some i := by
    have := hasW_tab (w := w) (zs := zs) (t := t)
    rw [hasW_of ht] at this
    unfold hasW at this
    cases q : valW (tabOf w zs) t with
    | none => rw [q] at this; cases this
    | some i => exact ⟨i, rfl⟩
  unfold keepB at h
  rw [List.all_eq_true] at h
  have := h _ (mem_val hi')
  rw [Bool.and_eq_true, decide_eq_true_iff, decide_eq_true_iff] at this
  rw [hi']
  exact this
end M

set_option Elab.async false
set_option linter.all false
set_option maxRecDepth 100000
set_option maxHeartbeats 4000000
namespace M
open PySem L2

/-! ### law_same of dicts -/
def itemsD (kds : List (Key × D)) : List D := kds.map fun p => .tup [kD p.1, p.2]
def okSame2 : Nat → D → Prop
  | 0, _ => False
  | n + 1, d => match d with
    | .non => True
    | .bl _ => True
    | .int _ => True
    | .str _ => True
    | .lst ds => ds.length ≤ 1000000 ∧ ∀ x ∈ ds, okSame2 n x
    | .tup ds => ds.length ≤ 1000000 ∧ ∀ x ∈ ds, okSame2 n x
    | .dic kds => okSame2 n (.lst (itemsD kds))
    | _ => False
theorem is_dic (ns : List String) (ds : List (Key × D)) : isB ns (.dic ds) = some (.bl (ns.any fun n => tyB "dict" n)) := rfl
theorem items_at {f : FE} {E : Ev} {S S1 : Sm} {kds : List (Key × D)} (h : f E S = some (.dic kds, S1)) : itemsE f E S = some (.lst (itemsD kds), S1) := by
  unfold itemsE itemsD
  simp only [h]
theorem q_same2 : ∀ {n : Nat} {d : D} {S : Sm}, okSame2 n d → m_law_same n [d, d] S = some (.bl true, S)
  | 0, _, _, h => h.elim
  | n + 1, d, S, h => by
    have ih := fun x (hx : okSame2 n x) => q_same2 (n := n) (d := x) (S := S) hx
    unfold m_law_same
    cases d with
    | non => simp [g_law_same, runS, is_non, is_str, tyB, isNonD, eqA]
    | bl b => cases b <;> simp [g_law_same, runS, is_bl, tyB, eqA]
    | int i => simp [g_law_same, runS, is_int, tyB, isNonD]
    | str i => simp [g_law_same, runS, is_str, tyB, isNonD]
    | lst ds =>
      have hl : (zipD ds ds).length ≤ 1000000 := by rw [zipD_len]; exact Nat.le_trans (Nat.min_le_left _ _) h.1
      have h1 := fun a b c d => same_list (self := m_law_same n) (S := S) (ds := ds) (fun x hx => ih x (h.2 x hx)) a b c d
      simp [g_law_same, runS, is_lst, tyB, isNonD, zipA, noOwn, hl, h1, all_same]
    | tup ds =>
      have hl : (zipD ds ds).length ≤ 1000000 := by rw [zipD_len]; exact Nat.le_trans (Nat.min_le_left _ _) h.1
      have h1 := fun a b c d => same_list (self := m_law_same n) (S := S) (ds := ds) (fun x hx => ih x (h.2 x hx)) a b c d
      simp [g_law_same, runS, is_tup, tyB, isNonD, zipA, noOwn, hl, h1, all_same]
    | dic kds =>
      have e := ih _ h
      refine run_rt (E' := [.v (.dic kds), .v (.dic kds), .no, .no]) ?_
      show g_law_same (m_law_same n) [.v (.dic kds), .v (.dic kds), .no, .no] S = _
      unfold g_law_same
      have t1 : bT (isE ["list", "tuple"] (vE 1)) [.v (.dic kds), .v (.dic kds), .no, .no] S = some (false, S) := by
        refine bT_at ?_
        rw [x_is, v_at rfl]
        rfl
      have t2 : bT (isE ["dict"] (vE 1)) [.v (.dic kds), .v (.dic kds), .no, .no] S = some (true, S) := by
        refine bT_at ?_
        rw [x_is, v_at rfl]
        rfl
      rw [x_seq, ifS_f t1]
      show seqS _ _ [.v (.dic kds), .v (.dic kds), .no, .no] S = _
      rw [x_seq, ifS_t t2]
      have t3 : isE ["dict"] (vE 0) [.v (.dic kds), .v (.dic kds), .no, .no] S = some (.bl true, S) := by
        rw [x_is, v_at rfl]
        rfl
      have t4 : andE (isE ["dict"] (vE 0)) (mE (m_law_same n) 2 (consA (itemsE (vE 0)) (consA (itemsE (vE 1)) nilA))) [.v (.dic kds), .v (.dic kds), .no, .no] S = some (.bl true, S) := by
        rw [x_and, t3]
        exact m_at2 (items_at (v_at rfl)) (items_at (v_at rfl)) e
      rw [ret_at t4]
    | _ => exact h.elim
end M

set_option Elab.async false
set_option linter.all false
set_option maxRecDepth 100000
set_option maxHeartbeats 4000000
namespace M
open PySem L2 PySem.Spec PyProof PyProof.Rows

/-! ### repr of a season, by the wider repr -/
theorem q_reprA {w : Wins} {g : Games} (f : Sea w g) : ∃ x, reprA [seaT w g] = some (.str x) := by
  obtain ⟨x, hx⟩ := q_repr f
  have hok : reprOk [winD w, gamesD g] = true := by
    unfold reprN seaT at hx
    simp only [] at hx
    split at hx
    · assumption
    · cases hx
  unfold reprOk at hok
  simp only [Bool.and_eq_true, decide_eq_true_eq] at hok
  obtain ⟨⟨⟨⟨h1, _⟩, h3⟩, h4⟩, _⟩ := hok
  obtain ⟨_, _, _, g4⟩ := games_ok g
  refine ⟨(toP (seaT w g)).shown, ?_⟩
  have hA : reprOkA (seaT w g) = true := by
    unfold reprOkA
    have a1 : okP (seaT w g) = true := by unfold seaT; rw [okP]; exact h1
    have a2 : (toP (seaT w g)).showable = true := by unfold seaT; rw [toP, PyData.showable]; exact h3
    have a3 : (toP (seaT w g)).shown.length ≤ 10000000 := h4
    have a4 : (toP (seaT w g)).depth ≤ 40 := by
      unfold seaT
      simp [toP, toPs, winD, gamesD, PyData.depthAll, PyData.depth, depth_win]
      omega
    rw [a1, a2, decide_eq_true a3, decide_eq_true a4]
    rfl
  show (if reprOkA (seaT w g) = true then some (D.str (toP (seaT w g)).shown) else none) = _
  rw [if_pos hA]
end M

set_option Elab.async false
set_option linter.all false
set_option maxRecDepth 100000
set_option maxHeartbeats 4000000
namespace M
open PySem L2

/-! ### the program's cost -/
theorem sq_sub {d : D} {ds : List D} (h : sq d ds) (n : Nat) : orO ixD getD d (.int (n : Int)) = ds[n]? := by
  rcases h with rfl | rfl
  · unfold orO ixD getD
    simp only [atI_nat]
    cases ds[n]? <;> rfl
  · unfold orO ixD getD
    simp only [atI_nat]
    cases ds[n]? <;> rfl
theorem cost_lc2 {o fd pd : D} {fs0 : List Str} {ps0 : List Int} {x y : Sl} {S : Sm} (hf : sq fd (fs0.map D.str)) (hp : sq pd (ps0.map D.int)) : ∀ (zs : List Str) (fs pf : List Str) (ps pp : List Int), fs0 = pf ++ fs → ps0 = pp ++ ps → pp.length = pf.length → fs.length = zs.length → ps.length = zs.length →
    lcL (tgT 2 (tgCons (tgN 3) (tgCons (tgN 4) tgNil))) (bT (opE (notO eqA) (vE 4) (subE (vE 1) (vE 3)))) (subE (vE 2) (vE 3)) (enumD pf.length (zs.map D.str)) [.v o, .v fd, .v pd, x, y] S = some ((costL fs ps zs).map D.int, S)
  | [], fs, pf, ps, pp, _, _, _, h1, h2 => by
    have : fs = [] := List.length_eq_zero_iff.mp h1
    subst this
    rfl
  | z :: zs, [], pf, ps, pp, _, _, _, h1, _ => by cases h1
  | z :: zs, f :: fs, pf, [], pp, _, _, _, _, h2 => by cases h2
  | z :: zs, f :: fs, pf, p :: ps, pp, e1, e2, e3, h1, h2 => by
    have ih := cost_lc2 (o := o) (x := x) (y := y) (S := S) hf hp zs fs (pf ++ [f]) ps (pp ++ [p]) (by rw [e1]; simp) (by rw [e2]; simp) (by simp [e3]) (Nat.succ.inj h1) (Nat.succ.inj h2)
    rw [List.length_append, List.length_singleton] at ih
    have s1 : orO ixD getD fd (.int (pf.length : Nat)) = some (.str f) := by rw [sq_sub hf, e1]; simp
    have s2 : orO ixD getD pd (.int (pf.length : Nat)) = some (.int p) := by rw [sq_sub hp, e2, ← e3]; simp
    have hc : bT (opE (notO eqA) (vE 4) (subE (vE 1) (vE 3))) [.v o, .v fd, .v pd, .v (.int (pf.length : Nat)), .v (.str z)] S = some (!decide (z = f), S) := bT_at (op_at (v_at rfl) (sub_at (v_at rfl) (v_at rfl) s1) ne_str)
    rw [List.map_cons, enumD]
    unfold costL
    by_cases q : f = z
    · rw [decide_eq_true q.symm] at hc
      rw [if_pos q]
      exact lc_no (E1 := [.v o, .v fd, .v pd, .v (.int (pf.length : Nat)), .v (.str z)]) rfl hc ih
    · rw [decide_eq_false fun e => q e.symm] at hc
      rw [if_neg q]
      exact lc_yes (E1 := [.v o, .v fd, .v pd, .v (.int (pf.length : Nat)), .v (.str z)]) rfl hc (sub_at (v_at rfl) (v_at rfl) s2) ih
theorem q_cost_of {od fd pd : D} {zs fs : List Str} {ps : List Int} {S : Sm} (ho : sq od (zs.map D.str)) (hf : sq fd (fs.map D.str)) (hp : sq pd (ps.map D.int)) (h1 : fs.length = zs.length) (h2 : ps.length = zs.length) (hz : zs.length ≤ 1000) : m_cost_of [od, fd, pd] S = some (.int (costZ fs ps zs), S) := by
  refine run_rt (E' := [.v od, .v fd, .v pd, .no, .no]) ?_
  show g_cost_of [.v od, .v fd, .v pd, .no, .no] S = _
  unfold g_cost_of
  have hi : enA (consA (vE 0) nilA) [.v od, .v fd, .v pd, .no, .no] S = some (enumD 0 (zs.map D.str), S) := en_sq ho (by rw [x_cons, v_at rfl]; rfl)
  have e := cost_lc2 (o := od) (x := .no) (y := .no) (S := S) hf hp zs fs [] ps [] rfl rfl rfl h1 h2
  refine ret_at (call_at1 (lce_at hi (by rw [enumD_len', List.length_map]; omega) rfl rfl e) ?_)
  unfold sumN
  simp only [ints_map]
  rfl
end M

set_option Elab.async false
set_option linter.all false
set_option maxRecDepth 100000
set_option maxHeartbeats 4000000
namespace M
open PySem L2

theorem len_sq {d : D} {ds : List D} (h : sq d ds) : lenN [d] = some (.int ds.length) := by rcases h with rfl | rfl <;> rfl
theorem q_is_rowN {d : D} {ds : List D} {n : Nat} {S : Sm} (h : sq d ds) (hn : ds.length = n) : m_is_row [d, .int (n : Int)] S = some (.bl true, S) := by
  have h1 := q_is_list (S := S) h
  have h2 := len_sq h
  refine run_rt (E' := [.v d, .v (.int (n : Int))]) ?_
  show g_is_row [.v d, .v (.int (n : Int))] S = _
  unfold g_is_row
  refine ret_at ?_
  rw [x_and, m_at1 (v_at rfl) h1]
  exact op_at (call_at1 (v_at rfl) h2) (v_at rfl) (by rw [eq_int, hn]; simp)
noncomputable def foB (C : Addr) : FS := ifS (orT (notT (bT (isE ["str"] (vE 3)))) (bT (ninE (vE 3) (subE (fldE C "own_games" (vE 0)) (vE 2))))) (retS (tupE (consA (cE (.str "game")) (consA (vE 2) nilA)))) nextS
theorem fo_loop {C : Addr} {w : Wins} {g : Games} {o : D} {S : Sm} : ∀ (suf pre : Games) (zs : List Str), g = pre ++ suf → IsOut suf zs → ∀ (a b : Sl), ∃ a' b', forL (tgT 2 (tgCons (tgN 2) (tgCons (tgN 3) tgNil))) (foB C) (enumD pre.length (zs.map D.str)) [.v (seasD C w g), .v o, a, b] S = some (.nx, [.v (seasD C w g), .v o, a', b'], S)
  | [], pre, zs, e, ho, a, b => by
    have hz : zs = [] := List.length_eq_zero_iff.mp (by rw [ho.len]; rfl)
    subst hz
    exact ⟨a, b, rfl⟩
  | x :: suf, pre, [], e, ho, a, b => by have := ho.len; simp at this
  | x :: suf, pre, z :: zs, e, ho, a, b => by
    obtain ⟨r, t⟩ : inG z x = true ∧ IsOut suf zs := by
      cases ho with
      | cons r t => exact ⟨r, t⟩
    have hx : g[pre.length]? = some x := by rw [e]; simp
    obtain ⟨a', b', e2⟩ := fo_loop (C := C) (w := w) (g := g) (o := o) (S := S) suf (pre ++ [x]) zs (by rw [e]; simp) t (.v (.int (pre.length : Nat))) (.v (.str z))
    rw [List.length_append, List.length_singleton] at e2
    refine ⟨a', b', ?_⟩
    have hs : orO ixD getD (gamesD g) (.int (pre.length : Nat)) = some (gameD x) := by rw [sub_games, hx]; rfl
    have c1 : notT (bT (isE ["str"] (vE 3))) [.v (seasD C w g), .v o, .v (.int (pre.length : Nat)), .v (.str z)] S = some (false, S) := by
      have c0 : isE ["str"] (vE 3) [.v (seasD C w g), .v o, .v (.int (pre.length : Nat)), .v (.str z)] S = some (.bl true, S) := by
        rw [x_is, v_at rfl]
        rfl
      exact notT_at (bT_at c0)
    have c2 : bT (ninE (vE 3) (subE (fldE C "own_games" (vE 0)) (vE 2))) [.v (seasD C w g), .v o, .v (.int (pre.length : Nat)), .v (.str z)] S = some (false, S) := by
      refine bT_at (op_at (v_at rfl) (sub_at fld_games (v_at rfl) hs) ?_)
      have := in_game (t := z) (g := x)
      simp [orO, notO, inSq, inStr, gameD, flatD, eqFD] at this ⊢
      unfold inG at r
      rw [Bool.or_eq_true] at r
      rcases r with r | r
      · exact fun n => absurd (by simpa using r) n
      · exact fun _ => by simpa using r
    have b1 : foB C [.v (seasD C w g), .v o, .v (.int (pre.length : Nat)), .v (.str z)] S = some (.nx, [.v (seasD C w g), .v o, .v (.int (pre.length : Nat)), .v (.str z)], S) := by
      unfold foB
      rw [ifS_f (by rw [orT_f c1, c2])]
      rfl
    rw [List.map_cons, enumD, forL_nx (show tgT 2 (tgCons (tgN 2) (tgCons (tgN 3) tgNil)) (.tup [.int (pre.length : Nat), .str z]) [.v (seasD C w g), .v o, a, b] = some [.v (seasD C w g), .v o, .v (.int (pre.length : Nat)), .v (.str z)] from rfl) b1]
    exact e2
theorem q_fault {C : Addr} {w : Wins} {g : Games} {o : D} {zs : List Str} {S : Sm} (hs : sq o (zs.map D.str)) (ho : IsOut g zs) : m_fault_of_outcome C [seasD C w g, o] S = some (.non, S) := by
  have hl := ho.len
  have e0 := q_is_rowN (n := g.length) (S := S) hs (by rw [List.length_map]; exact hl)
  obtain ⟨a', b', e1⟩ := fo_loop (C := C) (w := w) (g := g) (o := o) (S := S) g [] zs rfl ho .no .no
  have c0 : notT (bT (mE m_is_row 2 (consA (vE 1) (consA (callE lenN (consA (fldE C "own_games" (vE 0)) nilA)) nilA)))) [.v (seasD C w g), .v o, .no, .no] S = some (false, S) := notT_at (bT_at (m_at2 (v_at rfl) (call_at1 fld_games len_games) e0))
  have a1 : ifS (notT (bT (mE m_is_row 2 (consA (vE 1) (consA (callE lenN (consA (fldE C "own_games" (vE 0)) nilA)) nilA))))) (retS (tupE (consA (cE (.str "form")) nilA))) nextS [.v (seasD C w g), .v o, .no, .no] S = some (.nx, [.v (seasD C w g), .v o, .no, .no], S) := by
    rw [ifS_f c0]
    rfl
  have a2 : forS (enA (consA (vE 1) nilA)) (tgT 2 (tgCons (tgN 2) (tgCons (tgN 3) tgNil))) (foB C) [.v (seasD C w g), .v o, .no, .no] S = some (.nx, [.v (seasD C w g), .v o, a', b'], S) := by
    have hi : enA (consA (vE 1) nilA) [.v (seasD C w g), .v o, .no, .no] S = some (enumD 0 (zs.map D.str), S) := en_sq hs (by rw [x_cons, v_at rfl]; rfl)
    rw [x_for, hi]
    exact e1
  refine run_rt (E' := [.v (seasD C w g), .v o, a', b']) ?_
  show (seqS (ifS (notT (bT (mE m_is_row 2 (consA (vE 1) (consA (callE lenN (consA (fldE C "own_games" (vE 0)) nilA)) nilA))))) (retS (tupE (consA (cE (.str "form")) nilA))) nextS) (seqS (forS (enA (consA (vE 1) nilA)) (tgT 2 (tgCons (tgN 2) (tgCons (tgN 3) tgNil))) (foB C)) (retS (cE .non)))) [.v (seasD C w g), .v o, .no, .no] S = _
  rw [seq_nx a1, seq_nx a2]
  rfl
end M

set_option Elab.async false
set_option linter.all false
set_option maxRecDepth 100000
set_option maxHeartbeats 4000000
namespace M
open PySem L2

theorem notN_at {f : FE} {E : Ev} {S S1 : Sm} (h : f E S = some (.non, S1)) : bT (notNE f) E S = some (false, S1) := by
  refine bT_at ?_
  unfold notNE
  simp only [h]
  rfl
theorem num_lc {a b c x : Sl} {S : Sm} : ∀ ps : List Int, (∀ p ∈ ps, 0 ≤ p) → lcL (tgN 3) yesT (mE m_is_number 1 (consA (vE 3) nilA)) (ps.map D.int) [a, b, c, x] S = some ((ps.map fun _ => true).map D.bl, S)
  | [], _ => rfl
  | p :: ps, h => lc_yes (E1 := [a, b, c, .v (.int p)]) rfl rfl (m_at1 (v_at rfl) (q_is_number (h p List.mem_cons_self))) (num_lc ps fun q hq => h q (List.mem_cons_of_mem _ hq))
theorem q_check_forecast {C : Addr} {w : Wins} {g : Games} {fd pd : D} {fs : List Str} {ps : List Int} {S : Sm} (hf : sq fd (fs.map D.str)) (ho : IsOut g fs) (hp : sq pd (ps.map D.int)) (hl : ps.length = g.length) (hg : g.length ≤ 1000) (h0 : ∀ p ∈ ps, 0 ≤ p) : m_check_forecast C [seasD C w g, fd, pd] S = some (.non, S) := by
  have e0 := q_is_rowN (n := g.length) (S := S) hp (by rw [List.length_map]; exact hl)
  have a1 : dropS (mE (m_check_season C) 1 (consA (vE 0) nilA)) [.v (seasD C w g), .v fd, .v pd, .no] S = some (.nx, [.v (seasD C w g), .v fd, .v pd, .no], S) := by
    rw [x_drop, m_at1 (v_at rfl) q_check_season]
  have c2 : bT (notNE (mE (m_fault_of_outcome C) 2 (consA (vE 0) (consA (vE 1) nilA)))) [.v (seasD C w g), .v fd, .v pd, .no] S = some (false, S) := notN_at (m_at2 (v_at rfl) (v_at rfl) (q_fault hf ho))
  have a2 : ifS (bT (notNE (mE (m_fault_of_outcome C) 2 (consA (vE 0) (consA (vE 1) nilA))))) neverS nextS [.v (seasD C w g), .v fd, .v pd, .no] S = some (.nx, [.v (seasD C w g), .v fd, .v pd, .no], S) := by
    rw [ifS_f c2]
    rfl
  have c3 : notT (bT (mE m_is_row 2 (consA (vE 2) (consA (callE lenN (consA (fldE C "own_games" (vE 0)) nilA)) nilA)))) [.v (seasD C w g), .v fd, .v pd, .no] S = some (false, S) := notT_at (bT_at (m_at2 (v_at rfl) (call_at1 fld_games len_games) e0))
  have c4 : notT (bT (callE allN (consA (lcE (itF (vE 2)) (tgN 3) yesT (mE m_is_number 1 (consA (vE 3) nilA)) [3]) nilA))) [.v (seasD C w g), .v fd, .v pd, .no] S = some (false, S) := by
    refine notT_at (b := true) (bT_at (call_at1 (lce_at (it_sq hp (v_at rfl)) (by rw [List.length_map]; omega) rfl rfl (num_lc ps h0)) ?_))
    rw [all_blsF]
    simp
  refine run_nx (E' := [.v (seasD C w g), .v fd, .v pd, .no]) ?_
  show g_check_forecast C [.v (seasD C w g), .v fd, .v pd, .no] S = _
  unfold g_check_forecast
  rw [seq_nx a1, seq_nx a2, ifS_f (by rw [orT_f c3, c4])]
  rfl
theorem q_cost {C : Addr} {w : Wins} {g : Games} {fd pd od : D} {fs zs : List Str} {ps : List Int} {S : Sm} (hf : sq fd (fs.map D.str)) (ho : IsOut g fs) (hp : sq pd (ps.map D.int)) (hl : ps.length = g.length) (hg : g.length ≤ 1000) (h0 : ∀ p ∈ ps, 0 ≤ p) (hz : sq od (zs.map D.str)) (oz : IsOut g zs) : m_cost C [seasD C w g, fd, pd, od] S = some (.int (costZ fs ps zs), S) := by
  have e1 := q_check_forecast (C := C) (w := w) (S := S) hf ho hp hl hg h0
  have e2 := q_cost_of (S := S) hz hf hp (ho.len.trans oz.len.symm) (hl.trans oz.len.symm) (by rw [oz.len]; exact hg)
  have a1 : dropS (mE (m_check_forecast C) 3 (consA (vE 0) (consA (vE 1) (consA (vE 2) nilA)))) [.v (seasD C w g), .v fd, .v pd, .v od] S = some (.nx, [.v (seasD C w g), .v fd, .v pd, .v od], S) := by
    rw [x_drop, m_at3 (v_at rfl) (v_at rfl) (v_at rfl) e1]
  have c2 : bT (notNE (mE (m_fault_of_outcome C) 2 (consA (vE 0) (consA (vE 3) nilA)))) [.v (seasD C w g), .v fd, .v pd, .v od] S = some (false, S) := notN_at (m_at2 (v_at rfl) (v_at rfl) (q_fault hz oz))
  have a2 : ifS (bT (notNE (mE (m_fault_of_outcome C) 2 (consA (vE 0) (consA (vE 3) nilA))))) neverS nextS [.v (seasD C w g), .v fd, .v pd, .v od] S = some (.nx, [.v (seasD C w g), .v fd, .v pd, .v od], S) := by
    rw [ifS_f c2]
    rfl
  refine run_rt (E' := [.v (seasD C w g), .v fd, .v pd, .v od]) ?_
  show g_cost C [.v (seasD C w g), .v fd, .v pd, .v od] S = _
  unfold g_cost
  rw [seq_nx a1, seq_nx a2]
  exact ret_at (m_at3 (v_at rfl) (v_at rfl) (v_at rfl) e2)
end M

set_option Elab.async false
set_option linter.all false
set_option maxRecDepth 100000
set_option maxHeartbeats 4000000
namespace M
open PySem L2

theorem is_at {ns : List String} {f : FE} {E : Ev} {S S1 : Sm} {d x : D} (h : f E S = some (d, S1)) (h2 : isB ns d = some x) : isE ns f E S = some (x, S1) := by
  rw [x_is, h]
  simp only [h2]
theorem and_t {fa fb : FE} {E : Ev} {S S1 : Sm} (h : fa E S = some (.bl true, S1)) : andE fa fb E S = fb E S1 := by
  rw [x_and, h]
theorem lc_all {tg : TgD} {fe : FE} {E : Ev} {S : Sm} : ∀ items : List D, (∀ d ∈ items, ∃ E1, tg d E = some E1 ∧ fe E1 S = some (.bl true, S)) → lcL tg yesT fe items E S = some (List.replicate items.length (.bl true), S)
  | [], _ => rfl
  | d :: r, h => by
    obtain ⟨E1, h1, h2⟩ := h d List.mem_cons_self
    exact lc_yes h1 rfl h2 (lc_all r fun x hx => h x (List.mem_cons_of_mem _ hx))
theorem all_lc {fi : FI} {tg : TgD} {fe : FE} {own : List Nat} {E E1 : Ev} {S S1 : Sm} {items : List D} (h1 : fi E S = some (items, S1)) (h2 : items.length ≤ 1000000) (h3 : noOwn E own = true) (h4 : wipeE E own = E1) (h5 : ∀ d ∈ items, ∃ E2, tg d E1 = some E2 ∧ fe E2 S1 = some (.bl true, S1)) : callE allN (consA (lcE fi tg yesT fe own) nilA) E S = some (.bl true, S1) := call_at1 (lce_at h1 h2 h3 h4 (lc_all items h5)) (all_same _)
theorem len_dic {a : List (Key × D)} : lenN [.dic a] = some (.int a.length) := rfl
theorem len_win {w : Wins} : lenN [winD w] = some (.int w.length) := by
  unfold winD
  rw [len_dic, List.length_map]
/-! ### bounds, in either form -/
def BdR (P : Str → D → Prop) (t : Str) (kd : Key × D) : Prop := kd.1 = .inr t ∧ P t kd.2
/-- a dict from these names to things -/
def DicOf (P : Str → D → Prop) (ts : List Str) (d : D) : Prop := ∃ kds : List (Key × D), d = .dic kds ∧ Paired (BdR P) ts kds
def PrZ (lo hi : Str → Int) (t : Str) (d : D) : Prop := Pr (.int (lo t)) (.int (hi t)) d
abbrev BdIs (bd : D) (lo hi : Str → Int) (ts : List Str) : Prop := DicOf (PrZ lo hi) ts bd
section
variable {P : Str → D → Prop}
theorem bd_keys : ∀ {ts : List Str} {kds : List (Key × D)}, Paired (BdR P) ts kds → (kds.map fun p => kD p.1) = ts.map D.str
  | _, _, .nil => rfl
  | _, _, .cons r p => by rw [List.map_cons, List.map_cons, bd_keys p, r.1]; rfl
theorem bd_val {t : Str} : ∀ {ts : List Str} {kds : List (Key × D)}, Paired (BdR P) ts kds → t ∈ ts → ∃ d, valD kds (.inr t) = some d ∧ P t d
  | _, _, .nil, h => by cases h
  | _, _, @Paired.cons _ _ _ t0 kd ts kds r p, h => by
    by_cases e : t0 = t
    · subst e
      refine ⟨kd.2, ?_, r.2⟩
      unfold valD
      rw [List.find?_cons, r.1]
      simp
    · obtain ⟨d, h1, h2⟩ := bd_val p (by
        rcases List.mem_cons.mp h with h | h
        · exact absurd h.symm e
        · exact h)
      refine ⟨d, ?_, h2⟩
      unfold valD at h1 ⊢
      rw [List.find?_cons, r.1]
      have : decide ((.inr t0 : Key) = .inr t) = false := by simp [e]
      rw [this]
      exact h1
theorem bd_mem {d : D} : ∀ {ts : List Str} {kds : List (Key × D)}, Paired (BdR P) ts kds → d ∈ kds.map (·.2) → ∃ t ∈ ts, P t d
  | _, _, .nil, h => by cases h
  | _, _, @Paired.cons _ _ _ t0 kd ts kds r p, h => by
    rw [List.map_cons] at h
    rcases List.mem_cons.mp h with rfl | h
    · exact ⟨t0, List.mem_cons_self, r.2⟩
    · obtain ⟨t, h1, h2⟩ := bd_mem p h
      exact ⟨t, List.mem_cons_of_mem _ h1, h2⟩
theorem dic_sub {kds : List (Key × D)} {t : Str} {d : D} (h : valD kds (.inr t) = some d) : orO ixD getD (.dic kds) (.str t) = some d := by
  unfold orO ixD getD lookD keyD
  simp only [h]
theorem DicOf.sub {ts : List Str} {bd : D} {t : Str} (h : DicOf P ts bd) (ht : t ∈ ts) : ∃ d, orO ixD getD bd (.str t) = some d ∧ P t d := by
  obtain ⟨kds, rfl, p⟩ := h
  obtain ⟨d, h1, h2⟩ := bd_val p ht
  exact ⟨d, dic_sub h1, h2⟩
end
theorem BdIs.bds {bd : D} {lo hi : Str → Int} {ts : List Str} (h : BdIs bd lo hi ts) : Bds bd lo hi ts := fun t ht => h.sub ht
theorem team_in {C : Addr} {w : Wins} {g : Games} {bd : D} {t : Str} {r : Ev} {S : Sm} (h : hasW w t = true) : andE (isE ["str"] (vE 2)) (inE (vE 2) (fldE C "own_wins" (vE 0))) (.v (seasD C w g) :: .v bd :: .v (.str t) :: r) S = some (.bl true, S) := by
  rw [and_t (is_at (v_at rfl) rfl)]
  exact in_at (v_at rfl) fld_wins (by rw [in_win, h])
theorem q_is_bounds_of {C : Addr} {w : Wins} {g : Games} {bd : D} {lo hi : Str → Int} {S : Sm} (hl : w.length ≤ 20) (hb : BdIs bd lo hi (w.map (·.1))) (h0 : ∀ t ∈ w.map (·.1), 0 ≤ lo t ∧ lo t ≤ hi t) : m_is_bounds_of C [seasD C w g, bd] S = some (.bl true, S) := by
  obtain ⟨kds, rfl, hp⟩ := hb
  have hlen : kds.length = w.length := by rw [← Paired.length hp, List.length_map]
  have hk := bd_keys hp
  refine run_rt (E' := [.v (seasD C w g), .v (.dic kds), .no, .no]) ?_
  show g_is_bounds_of C [.v (seasD C w g), .v (.dic kds), .no, .no] S = _
  unfold g_is_bounds_of
  have c1 : notT (bT (isE ["dict"] (vE 1))) [.v (seasD C w g), .v (.dic kds), .no, .no] S = some (false, S) := notT_at (b := true) (bT_at (is_at (v_at rfl) rfl))
  have c2 : bT (opE (notO eqA) (callE lenN (consA (vE 1) nilA)) (callE lenN (consA (fldE C "own_wins" (vE 0)) nilA))) [.v (seasD C w g), .v (.dic kds), .no, .no] S = some (false, S) :=
    bT_at (op_at (call_at1 (v_at rfl) len_dic) (call_at1 fld_wins len_win) (by rw [ne_int, hlen]; simp))
  have a1 : ifS (orT (notT (bT (isE ["dict"] (vE 1)))) (bT (opE (notO eqA) (callE lenN (consA (vE 1) nilA)) (callE lenN (consA (fldE C "own_wins" (vE 0)) nilA))))) (retS (cE (.bl false))) nextS [.v (seasD C w g), .v (.dic kds), .no, .no] S = some (.nx, [.v (seasD C w g), .v (.dic kds), .no, .no], S) := by
    rw [ifS_f (by rw [orT_f c1, c2])]
    rfl
  have k1 : keysF (vE 1) [.v (seasD C w g), .v (.dic kds), .no, .no] S = some ((w.map (·.1)).map D.str, S) := by
    rw [x_keys, v_at (d := .dic kds) rfl]
    simp only [hk]
  have c3 : notT (bT (callE allN (consA (lcE (keysF (vE 1)) (tgN 2) yesT (andE (isE ["str"] (vE 2)) (inE (vE 2) (fldE C "own_wins" (vE 0)))) [2]) nilA))) [.v (seasD C w g), .v (.dic kds), .no, .no] S = some (false, S) := by
    refine notT_at (b := true) (bT_at (all_lc k1 (by rw [List.length_map, List.length_map]; omega) rfl rfl fun d hd => ?_))
    obtain ⟨t, ht, rfl⟩ := List.mem_map.mp hd
    exact ⟨_, rfl, team_in (hasW_of ht)⟩
  have a2 : ifS (notT (bT (callE allN (consA (lcE (keysF (vE 1)) (tgN 2) yesT (andE (isE ["str"] (vE 2)) (inE (vE 2) (fldE C "own_wins" (vE 0)))) [2]) nilA)))) (retS (cE (.bl false))) nextS [.v (seasD C w g), .v (.dic kds), .no, .no] S = some (.nx, [.v (seasD C w g), .v (.dic kds), .no, .no], S) := by
    rw [ifS_f c3]
    rfl
  rw [seq_nx a1, seq_nx a2]
  have k2 : valsF (vE 1) [.v (seasD C w g), .v (.dic kds), .no, .no] S = some (kds.map (·.2), S) := by
    unfold valsF
    rw [v_at (d := .dic kds) rfl]
  refine ret_at (all_lc k2 (by rw [List.length_map, hlen]; omega) rfl rfl fun d hd => ?_)
  obtain ⟨t, ht, hp⟩ := bd_mem hp hd
  obtain ⟨h1, h2⟩ := h0 t ht
  obtain ⟨s0, s1⟩ := pr_sub hp
  refine ⟨[.v (seasD C w g), .v (.dic kds), .no, .v d], rfl, ?_⟩
  rw [and_t (m_at2 (v_at rfl) rfl (q_is_row hp)), and_t (m_at1 (sub_at (v_at rfl) rfl s0) (q_is_number h1)), and_t (m_at1 (sub_at (v_at rfl) rfl s1) (q_is_number (Int.le_trans h1 h2)))]
  exact op_at (sub_at (v_at rfl) rfl s0) (sub_at (v_at rfl) rfl s1) (by rw [le_int, decide_eq_true h2])
theorem q_check_bounds {C : Addr} {w : Wins} {g : Games} {bd : D} {lo hi : Str → Int} {S : Sm} (hl : w.length ≤ 20) (hb : BdIs bd lo hi (w.map (·.1))) (h0 : ∀ t ∈ w.map (·.1), 0 ≤ lo t ∧ lo t ≤ hi t) : m_check_bounds C [seasD C w g, bd] S = some (.non, S) := by
  have e1 := q_is_bounds_of (C := C) (g := g) (S := S) hl hb h0
  have a1 : dropS (mE (m_check_season C) 1 (consA (vE 0) nilA)) [.v (seasD C w g), .v bd] S = some (.nx, [.v (seasD C w g), .v bd], S) := by
    rw [x_drop, m_at1 (v_at rfl) q_check_season]
  have c : notT (bT (mE (m_is_bounds_of C) 2 (consA (vE 0) (consA (vE 1) nilA)))) [.v (seasD C w g), .v bd] S = some (false, S) := notT_at (b := true) (bT_at (m_at2 (v_at rfl) (v_at rfl) e1))
  refine run_nx (E' := [.v (seasD C w g), .v bd]) ?_
  show g_check_bounds C [.v (seasD C w g), .v bd] S = _
  unfold g_check_bounds
  rw [seq_nx a1, ifS_f c]
  rfl
theorem q_check_task {C : Addr} {w : Wins} {g : Games} {bd fd pd : D} {lo hi : Str → Int} {fs : List Str} {ps : List Int} {S : Sm} (hl : w.length ≤ 20) (hb : BdIs bd lo hi (w.map (·.1))) (h0 : ∀ t ∈ w.map (·.1), 0 ≤ lo t ∧ lo t ≤ hi t) (hf : sq fd (fs.map D.str)) (ho : IsOut g fs) (hp : sq pd (ps.map D.int)) (hps : ps.length = g.length) (hg : g.length ≤ 1000) (p0 : ∀ p ∈ ps, 0 ≤ p) : m_check_task C [seasD C w g, bd, fd, pd] S = some (.non, S) := by
  have e1 := q_check_bounds (C := C) (g := g) (S := S) hl hb h0
  have e2 := q_check_forecast (C := C) (w := w) (S := S) hf ho hp hps hg p0
  have a1 : dropS (mE (m_check_bounds C) 2 (consA (vE 0) (consA (vE 1) nilA))) [.v (seasD C w g), .v bd, .v fd, .v pd] S = some (.nx, [.v (seasD C w g), .v bd, .v fd, .v pd], S) := by
    rw [x_drop, m_at2 (v_at rfl) (v_at rfl) e1]
  have a2 : dropS (mE (m_check_forecast C) 3 (consA (vE 0) (consA (vE 2) (consA (vE 3) nilA)))) [.v (seasD C w g), .v bd, .v fd, .v pd] S = some (.nx, [.v (seasD C w g), .v bd, .v fd, .v pd], S) := by
    rw [x_drop, m_at3 (v_at rfl) (v_at rfl) (v_at rfl) e2]
  refine run_nx (E' := [.v (seasD C w g), .v bd, .v fd, .v pd]) ?_
  show g_check_task C [.v (seasD C w g), .v bd, .v fd, .v pd] S = _
  unfold g_check_task
  rw [seq_nx a1, a2]
end M

set_option Elab.async false
set_option linter.all false
set_option maxRecDepth 100000
set_option maxHeartbeats 4000000
namespace M
open PySem L2

/-! ### the program's table of an outcome, in either form -/
theorem dict_loop2 {a b c x y : Sl} {S : Sm} : ∀ (w pre : Wins) (x y : Sl), (pre.map (·.1) ++ w.map (·.1)).Nodup → dcL (tgT 2 (tgCons (tgN 3) (tgCons (tgN 4) tgNil))) yesT (vE 3) (vE 4) (w.map rowD) (pre.map fun p => ((.inr p.1 : Key), D.int p.2)) [a, b, c, x, y] S = some ((pre ++ w).map fun p => ((.inr p.1 : Key), D.int p.2), S)
  | [], pre, x, y, _ => by rw [List.append_nil]; rfl
  | p :: w, pre, x, y, hn => by
    have ih := fun x y => dict_loop2 (a := a) (b := b) (c := c) (x := x) (y := y) (S := S) w (pre ++ [p]) x y (by rw [List.map_append, List.append_assoc]; exact hn)
    have ht : tgT 2 (tgCons (tgN 3) (tgCons (tgN 4) tgNil)) (rowD p) [a, b, c, x, y] = some [a, b, c, .v (.str p.1), .v (.int p.2)] := rfl
    have hp : putD (pre.map fun p => ((.inr p.1 : Key), D.int p.2)) (.inr p.1) (.int p.2) = ((pre ++ [p]).map fun p => ((.inr p.1 : Key), D.int p.2)) := by
      unfold putD
      have ha : ((pre.map fun p => ((.inr p.1 : Key), D.int p.2)).any fun kv => decide (kv.1 = .inr p.1)) = false := by
        rw [List.any_eq_false]
        intro q hq
        obtain ⟨u, hu, rfl⟩ := List.mem_map.mp hq
        simp
        intro e
        rw [List.map_cons, List.nodup_append] at hn
        exact hn.2.2 _ (List.mem_map.mpr ⟨u, hu, rfl⟩) _ List.mem_cons_self e
      rw [ha, if_neg Bool.false_ne_true, List.map_append]
      rfl
    have h3 : vE 3 [a, b, c, .v (.str p.1), .v (.int p.2)] S = some (.str p.1, S) := v_at rfl
    have h4 : vE 4 [a, b, c, .v (.str p.1), .v (.int p.2)] S = some (.int p.2, S) := v_at rfl
    rw [List.map_cons, dcL, ht]
    simp only [x_yes, h3, h4, keyD, hp]
    rw [ih, List.append_assoc]
    rfl
theorem items_win {w : Wins} : ((w.map fun p => ((.inr p.1 : Key), D.int p.2)).map fun p => D.tup [kD p.1, p.2]) = w.map rowD := by
  rw [List.map_map]
  rfl
theorem itemsF_win {f : FE} {E : Ev} {S S1 : Sm} {w : Wins} (h : f E S = some (winD w, S1)) : itemsF f E S = some (w.map rowD, S1) := by
  unfold itemsF
  rw [h]
  show some ((w.map fun p => ((.inr p.1 : Key), D.int p.2)).map (fun p => D.tup [kD p.1, p.2]), S1) = _
  rw [items_win]
theorem tab_loop {a b e : Sl} {S : Sm} : ∀ (zs : List Str) (w : Wins), NdW w → w.length ≤ 1000 → (∀ z ∈ zs, hasW w z = true) → ∀ c : Sl, ∃ d, forL (tgN 3) (dputS 2 (vE 3) (opE addA (subOE 2 (vE 3)) (cE (.int 1)))) (zs.map D.str) [a, b, .o (winD w), c, e] S = some (.nx, [a, b, .o (winD (tabOf w zs)), d, e], S)
  | [], w, _, _, _, c => ⟨c, rfl⟩
  | z :: zs, w, hn, hw, hz, c => by
    obtain ⟨i, hi⟩ := Option.isSome_iff_exists.mp (hz z List.mem_cons_self)
    obtain ⟨d, hd⟩ := tab_loop (a := a) (b := b) (e := e) (S := S) zs (bump w z) (bump_nd hn) (by rw [bump_len]; exact hw) (fun y hy => by
      have := hz y (List.mem_cons_of_mem _ hy)
      unfold hasW at this ⊢
      rw [bump_val]
      cases hv : valW w y with
      | none => rw [hv] at this; cases this
      | some j => rfl) (.v (.str z))
    refine ⟨d, ?_⟩
    have hp := put_win hn hi
    have hp2 : putOD (winD w) (.str z) (.int (i + 1)) = some (winD (bump w z)) := by
      unfold putOD winD
      simp only [keyD, List.length_map]
      rw [if_pos (by omega), hp]
    rw [List.map_cons, forL]
    simp [dputS, subOE, hi, hp2]
    exact hd
theorem q_table_made {C : Addr} {w : Wins} {g : Games} {od : D} {zs : List Str} {S : Sm} (hn : NdW w) (hw : w.length ≤ 1000) (hs : sq od (zs.map D.str)) (h : ∀ z ∈ zs, hasW w z = true) : m_table_made C [seasD C w g, od] S = some (winD (tabOf w zs), S) := by
  have e1 : dcE (itemsF (fldE C "own_wins" (vE 0))) (tgT 2 (tgCons (tgN 3) (tgCons (tgN 4) tgNil))) yesT (vE 3) (vE 4) [3, 4] [.v (seasD C w g), .v od, .no, .no, .no] S = some (winD w, S) := by
    have hi : itemsF (fldE C "own_wins" (vE 0)) [.v (seasD C w g), .v od, .no, .no, .no] S = some (w.map rowD, S) := itemsF_win fld_wins
    have hl := dict_loop2 (a := .v (seasD C w g)) (b := .v od) (c := .no) (x := .no) (y := .no) (S := S) w [] .no .no (by simpa [NdW] using hn)
    unfold dcE
    rw [hi]
    simp only []
    rw [if_pos ⟨by rw [List.length_map]; omega, rfl⟩]
    have hwp : wipeE [Sl.v (seasD C w g), .v od, .no, .no, .no] [3, 4] = [.v (seasD C w g), .v od, .no, .no, .no] := rfl
    rw [hwp]
    have hl : dcL (tgT 2 (tgCons (tgN 3) (tgCons (tgN 4) tgNil))) yesT (vE 3) (vE 4) (w.map rowD) [] [.v (seasD C w g), .v od, .no, .no, .no] S = some (w.map fun p => ((.inr p.1 : Key), D.int p.2), S) := hl
    rw [hl]
    rfl
  obtain ⟨d, e2⟩ := tab_loop (a := .v (seasD C w g)) (b := .v od) (e := .no) (S := S) zs w hn hw h .no
  have a1 : ownS 2 (dcE (itemsF (fldE C "own_wins" (vE 0))) (tgT 2 (tgCons (tgN 3) (tgCons (tgN 4) tgNil))) yesT (vE 3) (vE 4) [3, 4]) [.v (seasD C w g), .v od, .no, .no, .no] S = some (.nx, [.v (seasD C w g), .v od, .o (winD w), .no, .no], S) := by
    rw [x_own, e1]
    rfl
  have a2 : forS (itF (vE 1)) (tgN 3) (dputS 2 (vE 3) (opE addA (subOE 2 (vE 3)) (cE (.int 1)))) [.v (seasD C w g), .v od, .o (winD w), .no, .no] S = some (.nx, [.v (seasD C w g), .v od, .o (winD (tabOf w zs)), d, .no], S) := by
    rw [x_for, it_sq hs (v_at rfl)]
    exact e2
  refine run_rt (E' := [.v (seasD C w g), .v od, .v (winD (tabOf w zs)), d, .no]) ?_
  show g_table_made C [.v (seasD C w g), .v od, .no, .no, .no] S = _
  unfold g_table_made
  rw [seq_nx a1, seq_nx a2]
  rfl
end M

set_option Elab.async false
set_option linter.all false
set_option maxRecDepth 100000
set_option maxHeartbeats 4000000
namespace M
open PySem L2

/-! ### the program's bill -/
theorem m_at5 {m : FM} {fa fb fc fd fe : FE} {E : Ev} {S S1 S2 S3 S4 S5 S6 : Sm} {a b c e x d : D} (h1 : fa E S = some (a, S1)) (h2 : fb E S1 = some (b, S2)) (h4 : fc E S2 = some (c, S3)) (h5 : fd E S3 = some (e, S4)) (h6 : fe E S4 = some (x, S5)) (h3 : m [a, b, c, e, x] S5 = some (d, S6)) : mE m 5 (consA fa (consA fb (consA fc (consA fd (consA fe nilA))))) E S = some (d, S6) := by
  simp only [x_m, x_cons, x_nil, h1, h2, h4, h5, h6]
  exact h3
theorem q_is_whole {i : Int} {S : Sm} : m_is_whole [.int i] S = some (.bl true, S) := by
  refine run_rt (E' := [.v (.int i)]) ?_
  simp [g_is_whole]
theorem q_are_pulls {C : Addr} {w : Wins} {g : Games} {pl : Wins} {S : Sm} (hl : w.length ≤ 20) (hn : NdW pl) (hk : ∀ t, t ∈ pl.map (·.1) → t ∈ w.map (·.1)) (hlen : pl.length = w.length) : m_are_pulls C [seasD C w g, winD pl] S = some (.bl true, S) := by
  refine run_rt (E' := [.v (seasD C w g), .v (winD pl), .no]) ?_
  show g_are_pulls C [.v (seasD C w g), .v (winD pl), .no] S = _
  unfold g_are_pulls
  have c1 : notT (bT (isE ["dict"] (vE 1))) [.v (seasD C w g), .v (winD pl), .no] S = some (false, S) := notT_at (b := true) (bT_at (is_at (v_at rfl) rfl))
  have c2 : bT (opE (notO eqA) (callE lenN (consA (vE 1) nilA)) (callE lenN (consA (fldE C "own_wins" (vE 0)) nilA))) [.v (seasD C w g), .v (winD pl), .no] S = some (false, S) :=
    bT_at (op_at (call_at1 (v_at rfl) len_win) (call_at1 fld_wins len_win) (by rw [ne_int, hlen]; simp))
  have a1 : ifS (orT (notT (bT (isE ["dict"] (vE 1)))) (bT (opE (notO eqA) (callE lenN (consA (vE 1) nilA)) (callE lenN (consA (fldE C "own_wins" (vE 0)) nilA))))) (retS (cE (.bl false))) nextS [.v (seasD C w g), .v (winD pl), .no] S = some (.nx, [.v (seasD C w g), .v (winD pl), .no], S) := by
    rw [ifS_f (by rw [orT_f c1, c2])]
    rfl
  rw [seq_nx a1]
  have k1 : keysF (vE 1) [.v (seasD C w g), .v (winD pl), .no] S = some (pl.map fun p => D.str p.1, S) := keysF_win (v_at rfl)
  refine ret_at (all_lc k1 (by rw [List.length_map]; omega) rfl rfl fun d hd => ?_)
  obtain ⟨p, hm, rfl⟩ := List.mem_map.mp hd
  refine ⟨[.v (seasD C w g), .v (winD pl), .v (.str p.1)], rfl, ?_⟩
  rw [and_t (is_at (v_at rfl) rfl), and_t (in_at (v_at rfl) fld_wins (by rw [in_win, hasW_of (hk _ (List.mem_map.mpr ⟨p, hm, rfl⟩))]))]
  exact m_at1 (sub_at (v_at rfl) (v_at rfl) (by rw [sub_win, valW_mem hn hm]; rfl)) q_is_whole
noncomputable def boB : FS := setS 6 (opE addA (vE 6) (opE mulA (vE 8) (opE subI (subE (subE (vE 1) (vE 7)) (ifE (bT (opE geI (vE 8) (cE (.int 0)))) (cE (.int 0)) (cE (.int 1)))) (subE (vE 5) (vE 7)))))
abbrev BO (sea bd fo pr : D) (pl tb : Wins) (found : Int) (s7 s8 s9 s10 : Sl) : Ev := [.v sea, .v bd, .v fo, .v pr, .v (winD pl), .v (winD tb), .v (.int found), s7, s8, s9, s10]
section
variable {sea bd fo pr : D} {pl tb : Wins} {lo hi : Str → Int} {S : Sm} {s9 s10 : Sl}
theorem bo_one (hb : Bds bd lo hi (pl.map (·.1))) (ht : ∀ p ∈ pl, hasW tb p.1 = true) {p : Str × Int} (hm : p ∈ pl) (small : p.2.natAbs < 2 ^ 63) (f : Int) :
    boB (BO sea bd fo pr pl tb f (.v (.str p.1)) (.v (.int p.2)) s9 s10) S = some (.nx, BO sea bd fo pr pl tb (f + teamZ lo hi (fun t => (valW tb t).getD 0) p) (.v (.str p.1)) (.v (.int p.2)) s9 s10, S) := by
  obtain ⟨i, h2⟩ : ∃ i, valW tb p.1 = some i := by
    have := ht p hm
    unfold hasW at this
    cases q : valW tb p.1 with
    | none => rw [q] at this; cases this
    | some i => exact ⟨i, rfl⟩
  obtain ⟨d, h3, h4⟩ := hb p.1 (List.mem_map.mpr ⟨p, hm, rfl⟩)
  obtain ⟨g0, g1⟩ := pr_sub h4
  have key : teamZ lo hi (fun t => (valW tb t).getD 0) p = p.2 * ((if 0 ≤ p.2 then lo p.1 else hi p.1) - i) := by
    unfold teamZ
    rw [show (fun t => (valW tb t).getD 0) p.1 = i by simp only [h2, Option.getD_some]]
    by_cases q : p.2 > 0
    · rw [if_pos q, if_pos (by omega)]
    · by_cases z : p.2 = 0
      · simp [z]
      · rw [if_neg q, if_neg (by omega)]
  have tb1 : subE (vE 5) (vE 7) (BO sea bd fo pr pl tb f (.v (.str p.1)) (.v (.int p.2)) s9 s10) S = some (.int i, S) := sub_at (v_at rfl) (v_at rfl) (by rw [sub_win, h2]; rfl)
  have c : bT (opE geI (vE 8) (cE (.int 0))) (BO sea bd fo pr pl tb f (.v (.str p.1)) (.v (.int p.2)) s9 s10) S = some (decide (0 ≤ p.2), S) := bT_at (op_at (v_at rfl) rfl ge_int)
  unfold boB
  refine set_at (i := 6) (op_at (v_at rfl) (b := .int (teamZ lo hi (fun t => (valW tb t).getD 0) p)) ?_ add_int) (by show 6 < 11; decide)
  rw [key]
  by_cases q : 0 ≤ p.2
  · rw [decide_eq_true q] at c
    rw [if_pos q]
    have ix : ifE (bT (opE geI (vE 8) (cE (.int 0)))) (cE (.int 0)) (cE (.int 1)) (BO sea bd fo pr pl tb f (.v (.str p.1)) (.v (.int p.2)) s9 s10) S = some (.int 0, S) := by rw [ifE_t c]; rfl
    exact op_at (v_at rfl) (op_at (sub_at (sub_at (v_at rfl) (v_at rfl) h3) ix g0) tb1 sub_int) (mul_int (.inl small))
  · rw [decide_eq_false q] at c
    rw [if_neg q]
    have ix : ifE (bT (opE geI (vE 8) (cE (.int 0)))) (cE (.int 0)) (cE (.int 1)) (BO sea bd fo pr pl tb f (.v (.str p.1)) (.v (.int p.2)) s9 s10) S = some (.int 1, S) := by rw [ifE_f c]; rfl
    exact op_at (v_at rfl) (op_at (sub_at (sub_at (v_at rfl) (v_at rfl) h3) ix g1) tb1 sub_int) (mul_int (.inl small))
theorem bo_loop (hb : Bds bd lo hi (pl.map (·.1))) (ht : ∀ p ∈ pl, hasW tb p.1 = true) (small : ∀ p ∈ pl, p.2.natAbs < 2 ^ 63) : ∀ (l : Wins), (∀ p ∈ l, p ∈ pl) → ∀ (f : Int) (s7 s8 : Sl), ∃ s7' s8', forL (tgT 2 (tgCons (tgN 7) (tgCons (tgN 8) tgNil))) boB (l.map rowD) (BO sea bd fo pr pl tb f s7 s8 s9 s10) S = some (.nx, BO sea bd fo pr pl tb (f + (l.map (teamZ lo hi fun t => (valW tb t).getD 0)).sum) s7' s8' s9 s10, S)
  | [], _, f, s7, s8 => ⟨s7, s8, by rw [List.map_nil, List.map_nil, List.sum_nil, Int.add_zero]; rfl⟩
  | p :: l, h, f, s7, s8 => by
    have hm := h p List.mem_cons_self
    have e := bo_one (sea := sea) (fo := fo) (pr := pr) (S := S) (s9 := s9) (s10 := s10) hb ht hm (small p hm) f
    obtain ⟨a7, a8, e2⟩ := bo_loop hb ht small l (fun q hq => h q (List.mem_cons_of_mem _ hq)) (f + teamZ lo hi (fun t => (valW tb t).getD 0) p) (.v (.str p.1)) (.v (.int p.2))
    refine ⟨a7, a8, ?_⟩
    rw [List.map_cons, forL_nx (show tgT 2 (tgCons (tgN 7) (tgCons (tgN 8) tgNil)) (rowD p) (BO sea bd fo pr pl tb f s7 s8 s9 s10) = some (BO sea bd fo pr pl tb f (.v (.str p.1)) (.v (.int p.2)) s9 s10) from rfl) e, e2, List.map_cons, List.sum_cons, Int.add_assoc]
end
noncomputable def boG (C : Addr) : FS := setS 6 (opE addA (vE 6) (callE min2N (consA (cE (.int 0)) (consA (opE subI (opE addA (subE (vE 3) (vE 9)) (subE (vE 4) (vE 10))) (subE (vE 4) (mE (m_other_of C) 3 (consA (vE 0) (consA (vE 9) (consA (vE 10) nilA)))))) nilA))))
theorem bog_loop {C : Addr} {w : Wins} {g : Games} {bd fo pd : D} {pl tb : Wins} {qs : List Int} {s7 s8 : Sl} {S : Sm} (hpd : sq pd (qs.map D.int)) (hp : ∀ x ∈ g, hasW pl x.1 = true ∧ hasW pl x.2 = true) : ∀ (suf pre : Games) (zs : List Str) (ps pp : List Int), g = pre ++ suf → IsOut suf zs → ps.length = suf.length → qs = pp ++ ps → pp.length = pre.length → ∀ (f : Int) (s9 s10 : Sl),
    ∃ s9' s10', forL (tgT 2 (tgCons (tgN 9) (tgCons (tgN 10) tgNil))) (boG C) (enumD pre.length (zs.map D.str)) (BO (seasD C w g) bd fo pd pl tb f s7 s8 s9 s10) S = some (.nx, BO (seasD C w g) bd fo pd pl tb (f + gamesZ pl suf zs ps) s7 s8 s9' s10', S)
  | [], pre, zs, ps, pp, e, ho, _, _, _, f, s9, s10 => ⟨s9, s10, by
      have hz := ho.len
      rw [List.length_nil] at hz
      have hz : zs = [] := List.length_eq_zero_iff.mp hz
      subst hz
      show some _ = _
      unfold gamesZ
      rw [Int.add_zero]⟩
  | x :: suf, pre, [], ps, pp, e, ho, _, _, _, f, s9, s10 => by have := ho.len; simp at this
  | x :: suf, pre, z :: zs, [], pp, e, ho, hl, _, _, f, s9, s10 => by cases hl
  | x :: suf, pre, z :: zs, p :: ps, pp, e, ho, hl, eq, hpp, f, s9, s10 => by
    obtain ⟨r, t⟩ : inG z x = true ∧ IsOut suf zs := by
      cases ho with
      | cons r t => exact ⟨r, t⟩
    have hx : g[pre.length]? = some x := by rw [e]; simp
    have hm : x ∈ g := List.mem_of_getElem? hx
    have has : ∀ y, inG y x = true → hasW pl y = true := fun y hy => by
      unfold inG at hy
      rw [Bool.or_eq_true] at hy
      rcases hy with hy | hy
      · rw [← (by simpa using hy : x.1 = y)]; exact (hp x hm).1
      · rw [← (by simpa using hy : x.2 = y)]; exact (hp x hm).2
    have v1 := val_pv (has z r)
    have v2 := val_pv (has _ (oth_in (x := x) (z := z)))
    obtain ⟨a9, a10, e2⟩ := bog_loop (C := C) (w := w) (g := g) (bd := bd) (fo := fo) (pl := pl) (tb := tb) (qs := qs) (s7 := s7) (s8 := s8) (S := S) hpd hp suf (pre ++ [x]) zs ps (pp ++ [p]) (by rw [e]; simp) t (by simpa using hl) (by rw [eq]; simp) (by simp [hpp]) (f + gameZ pl x z p) (.v (.int (pre.length : Nat))) (.v (.str z))
    rw [List.length_append, List.length_singleton] at e2
    refine ⟨a9, a10, ?_⟩
    have hs : orO ixD getD pd (.int (pre.length : Nat)) = some (.int p) := by rw [sq_sub hpd, eq, ← hpp]; simp
    have ho2 : m_other_of C [seasD C w g, .int (pre.length : Nat), .str z] S = some (.str (othS x z), S) := q_other_of hx
    have b1 : boG C (BO (seasD C w g) bd fo pd pl tb f s7 s8 (.v (.int (pre.length : Nat))) (.v (.str z))) S = some (.nx, BO (seasD C w g) bd fo pd pl tb (f + gameZ pl x z p) s7 s8 (.v (.int (pre.length : Nat))) (.v (.str z)), S) := by
      refine set_at (i := 6) (op_at (v_at rfl) (b := .int (gameZ pl x z p)) (call_at2 rfl (op_at (op_at (sub_at (v_at rfl) (v_at rfl) hs) (sub_at (v_at rfl) (v_at rfl) (by rw [sub_win, v1]; rfl)) add_int) (sub_at (v_at rfl) (m_at3 (v_at rfl) (v_at rfl) (v_at rfl) ho2) (by rw [sub_win, v2]; rfl)) sub_int) ?_) add_int) (by show 6 < 11; decide)
      rw [min2_int]
      unfold gameZ
      congr 2
      split <;> omega
    rw [List.map_cons, enumD]
    rw [forL_nx (show tgT 2 (tgCons (tgN 9) (tgCons (tgN 10) tgNil)) (.tup [.int (pre.length : Nat), .str z]) (BO (seasD C w g) bd fo pd pl tb f s7 s8 s9 s10) = some (BO (seasD C w g) bd fo pd pl tb f s7 s8 (.v (.int (pre.length : Nat))) (.v (.str z))) from rfl) b1]
    rw [e2]
    show _ = some (Out.nx, BO (seasD C w g) bd fo pd pl tb (f + (gameZ pl x z p + gamesZ pl suf zs ps)) s7 s8 a9 a10, S)
    rw [Int.add_assoc]
theorem q_bill_of {C : Addr} {w : Wins} {g : Games} {bd fd pd : D} {lo hi : Str → Int} {fs : List Str} {ps : List Int} {pl : Wins} {S : Sm} (f : Wf w g) (hfd : sq fd (fs.map D.str)) (hpd : sq pd (ps.map D.int)) (hf : IsOut g fs) (hps : ps.length = g.length) (hk : ∀ t, t ∈ pl.map (·.1) ↔ t ∈ w.map (·.1)) (hb : Bds bd lo hi (w.map (·.1))) (small : ∀ p ∈ pl, p.2.natAbs < 2 ^ 63) :
    m_bill_of C [seasD C w g, bd, fd, pd, winD pl] S = some (.int (billZ w g lo hi fs ps pl), S) := by
  have e1 := q_table_made (C := C) (g := g) (S := S) f.nd (show w.length ≤ 1000 by have := f.lw; omega) hfd (f.mem hf)
  have has : ∀ t, hasW pl t = hasW w t := fun t => by rw [Bool.eq_iff_iff, hasW_iff, hasW_iff]; exact hk t
  obtain ⟨a7, a8, e2⟩ := bo_loop (sea := seasD C w g) (bd := bd) (fo := fd) (pr := pd) (pl := pl) (tb := tabOf w fs) (lo := lo) (hi := hi) (S := S) (s9 := .no) (s10 := .no) (fun t ht => hb t ((hk t).mp ht)) (fun p hm => by rw [hasW_tab, ← has]; exact hasW_iff.mpr (List.mem_map.mpr ⟨p, hm, rfl⟩)) small pl (fun _ h => h) 0 .no .no
  obtain ⟨b9, b10, e3⟩ := bog_loop (C := C) (w := w) (g := g) (bd := bd) (fo := fd) (pl := pl) (tb := tabOf w fs) (qs := ps) (s7 := a7) (s8 := a8) (S := S) hpd (fun x hx => by rw [has, has]; exact f.tm x hx) g [] fs ps [] rfl hf hps rfl rfl (0 + (pl.map (teamZ lo hi fun t => (valW (tabOf w fs) t).getD 0)).sum) .no .no
  have a1 : parvvS 5 6 (mE (m_table_made C) 2 (consA (vE 0) (consA (vE 2) nilA))) (cE (.int 0)) [.v (seasD C w g), .v bd, .v fd, .v pd, .v (winD pl), .no, .no, .no, .no, .no, .no] S = some (.nx, BO (seasD C w g) bd fd pd pl (tabOf w fs) 0 .no .no .no .no, S) := by
    unfold parvvS parG
    rw [m_at2 (v_at rfl) (v_at rfl) e1]
    rfl
  have a2 : forS (itemsF (vE 4)) (tgT 2 (tgCons (tgN 7) (tgCons (tgN 8) tgNil))) boB (BO (seasD C w g) bd fd pd pl (tabOf w fs) 0 .no .no .no .no) S = some (.nx, BO (seasD C w g) bd fd pd pl (tabOf w fs) (0 + (pl.map (teamZ lo hi fun t => (valW (tabOf w fs) t).getD 0)).sum) a7 a8 .no .no, S) := by
    have hi := itemsF_win (w := pl) (f := vE 4) (E := BO (seasD C w g) bd fd pd pl (tabOf w fs) 0 .no .no .no .no) (S := S) (S1 := S) (v_at rfl)
    rw [x_for, hi]
    exact e2
  have a3 : forS (enA (consA (vE 2) nilA)) (tgT 2 (tgCons (tgN 9) (tgCons (tgN 10) tgNil))) (boG C) (BO (seasD C w g) bd fd pd pl (tabOf w fs) (0 + (pl.map (teamZ lo hi fun t => (valW (tabOf w fs) t).getD 0)).sum) a7 a8 .no .no) S = some (.nx, BO (seasD C w g) bd fd pd pl (tabOf w fs) (0 + (pl.map (teamZ lo hi fun t => (valW (tabOf w fs) t).getD 0)).sum + gamesZ pl g fs ps) a7 a8 b9 b10, S) := by
    have hi : enA (consA (vE 2) nilA) (BO (seasD C w g) bd fd pd pl (tabOf w fs) (0 + (pl.map (teamZ lo hi fun t => (valW (tabOf w fs) t).getD 0)).sum) a7 a8 .no .no) S = some (enumD 0 (fs.map D.str), S) := en_sq hfd (by rw [x_cons, v_at rfl]; rfl)
    rw [x_for, hi]
    exact e3
  refine run_rt (E' := BO (seasD C w g) bd fd pd pl (tabOf w fs) (0 + (pl.map (teamZ lo hi fun t => (valW (tabOf w fs) t).getD 0)).sum + gamesZ pl g fs ps) a7 a8 b9 b10) ?_
  show (seqS (parvvS 5 6 (mE (m_table_made C) 2 (consA (vE 0) (consA (vE 2) nilA))) (cE (.int 0))) (seqS (forS (itemsF (vE 4)) (tgT 2 (tgCons (tgN 7) (tgCons (tgN 8) tgNil))) boB) (seqS (forS (enA (consA (vE 2) nilA)) (tgT 2 (tgCons (tgN 9) (tgCons (tgN 10) tgNil))) (boG C)) (retS (vE 6))))) [.v (seasD C w g), .v bd, .v fd, .v pd, .v (winD pl), .no, .no, .no, .no, .no, .no] S = _
  rw [seq_nx a1, seq_nx a2, seq_nx a3]
  have hz : billZ w g lo hi fs ps pl = 0 + (pl.map (teamZ lo hi fun t => (valW (tabOf w fs) t).getD 0)).sum + gamesZ pl g fs ps := by
    unfold billZ
    rw [Int.zero_add]
  rw [hz]
  exact ret_at (v_at rfl)
theorem q_bill {C : Addr} {w : Wins} {g : Games} {bd fd pd : D} {lo hi : Str → Int} {fs : List Str} {ps : List Int} {pl : Wins} {S : Sm} (f : Wf w g) (hfd : sq fd (fs.map D.str)) (hpd : sq pd (ps.map D.int)) (hf : IsOut g fs) (hps : ps.length = g.length) (p0 : ∀ p ∈ ps, 0 ≤ p) (hn : NdW pl) (hk : ∀ t, t ∈ pl.map (·.1) ↔ t ∈ w.map (·.1)) (hlen : pl.length = w.length) (hb : BdIs bd lo hi (w.map (·.1))) (h0 : ∀ t ∈ w.map (·.1), 0 ≤ lo t ∧ lo t ≤ hi t) (small : ∀ p ∈ pl, p.2.natAbs < 2 ^ 63) :
    m_bill C [seasD C w g, bd, fd, pd, winD pl] S = some (.int (billZ w g lo hi fs ps pl), S) := by
  have lg := f.lg
  have e1 := q_check_task (C := C) (S := S) f.lw hb h0 hfd hf hpd hps (by omega) p0
  have e2 := q_are_pulls (C := C) (g := g) (S := S) f.lw hn (fun t => (hk t).mp) hlen
  have e3 := q_bill_of (C := C) (S := S) f hfd hpd hf hps hk hb.bds small
  have a1 : dropS (mE (m_check_task C) 4 (consA (vE 0) (consA (vE 1) (consA (vE 2) (consA (vE 3) nilA))))) [.v (seasD C w g), .v bd, .v fd, .v pd, .v (winD pl)] S = some (.nx, [.v (seasD C w g), .v bd, .v fd, .v pd, .v (winD pl)], S) := by
    rw [x_drop, m_at4 (v_at rfl) (v_at rfl) (v_at rfl) (v_at rfl) e1]
  have c2 : notT (bT (mE (m_are_pulls C) 2 (consA (vE 0) (consA (vE 4) nilA)))) [.v (seasD C w g), .v bd, .v fd, .v pd, .v (winD pl)] S = some (false, S) := notT_at (b := true) (bT_at (m_at2 (v_at rfl) (v_at rfl) e2))
  have a2 : ifS (notT (bT (mE (m_are_pulls C) 2 (consA (vE 0) (consA (vE 4) nilA))))) neverS nextS [.v (seasD C w g), .v bd, .v fd, .v pd, .v (winD pl)] S = some (.nx, [.v (seasD C w g), .v bd, .v fd, .v pd, .v (winD pl)], S) := by
    rw [ifS_f c2]
    rfl
  refine run_rt (E' := [.v (seasD C w g), .v bd, .v fd, .v pd, .v (winD pl)]) ?_
  show g_bill C [.v (seasD C w g), .v bd, .v fd, .v pd, .v (winD pl)] S = _
  unfold g_bill
  rw [seq_nx a1, seq_nx a2]
  exact ret_at (m_at5 (v_at rfl) (v_at rfl) (v_at rfl) (v_at rfl) (v_at rfl) e3)
/-! ### the order of the pulls is nothing -/
theorem sum_perm {α : Type} (F : α → Int) {l m : List α} (h : l.Perm m) : (l.map F).sum = (m.map F).sum := by
  induction h with
  | nil => rfl
  | cons x _ ih => simp [ih]
  | swap x y l => simp; omega
  | trans _ _ a b => exact a.trans b
theorem val_perm {pl pl' : Wins} (h : pl'.Perm pl) (hn : NdW pl) (t : Str) : valW pl' t = valW pl t := by
  have hn' : NdW pl' := (h.map _).nodup_iff.mpr hn
  cases q : valW pl t with
  | some i => exact valW_mem hn' (h.mem_iff.mpr (mem_val q))
  | none =>
    cases q' : valW pl' t with
    | none => rfl
    | some i =>
      have := valW_mem hn (h.mem_iff.mp (mem_val q'))
      rw [q] at this
      cases this
theorem games_perm {pl pl' : Wins} (h : pl'.Perm pl) (hn : NdW pl) : ∀ (g : Games) (zs : List Str) (ps : List Int), gamesZ pl' g zs ps = gamesZ pl g zs ps
  | [], _, _ => by simp [gamesZ]
  | _ :: _, [], _ => by simp [gamesZ]
  | _ :: _, _ :: _, [] => by simp [gamesZ]
  | x :: g, z :: zs, p :: ps => by
    have e : ∀ t, pvZ pl' t = pvZ pl t := fun t => by unfold pvZ; rw [val_perm h hn]
    unfold gamesZ gameZ
    rw [e, e, games_perm h hn g zs ps]
theorem bill_perm {w : Wins} {g : Games} {lo hi : Str → Int} {fs : List Str} {ps : List Int} {pl pl' : Wins} (h : pl'.Perm pl) (hn : NdW pl) : billZ w g lo hi fs ps pl' = billZ w g lo hi fs ps pl := by
  unfold billZ
  rw [sum_perm _ h, games_perm h hn]
end M

set_option Elab.async false
set_option linter.all false
set_option maxRecDepth 100000
set_option maxHeartbeats 4000000
namespace M
open PySem L2

/-! ### dicts from names to things -/
def rowO (p : Str × D) : D := .tup [.str p.1, p.2]
def dicD (l : List (Str × D)) : D := .dic (l.map fun p => (.inr p.1, p.2))
theorem pairs_any : ∀ (l : List (Str × D)), pairs? (l.map rowO) = some (l.map fun p => ((.inr p.1 : Key), p.2))
  | [] => rfl
  | p :: l => by
    rw [List.map_cons, rowO, pairs?, pairs_any l]
    rfl
theorem dict_any {l : List (Str × D)} (h : (l.map (·.1)).Nodup) : dictN [.lst (l.map rowO)] = some (dicD l) := by
  have hk : ((l.map fun p => ((.inr p.1 : Key), p.2)).map (·.1)).Nodup := by
    rw [List.map_map]
    have : ((fun x : Key × D => x.1) ∘ fun p : Str × D => ((.inr p.1 : Key), p.2)) = (Sum.inr) ∘ (fun p => p.1) := rfl
    rw [this, ← List.map_map]
    exact List.Pairwise.map _ (fun a b hab e => hab (Sum.inr.inj e)) h
  unfold dictN
  simp only [pairs_any]
  rw [merge_nd (κ := Unit) (by simpa using hk)]
  rfl
theorem dicOf_of {P : Str → D → Prop} : ∀ {l : List (Str × D)}, (∀ p ∈ l, P p.1 p.2) → DicOf P (l.map (·.1)) (dicD l) := by
  have : ∀ {l : List (Str × D)}, (∀ p ∈ l, P p.1 p.2) → Paired (BdR P) (l.map (·.1)) (l.map fun p => ((.inr p.1 : Key), p.2)) := by
    intro l
    induction l with
    | nil => intro _; exact .nil
    | cons p l ih => exact fun h => .cons ⟨rfl, h p List.mem_cons_self⟩ (ih fun q hq => h q (List.mem_cons_of_mem _ hq))
  exact fun {l} h => ⟨_, rfl, this h⟩
theorem rows_any {P : Str → D → Prop} {ts : List Str} {ys : List D} (p : Paired (fun d y => ∃ t x, d = D.str t ∧ y = D.tup [.str t, x] ∧ P t x) (ts.map D.str) ys) : ∃ l : List (Str × D), ys = l.map rowO ∧ l.map (·.1) = ts ∧ ∀ q ∈ l, P q.1 q.2 := by
  induction ts generalizing ys with
  | nil => cases p; exact ⟨[], rfl, rfl, fun _ h => by cases h⟩
  | cons t ts ih =>
    cases p with
    | cons r p =>
      obtain ⟨t', x, h1, rfl, h2⟩ := r
      cases h1
      obtain ⟨l, rfl, hl, hv⟩ := ih p
      refine ⟨(t, x) :: l, rfl, by rw [List.map_cons, hl], fun q hq => ?_⟩
      rcases List.mem_cons.mp hq with rfl | hq
      · exact h2
      · exact hv q hq
/-! ### bounds that are drawn -/
theorem parvv_at {i j : Nat} {fa fb : FE} {E : Ev} {S S1 S2 : Sm} {x y : D} (h1 : fa E S = some (x, S1)) (h2 : fb E S1 = some (y, S2)) (hi : i < E.length) (hj : j < E.length) : parvvS i j fa fb E S = some (.nx, (E.set i (.v x)).set j (.v y), S2) := by
  unfold parvvS parG
  rw [h1]
  simp only []
  rw [h2]
  simp only []
  rw [if_pos ⟨hi, hj, (fun h => by cases h), (fun h => by cases h)⟩]
  rfl
abbrev LB (w : Wins) (g : Games) (tab : Wins) (found : List D) (way wide one : Int) (s7 s8 s9 : Sl) : Ev := [.v .strm, .v (seaT w g), .v (winD tab), .o (.lst found), .v (.int way), .v (.int wide), .v (.int one), s7, s8, s9]
theorem max2_int {a b : Int} : max2N [.int a, .int b] = some (.int (if b > a then b else a)) := rfl
theorem int01 {b : Bool} : intN [.bl b] = some (.int (if b then 1 else 0)) := rfl
noncomputable def lbA : FS := parvvS 8 9 (callE max2N (consA (cE (.int 0)) (consA (opE subI (subE (vE 2) (vE 7)) (mE m_law_draw 2 (consA (vE 0) (consA (opE addA (vE 5) (cE (.int 1))) nilA)))) nilA))) (opE addA (subE (vE 2) (vE 7)) (mE m_law_draw 2 (consA (vE 0) (consA (opE addA (vE 5) (cE (.int 1))) nilA))))
noncomputable def lbB : FS := ifS (bT (opE eqA (vE 4) (cE (.int 1)))) (parvvS 8 9 (cE (.int 0)) (callE max2N (consA (subE (subE (vE 1) (cE (.int 0))) (vE 7)) (consA (opE addA (vE 6) (cE (.int 2))) nilA)))) nextS
noncomputable def lbC : FS := ifS (bT (opE eqA (vE 4) (cE (.int 2)))) (parvvS 8 9 (callE min2N (consA (vE 6) (consA (cE (.int 4)) nilA))) (cE (.int 40))) nextS
noncomputable def lbD : FS := ifS (bT (opE eqA (vE 4) (cE (.int 3)))) (seqS (setS 8 (opE addA (vE 8) (callE intN (consA (opE eqA (mE m_law_draw 2 (consA (vE 0) (consA (cE (.int 5)) nilA))) (cE (.int 0))) nilA)))) (setS 9 (callE max2N (consA (vE 8) (consA (opE subI (vE 9) (callE intN (consA (opE eqA (mE m_law_draw 2 (consA (vE 0) (consA (cE (.int 5)) nilA))) (cE (.int 0))) nilA))) nilA))))) nextS
section
variable {w : Wins} {g : Games} {tab : Wins} {found : List D} {way one : Int} {wide : Nat} {t : Str} {n : Nat} {S : Sm}
theorem lb_a {i : Int} {s8 s9 : Sl} (hi : valW tab t = some i) (i0 : 0 ≤ i) (i1 : i ≤ 9200) (hw : wide ≤ 2) (gd : Good (n + 2) S) : ∃ (lo hi : Int) (S' : Sm), lbA (LB w g tab found way (wide : Nat) one (.v (.str t)) s8 s9) S = some (.nx, LB w g tab found way (wide : Nat) one (.v (.str t)) (.v (.int lo)) (.v (.int hi)), S') ∧ 0 ≤ lo ∧ lo ≤ hi ∧ hi ≤ 9300 ∧ Good n S' := by
  obtain ⟨k1, S1, e1, h1, g1⟩ := q_drawN (n := n + 1) (m := wide + 1) gd (by omega) (by omega)
  obtain ⟨k2, S2, e2, h2, g2⟩ := q_drawN (n := n) (m := wide + 1) g1 (by omega) (by omega)
  refine ⟨if (i - k1 : Int) > 0 then i - k1 else 0, i + k2, S2, ?_, ?_, ?_, by omega, g2⟩
  · exact parvv_at (call_at2 rfl (op_at (sub_at (v_at rfl) (v_at rfl) (by rw [sub_win, hi]; rfl)) (m_at2 (v_at rfl) (op_at (v_at rfl) rfl add_int) e1) sub_int) max2_int) (op_at (sub_at (v_at rfl) (v_at rfl) (by rw [sub_win, hi]; rfl)) (m_at2 (v_at rfl) (op_at (v_at rfl) rfl add_int) e2) add_int) (by show 8 < 10; decide) (by show 9 < 10; decide)
  · split <;> omega
  · split <;> omega
theorem lb_b {lo hi j : Int} (hj : valW w t = some j) (j0 : 0 ≤ j) (j1 : j ≤ 9000) (o0 : 0 ≤ one) (o1 : one ≤ 5) (h0 : 0 ≤ lo) (h1 : lo ≤ hi) (h2 : hi ≤ 9300) : ∃ (lo' hi' : Int), lbB (LB w g tab found way (wide : Nat) one (.v (.str t)) (.v (.int lo)) (.v (.int hi))) S = some (.nx, LB w g tab found way (wide : Nat) one (.v (.str t)) (.v (.int lo')) (.v (.int hi')), S) ∧ 0 ≤ lo' ∧ lo' ≤ hi' ∧ hi' ≤ 9300 := by
  have c : bT (opE eqA (vE 4) (cE (.int 1))) (LB w g tab found way (wide : Nat) one (.v (.str t)) (.v (.int lo)) (.v (.int hi))) S = some (decide (way = 1), S) := bT_at (op_at (v_at rfl) rfl eq_int)
  unfold lbB
  by_cases q : way = 1
  · rw [decide_eq_true q] at c
    rw [ifS_t c]
    refine ⟨0, if (one + 2 : Int) > j then one + 2 else j, parvv_at rfl (call_at2 (sub_at (sub_at (v_at rfl) rfl rfl) (v_at rfl) (by rw [sub_win, hj]; rfl)) (op_at (v_at rfl) rfl add_int) max2_int) (by show 8 < 10; decide) (by show 9 < 10; decide), by omega, ?_, ?_⟩
    · split <;> omega
    · split <;> omega
  · rw [decide_eq_false q] at c
    rw [ifS_f c]
    exact ⟨lo, hi, rfl, h0, h1, h2⟩
theorem lb_c {lo hi : Int} (o0 : 0 ≤ one) (h0 : 0 ≤ lo) (h1 : lo ≤ hi) (h2 : hi ≤ 9300) : ∃ (lo' hi' : Int), lbC (LB w g tab found way (wide : Nat) one (.v (.str t)) (.v (.int lo)) (.v (.int hi))) S = some (.nx, LB w g tab found way (wide : Nat) one (.v (.str t)) (.v (.int lo')) (.v (.int hi')), S) ∧ 0 ≤ lo' ∧ lo' ≤ hi' ∧ hi' ≤ 9300 := by
  have c : bT (opE eqA (vE 4) (cE (.int 2))) (LB w g tab found way (wide : Nat) one (.v (.str t)) (.v (.int lo)) (.v (.int hi))) S = some (decide (way = 2), S) := bT_at (op_at (v_at rfl) rfl eq_int)
  unfold lbC
  by_cases q : way = 2
  · rw [decide_eq_true q] at c
    rw [ifS_t c]
    refine ⟨if (4 : Int) < one then 4 else one, 40, parvv_at (call_at2 (v_at rfl) rfl min2_int) rfl (by show 8 < 10; decide) (by show 9 < 10; decide), ?_, ?_, by omega⟩
    · split <;> omega
    · split <;> omega
  · rw [decide_eq_false q] at c
    rw [ifS_f c]
    exact ⟨lo, hi, rfl, h0, h1, h2⟩
theorem draw01 {k : Nat} {E : Ev} {S' : Sm} (h0 : E[0]? = some (.v .strm)) (e : m_law_draw [.strm, .int (5 : Nat)] S = some (.int (k : Int), S')) : callE intN (consA (opE eqA (mE m_law_draw 2 (consA (vE 0) (consA (cE (.int 5)) nilA))) (cE (.int 0))) nilA) E S = some (.int (if decide ((k : Int) = 0) then 1 else 0), S') :=
  call_at1 (op_at (m_at2 (v_at h0) rfl e) rfl eq_int) int01
theorem lb_d {lo hi : Int} (h0 : 0 ≤ lo) (h1 : lo ≤ hi) (h2 : hi ≤ 9300) (gd : Good (n + 2) S) : ∃ (lo' hi' : Int) (S' : Sm), lbD (LB w g tab found way (wide : Nat) one (.v (.str t)) (.v (.int lo)) (.v (.int hi))) S = some (.nx, LB w g tab found way (wide : Nat) one (.v (.str t)) (.v (.int lo')) (.v (.int hi')), S') ∧ 0 ≤ lo' ∧ lo' ≤ hi' ∧ hi' ≤ 9400 ∧ Good n S' := by
  have c : bT (opE eqA (vE 4) (cE (.int 3))) (LB w g tab found way (wide : Nat) one (.v (.str t)) (.v (.int lo)) (.v (.int hi))) S = some (decide (way = 3), S) := bT_at (op_at (v_at rfl) rfl eq_int)
  obtain ⟨k1, S1, e1, _, g1⟩ := q_drawN (n := n + 1) (m := 5) gd (by decide) (by decide)
  obtain ⟨k2, S2, e2, _, g2⟩ := q_drawN (n := n) (m := 5) g1 (by decide) (by decide)
  unfold lbD
  by_cases q : way = 3
  · rw [decide_eq_true q] at c
    rw [ifS_t c]
    have a1 : setS 8 (opE addA (vE 8) (callE intN (consA (opE eqA (mE m_law_draw 2 (consA (vE 0) (consA (cE (.int 5)) nilA))) (cE (.int 0))) nilA))) (LB w g tab found way (wide : Nat) one (.v (.str t)) (.v (.int lo)) (.v (.int hi))) S = some (.nx, LB w g tab found way (wide : Nat) one (.v (.str t)) (.v (.int (lo + if decide ((k1 : Int) = 0) then 1 else 0))) (.v (.int hi)), S1) :=
      set_at (i := 8) (op_at (v_at rfl) (draw01 rfl e1) add_int) (by show 8 < 10; decide)
    rw [seq_nx a1]
    refine ⟨_, _, S2, set_at (i := 9) (call_at2 (v_at rfl) (op_at (v_at rfl) (draw01 rfl e2) sub_int) max2_int) (by show 9 < 10; decide), ?_, ?_, ?_, g2⟩
    · split <;> omega
    · split <;> split <;> omega
    · split <;> split <;> split <;> omega
  · rw [decide_eq_false q] at c
    rw [ifS_f c]
    exact ⟨lo, hi, S, rfl, h0, h1, by omega, gd.mono (by omega)⟩
def bdRow (p : Str × Int × Int) : D := .tup [.str p.1, .tup [.int p.2.1, .int p.2.2]]
noncomputable def lbE : FS := appS 3 (tupE (consA (vE 7) (consA (tupE (consA (vE 8) (consA (vE 9) nilA))) nilA)))
theorem app_at {i : Nat} {f : FE} {E : Ev} {S1 : Sm} {ds : List D} {d : D} (h : E[i]? = some (.o (.lst ds))) (e : f E S = some (d, S1)) (hl : ds.length < 1000000) : appS i f E S = some (.nx, E.set i (.o (.lst (ds ++ [d]))), S1) := by
  unfold appS
  rw [h]
  simp only [e]
  rw [if_pos hl]
theorem lb_one {i j : Int} {bs : List (Str × Int × Int)} {s8 s9 : Sl} (hi : valW tab t = some i) (i0 : 0 ≤ i) (i1 : i ≤ 9200) (hj : valW w t = some j) (j0 : 0 ≤ j) (j1 : j ≤ 9000) (hw : wide ≤ 2) (o0 : 0 ≤ one) (o1 : one ≤ 5) (hl : bs.length < 1000) (gd : Good (n + 4) S) : ∃ (lo hi : Int) (S' : Sm), seqS lbA (seqS lbB (seqS lbC (seqS lbD lbE))) (LB w g tab (bs.map bdRow) way (wide : Nat) one (.v (.str t)) s8 s9) S = some (.nx, LB w g tab ((bs ++ [(t, lo, hi)]).map bdRow) way (wide : Nat) one (.v (.str t)) (.v (.int lo)) (.v (.int hi)), S') ∧ 0 ≤ lo ∧ lo ≤ hi ∧ hi ≤ 9400 ∧ Good n S' := by
  obtain ⟨lo1, hi1, S1, e1, a1, b1, c1, g1⟩ := lb_a (w := w) (g := g) (tab := tab) (found := bs.map bdRow) (way := way) (one := one) (n := n + 2) (s8 := s8) (s9 := s9) hi i0 i1 hw gd
  obtain ⟨lo2, hi2, e2, a2, b2, c2⟩ := lb_b (w := w) (g := g) (tab := tab) (found := bs.map bdRow) (way := way) (one := one) (wide := wide) (S := S1) hj j0 j1 o0 o1 a1 b1 c1
  obtain ⟨lo3, hi3, e3, a3, b3, c3⟩ := lb_c (w := w) (g := g) (tab := tab) (found := bs.map bdRow) (way := way) (one := one) (wide := wide) (t := t) (S := S1) o0 a2 b2 c2
  obtain ⟨lo4, hi4, S4, e4, a4, b4, c4, g4⟩ := lb_d (w := w) (g := g) (tab := tab) (found := bs.map bdRow) (way := way) (one := one) (wide := wide) (t := t) (S := S1) (n := n) a3 b3 c3 g1
  refine ⟨lo4, hi4, S4, ?_, a4, b4, c4, g4⟩
  rw [seq_nx e1, seq_nx e2, seq_nx e3, seq_nx e4, List.map_append]
  exact app_at (i := 3) (ds := bs.map bdRow) rfl (tup_at2 (v_at rfl) (tup_at2 (v_at rfl) (v_at rfl))) (by rw [List.length_map]; omega)
end
theorem lb_loop {w : Wins} {g : Games} {tab : Wins} {way one : Int} {wide n : Nat} (o0 : 0 ≤ one) (o1 : one ≤ 5) (hw : wide ≤ 2) : ∀ (l : List Str) (bs : List (Str × Int × Int)) (s7 s8 s9 : Sl) (S : Sm), (∀ t ∈ l, (∃ i, valW tab t = some i ∧ 0 ≤ i ∧ i ≤ 9200) ∧ ∃ j, valW w t = some j ∧ 0 ≤ j ∧ j ≤ 9000) → bs.length + l.length < 1000 → (∀ p ∈ bs, 0 ≤ p.2.1 ∧ p.2.1 ≤ p.2.2 ∧ p.2.2 ≤ 9400) → Good (n + 4 * l.length) S →
    ∃ (bs' : List (Str × Int × Int)) (s7' s8' s9' : Sl) (S' : Sm), forL (tgN 7) (seqS lbA (seqS lbB (seqS lbC (seqS lbD lbE)))) (l.map D.str) (LB w g tab (bs.map bdRow) way (wide : Nat) one s7 s8 s9) S = some (.nx, LB w g tab (bs'.map bdRow) way (wide : Nat) one s7' s8' s9', S') ∧ bs'.map (·.1) = bs.map (·.1) ++ l ∧ (∀ p ∈ bs', 0 ≤ p.2.1 ∧ p.2.1 ≤ p.2.2 ∧ p.2.2 ≤ 9400) ∧ Good n S'
  | [], bs, s7, s8, s9, S, _, _, hb, gd => ⟨bs, s7, s8, s9, S, rfl, by rw [List.append_nil], hb, gd⟩
  | t :: l, bs, s7, s8, s9, S, h, hl, hb, gd => by
    obtain ⟨⟨i, hi, i0, i1⟩, j, hj, j0, j1⟩ := h t List.mem_cons_self
    rw [List.length_cons] at hl gd
    obtain ⟨lo, hi', S1, e1, a1, b1, c1, g1⟩ := lb_one (g := g) (way := way) (n := n + 4 * l.length) (bs := bs) (s8 := s8) (s9 := s9) (S := S) hi i0 i1 hj j0 j1 hw o0 o1 (by omega) (gd.mono (by omega))
    obtain ⟨bs', a7, a8, a9, S', e2, h2, h3, g2⟩ := lb_loop (g := g) (way := way) (n := n) o0 o1 hw l (bs ++ [(t, lo, hi')]) (.v (.str t)) (.v (.int lo)) (.v (.int hi')) S1 (fun x hx => h x (List.mem_cons_of_mem _ hx)) (by rw [List.length_append, List.length_singleton]; omega) (fun p hp => by
      rcases List.mem_append.mp hp with hp | hp
      · exact hb p hp
      · rw [List.mem_singleton] at hp
        subst hp
        exact ⟨a1, b1, c1⟩) g1
    refine ⟨bs', a7, a8, a9, S', ?_, by rw [h2, List.map_append, List.append_assoc]; rfl, h3, g2⟩
    rw [List.map_cons, forL_nx (show tgN 7 (.str t) (LB w g tab (bs.map bdRow) way (wide : Nat) one s7 s8 s9) = some (LB w g tab (bs.map bdRow) way (wide : Nat) one (.v (.str t)) s8 s9) from rfl) e1]
    exact e2
/-- bounds as functions -/
def loB (bs : List (Str × Int × Int)) (t : Str) : Int := ((bs.find? fun p => decide (p.1 = t)).map fun p => p.2.1).getD 0
def hiB (bs : List (Str × Int × Int)) (t : Str) : Int := ((bs.find? fun p => decide (p.1 = t)).map fun p => p.2.2).getD 0
theorem find_nd {α : Type} : ∀ {bs : List (Str × α)}, (bs.map (·.1)).Nodup → ∀ {p : Str × α}, p ∈ bs → bs.find? (fun q => decide (q.1 = p.1)) = some p
  | [], _, p, h => by cases h
  | q :: bs, hn, p, h => by
    rw [List.map_cons, List.nodup_cons] at hn
    rw [List.find?_cons]
    rcases List.mem_cons.mp h with rfl | h
    · simp
    · have : decide (q.1 = p.1) = false := by
        rw [decide_eq_false]
        exact fun e => hn.1 (List.mem_map.mpr ⟨p, h, e.symm⟩)
      rw [this]
      exact find_nd hn.2 h
def bdD (bs : List (Str × Int × Int)) : D := dicD (bs.map fun p => (p.1, .tup [.int p.2.1, .int p.2.2]))
def PrT (lo hi : Str → Int) (t : Str) (d : D) : Prop := d = .tup [.int (lo t), .int (hi t)]
theorem bd_is {bs : List (Str × Int × Int)} (hn : (bs.map (·.1)).Nodup) : DicOf (PrT (loB bs) (hiB bs)) (bs.map (·.1)) (bdD bs) := by
  have := dicOf_of (P := PrT (loB bs) (hiB bs)) (l := bs.map fun p => (p.1, .tup [.int p.2.1, .int p.2.2])) (fun p hp => by
    obtain ⟨q, hq, rfl⟩ := List.mem_map.mp hp
    unfold PrT loB hiB
    simp only [find_nd hn hq]
    rfl)
  rw [List.map_map] at this
  exact this
theorem DicOf.imp {P Q : Str → D → Prop} {ts : List Str} {d : D} (h : DicOf P ts d) (k : ∀ t x, P t x → Q t x) : DicOf Q ts d := by
  obtain ⟨kds, rfl, p⟩ := h
  exact ⟨kds, rfl, Paired.mapP p fun _ _ r => ⟨r.1, k _ _ r.2⟩⟩
theorem prT_z {lo hi : Str → Int} (t : Str) (x : D) (h : PrT lo hi t x) : PrZ lo hi t x := .inr h
theorem q_bounds {n : Nat} {w : Wins} {g : Games} {S : Sm} (f : Sea w g) (hg : g.length ≤ 120) (gd : Good (n + 300) S) : ∃ (bd : D) (lo hi : Str → Int) (S' : Sm), m_law_bounds [.strm, seaT w g] S = some (bd, S') ∧ DicOf (PrT lo hi) (w.map (·.1)) bd ∧ (∀ t ∈ w.map (·.1), 0 ≤ lo t ∧ lo t ≤ hi t ∧ hi t ≤ 9400) ∧ Good n S' := by
  have hlw := f.wf.lw
  obtain ⟨zs, S1, e1, ho, g1⟩ := q_drawn (n := n + 100) (w := w) (g := g) (S := S) (by omega) (gd.mono (by omega))
  have e2 := q_table (g := g) (S := S1) f.wf.nd (show w.length ≤ 1000 by omega) (f.wf.mem ho)
  obtain ⟨d3, S3, e3, hd3, g3⟩ := q_pick (xs := [.int 0, .int 0, .int 0, .int 0, .int 1, .int 2, .int 3]) (n := n + 99) g1 (by simp) (by show 7 < 1000000; decide)
  obtain ⟨way, rfl⟩ : ∃ i : Int, d3 = .int i := by
    simp at hd3
    rcases hd3 with rfl | rfl | rfl | rfl <;> exact ⟨_, rfl⟩
  obtain ⟨d4, S4, e4, hd4, g4⟩ := q_pick (xs := [.int 0, .int 0, .int 1, .int 2]) (n := n + 98) g3 (by simp) (by show 4 < 1000000; decide)
  obtain ⟨wide, rfl, hw⟩ : ∃ i : Nat, d4 = .int (i : Int) ∧ i ≤ 2 := by
    simp at hd4
    rcases hd4 with rfl | rfl | rfl
    · exact ⟨0, rfl, by decide⟩
    · exact ⟨1, rfl, by decide⟩
    · exact ⟨2, rfl, by decide⟩
  obtain ⟨one, S5, e5, ho1, g5⟩ := q_drawN (n := n + 97) (m := 6) g4 (by decide) (by decide)
  have e5 : m_law_draw [.strm, .int 6] S4 = some (.int one, S5) := e5
  have hz : zs.length ≤ 120 := by rw [ho.len]; exact hg
  have hall : ∀ t ∈ w.map (·.1), (∃ i, valW (tabOf w zs) t = some i ∧ 0 ≤ i ∧ i ≤ 9200) ∧ ∃ j, valW w t = some j ∧ 0 ≤ j ∧ j ≤ 9000 := fun t ht => by
    obtain ⟨p, hp, rfl⟩ := List.mem_map.mp ht
    have v := valW_mem f.wf.nd hp
    obtain ⟨h1, h2⟩ := f.val p hp
    refine ⟨⟨p.2 + ((zs.count p.1 : Nat) : Int), by rw [bumps_val, v]; rfl, by omega, ?_⟩, p.2, v, h1, h2⟩
    have : zs.count p.1 ≤ zs.length := List.count_le_length
    omega
  obtain ⟨bs, b7, b8, b9, S6, e6, h6, h7, g6⟩ := lb_loop (w := w) (g := g) (tab := tabOf w zs) (way := way) (one := (one : Int)) (wide := wide) (n := n) (by omega) (by omega) hw (w.map (·.1)) [] .no .no .no S5 hall (by rw [List.length_nil, List.length_map]; omega) (fun _ h => by cases h) (g5.mono (by rw [List.length_map]; omega))
  have hn : (bs.map (·.1)).Nodup := by rw [h6]; exact f.wf.nd
  have hk : bs.map (·.1) = w.map (·.1) := h6
  refine ⟨bdD bs, loB bs, hiB bs, S6, ?_, hk ▸ bd_is hn, fun t ht => ?_, g6⟩
  · have a1 : parvoS 2 3 (mE m_law_table 2 (consA (vE 1) (consA (mE m_law_drawn_outcome 2 (consA (vE 0) (consA (vE 1) nilA))) nilA))) (lstE nilA) [.v .strm, .v (seaT w g), .no, .no, .no, .no, .no, .no, .no, .no] S = some (.nx, [.v .strm, .v (seaT w g), .v (winD (tabOf w zs)), .o (.lst []), .no, .no, .no, .no, .no, .no], S1) := by
      unfold parvoS parG
      rw [m_at2 (v_at rfl) (m_at2 (v_at rfl) (v_at rfl) e1) e2]
      rfl
    have p1 : ∀ (r : List Sl), lstE (consA (cE (.int 0)) (consA (cE (.int 0)) (consA (cE (.int 0)) (consA (cE (.int 0)) (consA (cE (.int 1)) (consA (cE (.int 2)) (consA (cE (.int 3)) nilA))))))) r S1 = some (.lst [.int 0, .int 0, .int 0, .int 0, .int 1, .int 2, .int 3], S1) := fun _ => rfl
    have p2 : ∀ (r : List Sl), lstE (consA (cE (.int 0)) (consA (cE (.int 0)) (consA (cE (.int 1)) (consA (cE (.int 2)) nilA)))) r S3 = some (.lst [.int 0, .int 0, .int 1, .int 2], S3) := fun _ => rfl
    have a2 : parvvS 4 5 (mE m_law_pick 2 (consA (vE 0) (consA (lstE (consA (cE (.int 0)) (consA (cE (.int 0)) (consA (cE (.int 0)) (consA (cE (.int 0)) (consA (cE (.int 1)) (consA (cE (.int 2)) (consA (cE (.int 3)) nilA)))))))) nilA))) (mE m_law_pick 2 (consA (vE 0) (consA (lstE (consA (cE (.int 0)) (consA (cE (.int 0)) (consA (cE (.int 1)) (consA (cE (.int 2)) nilA))))) nilA))) [.v .strm, .v (seaT w g), .v (winD (tabOf w zs)), .o (.lst []), .no, .no, .no, .no, .no, .no] S1 = some (.nx, [.v .strm, .v (seaT w g), .v (winD (tabOf w zs)), .o (.lst []), .v (.int way), .v (.int wide), .no, .no, .no, .no], S4) :=
      parvv_at (m_at2 (v_at rfl) (p1 _) e3) (m_at2 (v_at rfl) (p2 _) e4) (by show 4 < 10; decide) (by show 5 < 10; decide)
    have a3 : setS 6 (mE m_law_draw 2 (consA (vE 0) (consA (cE (.int 6)) nilA))) [.v .strm, .v (seaT w g), .v (winD (tabOf w zs)), .o (.lst []), .v (.int way), .v (.int wide), .no, .no, .no, .no] S4 = some (.nx, LB w g (tabOf w zs) [] way wide one .no .no .no, S5) :=
      set_at (i := 6) (m_at2 (v_at rfl) rfl e5) (by show 6 < 10; decide)
    have hk2 : keysF (opE ixD (vE 1) (cE (.int 0))) (LB w g (tabOf w zs) [] way wide one .no .no .no) S5 = some ((w.map (·.1)).map D.str, S5) := by
      rw [keysF_win (w := w) (op_at (v_at rfl) rfl seai0), kstr]
    have a4 : forS (keysF (opE ixD (vE 1) (cE (.int 0)))) (tgN 7) (seqS lbA (seqS lbB (seqS lbC (seqS lbD lbE)))) (LB w g (tabOf w zs) [] way wide one .no .no .no) S5 = some (.nx, LB w g (tabOf w zs) (bs.map bdRow) way wide one b7 b8 b9, S6) := by
      rw [x_for, hk2]
      exact e6
    have hd : dictN [.lst (bs.map bdRow)] = some (bdD bs) := by
      have := dict_any (l := bs.map fun p => (p.1, D.tup [.int p.2.1, .int p.2.2])) (by rw [List.map_map]; exact hn)
      rw [List.map_map] at this
      exact this
    refine run_rt (E' := [.v .strm, .v (seaT w g), .v (winD (tabOf w zs)), .v (.lst (bs.map bdRow)), .v (.int way), .v (.int wide), .v (.int one), b7, b8, b9]) ?_
    show (seqS (parvoS 2 3 (mE m_law_table 2 (consA (vE 1) (consA (mE m_law_drawn_outcome 2 (consA (vE 0) (consA (vE 1) nilA))) nilA))) (lstE nilA)) (seqS (parvvS 4 5 (mE m_law_pick 2 (consA (vE 0) (consA (lstE (consA (cE (.int 0)) (consA (cE (.int 0)) (consA (cE (.int 0)) (consA (cE (.int 0)) (consA (cE (.int 1)) (consA (cE (.int 2)) (consA (cE (.int 3)) nilA)))))))) nilA))) (mE m_law_pick 2 (consA (vE 0) (consA (lstE (consA (cE (.int 0)) (consA (cE (.int 0)) (consA (cE (.int 1)) (consA (cE (.int 2)) nilA))))) nilA)))) (seqS (setS 6 (mE m_law_draw 2 (consA (vE 0) (consA (cE (.int 6)) nilA)))) (seqS (forS (keysF (opE ixD (vE 1) (cE (.int 0)))) (tgN 7) (seqS lbA (seqS lbB (seqS lbC (seqS lbD lbE))))) (giveQ 3 (retS (callE dictN (consA (vE 3) nilA)))))))) [.v .strm, .v (seaT w g), .no, .no, .no, .no, .no, .no, .no, .no] S = _
    rw [seq_nx a1, seq_nx a2, seq_nx a3, seq_nx a4]
    exact ret_at (E := [.v .strm, .v (seaT w g), .v (winD (tabOf w zs)), .v (.lst (bs.map bdRow)), .v (.int way), .v (.int wide), .v (.int one), b7, b8, b9]) (call_at1 (v_at rfl) hd)
  · rw [← hk] at ht
    obtain ⟨p, hp, rfl⟩ := List.mem_map.mp ht
    have := h7 p hp
    unfold loB hiB
    simp only [find_nd hn hp, Option.map_some, Option.getD_some]
    exact this
end M

set_option Elab.async false
set_option linter.all false
set_option maxRecDepth 100000
set_option maxHeartbeats 4000000
namespace M
open PySem L2

/-! ### dicts, handed in other forms; copies -/
theorem DicOf.len {P : Str → D → Prop} {ts : List Str} {kds : List (Key × D)} (p : Paired (BdR P) ts kds) : kds.length = ts.length := (Paired.length p).symm
theorem keysF_dic {f : FE} {E : Ev} {S S1 : Sm} {P : Str → D → Prop} {ts : List Str} {d : D} (h : DicOf P ts d) (e : f E S = some (d, S1)) : keysF f E S = some (ts.map D.str, S1) := by
  obtain ⟨kds, rfl, p⟩ := h
  rw [x_keys, e]
  show some (kds.map (fun p => kD p.1), S1) = _
  rw [bd_keys p]
theorem q_loose_dic {n c : Nat} {ts : List Str} {d : D} {P : Str → D → Prop} (hd : DicOf P ts d) (hn : ts.Nodup) (hl : ts.length ≤ 1000) (h : ∀ t x, P t x → ∀ (m : Nat) (S : Sm), Good (m + c) S → ∃ y S', m_law_loose n [.strm, x] S = some (y, S') ∧ P t y ∧ Good m S') {m : Nat} {S : Sm} (g : Good (m + c * ts.length) S) : ∃ e S', m_law_loose (n + 1) [.strm, d] S = some (e, S') ∧ DicOf P ts e ∧ Good m S' := by
  obtain ⟨ys, S1, e1, p, g1⟩ := lc_run (i := 4) (c := c) (E := [.v .strm, .v d, .no, .no, .no]) (fe := tupE (consA (vE 4) (consA (mE (m_law_loose n) 2 (consA (vE 0) (consA (subE (vE 1) (vE 4)) nilA))) nilA))) (R := fun a y => ∃ t x, a = D.str t ∧ y = D.tup [.str t, x] ∧ P t x) (show 4 < 5 by decide) (items := ts.map D.str) (fun a ha m S g => by
    obtain ⟨t, ht, rfl⟩ := List.mem_map.mp ha
    obtain ⟨x, hx, px⟩ := hd.sub ht
    obtain ⟨y, S', e, py, g'⟩ := h t x px m S g
    exact ⟨_, S', tup_at2 (v_at rfl) (m_at2 (v_at rfl) (sub_at (v_at rfl) (v_at rfl) hx) e), ⟨t, y, rfl, rfl, py⟩, g'⟩) m S .no (g.mono (by rw [List.length_map]; omega))
  obtain ⟨l, rfl, hk, hv⟩ := rows_any p
  have hd2 : DicOf P ts (dicD l) := by rw [← hk]; exact dicOf_of hv
  refine ⟨dicD l, S1, run_rt (E' := [.v .strm, .v d, .no, .no, .no]) ?_, hd2, g1⟩
  have hkf : keysF (vE 1) [.v .strm, .v d, .no, .no, .no] S = some (ts.map D.str, S) := keysF_dic hd (v_at rfl)
  obtain ⟨kds, rfl, pd⟩ := hd
  show g_law_loose (m_law_loose n) [.v .strm, .v (.dic kds), .no, .no, .no] S = _
  unfold g_law_loose
  have t1 : bT (isE ["list", "tuple"] (vE 1)) [.v .strm, .v (.dic kds), .no, .no, .no] S = some (false, S) := bT_at (is_at (v_at rfl) rfl)
  have t2 : bT (isE ["dict"] (vE 1)) [.v .strm, .v (.dic kds), .no, .no, .no] S = some (true, S) := bT_at (is_at (v_at rfl) rfl)
  rw [x_seq, ifS_f t1]
  show seqS _ _ [.v .strm, .v (.dic kds), .no, .no, .no] S = _
  rw [x_seq, ifS_t t2]
  have r := ret_at (call_at1 (lce_at hkf (by rw [List.length_map]; omega) (own := [4]) rfl rfl e1) (dict_any (by rw [hk]; exact hn)))
  rw [r]
theorem q_copied_pair {n : Nat} {a b : Int} {S : Sm} : m_law_copied (n + 2) [.tup [.int a, .int b]] S = some (.tup [.int a, .int b], S) := by
  have h1 : ∀ i : Int, m_law_copied (n + 1) [.int i] S = some (.int i, S) := fun i => by
    refine run_rt (E' := [.v (.int i), .no, .no, .no]) ?_
    show g_law_copied (m_law_copied n) [.v (.int i), .no, .no, .no] S = _
    unfold g_law_copied
    have t1 : bT (isE ["list", "tuple"] (vE 0)) [.v (.int i), .no, .no, .no] S = some (false, S) := bT_at (is_at (v_at rfl) rfl)
    have t2 : bT (isE ["dict"] (vE 0)) [.v (.int i), .no, .no, .no] S = some (false, S) := bT_at (is_at (v_at rfl) rfl)
    rw [x_seq, ifS_f t1]
    show seqS _ _ [.v (.int i), .no, .no, .no] S = _
    rw [x_seq, ifS_f t2]
    rfl
  refine run_rt (E' := [.v (.tup [.int a, .int b]), .v (.lst [.int a, .int b]), .no, .no]) ?_
  show g_law_copied (m_law_copied (n + 1)) [.v (.tup [.int a, .int b]), .no, .no, .no] S = _
  unfold g_law_copied
  have t1 : bT (isE ["list", "tuple"] (vE 0)) [.v (.tup [.int a, .int b]), .no, .no, .no] S = some (true, S) := bT_at (is_at (v_at rfl) rfl)
  have e0 : lcL (tgN 2) yesT (mE (m_law_copied (n + 1)) 1 (consA (vE 2) nilA)) [.int a, .int b] [.v (.tup [.int a, .int b]), .no, .no, .no] S = some ([.int a, .int b], S) :=
    lc_yes (E1 := [.v (.tup [.int a, .int b]), .no, .v (.int a), .no]) rfl rfl (m_at1 (v_at rfl) (h1 a)) (lc_yes (E1 := [.v (.tup [.int a, .int b]), .no, .v (.int b), .no]) rfl rfl (m_at1 (v_at rfl) (h1 b)) rfl)
  have a1 : setS 1 (lcE (itF (vE 0)) (tgN 2) yesT (mE (m_law_copied (n + 1)) 1 (consA (vE 2) nilA)) [2]) [.v (.tup [.int a, .int b]), .no, .no, .no] S = some (.nx, [.v (.tup [.int a, .int b]), .v (.lst [.int a, .int b]), .no, .no], S) :=
    set_at (i := 1) (lce_at (it_sq (ys := [.int a, .int b]) (.inr rfl) (v_at rfl)) (by show 2 ≤ 1000000; decide) rfl rfl e0) (by show 1 < 4; decide)
  have t3 : bT (isE ["list"] (vE 0)) [.v (.tup [.int a, .int b]), .v (.lst [.int a, .int b]), .no, .no] S = some (false, S) := bT_at (is_at (v_at rfl) rfl)
  have a2 : retS (ifE (bT (isE ["list"] (vE 0))) (vE 1) (callE tupN (consA (vE 1) nilA))) [.v (.tup [.int a, .int b]), .v (.lst [.int a, .int b]), .no, .no] S = some (.rt (.tup [.int a, .int b]), [.v (.tup [.int a, .int b]), .v (.lst [.int a, .int b]), .no, .no], S) := by
    refine ret_at ?_
    rw [ifE_f t3]
    exact call_at1 (v_at rfl) rfl
  rw [x_seq, ifS_t t1, seq_nx a1, a2]
theorem q_copied_dic {n : Nat} {ts : List Str} {d : D} {P : Str → D → Prop} {S : Sm} (hd : DicOf P ts d) (hn : ts.Nodup) (hl : ts.length ≤ 1000) (h : ∀ t x, P t x → m_law_copied n [x] S = some (x, S)) : ∃ e, m_law_copied (n + 1) [d] S = some (e, S) ∧ DicOf P ts e := by
  have key : ∀ us : List Str, (∀ t ∈ us, t ∈ ts) → ∃ l : List (Str × D), lcL (tgN 3) yesT (tupE (consA (vE 3) (consA (mE (m_law_copied n) 1 (consA (subE (vE 0) (vE 3)) nilA)) nilA))) (us.map D.str) [.v d, .no, .no, .no] S = some (l.map rowO, S) ∧ l.map (·.1) = us ∧ ∀ p ∈ l, P p.1 p.2 := by
    have gen : ∀ (us : List Str) (x : Sl), (∀ t ∈ us, t ∈ ts) → ∃ l : List (Str × D), lcL (tgN 3) yesT (tupE (consA (vE 3) (consA (mE (m_law_copied n) 1 (consA (subE (vE 0) (vE 3)) nilA)) nilA))) (us.map D.str) [.v d, .no, .no, x] S = some (l.map rowO, S) ∧ l.map (·.1) = us ∧ ∀ p ∈ l, P p.1 p.2 := by
      intro us
      induction us with
      | nil => exact fun x _ => ⟨[], rfl, rfl, fun _ h => by cases h⟩
      | cons t us ih =>
        intro x hu
        obtain ⟨y, hy, py⟩ := hd.sub (hu t List.mem_cons_self)
        obtain ⟨l, e, hk, hv⟩ := ih x fun z hz => hu z (List.mem_cons_of_mem _ hz)
        refine ⟨(t, y) :: l, ?_, by rw [List.map_cons, hk], fun p hp => ?_⟩
        · exact lc_yes (E1 := [.v d, .no, .no, .v (.str t)]) rfl rfl (tup_at2 (v_at rfl) (m_at1 (sub_at (v_at rfl) (v_at rfl) hy) (h t y py))) e
        · rcases List.mem_cons.mp hp with rfl | hp
          · exact py
          · exact hv p hp
    exact fun us hu => gen us .no hu
  obtain ⟨l, e1, hk, hv⟩ := key ts fun _ h => h
  have hd2 : DicOf P ts (dicD l) := by rw [← hk]; exact dicOf_of hv
  refine ⟨dicD l, run_rt (E' := [.v d, .no, .no, .no]) ?_, hd2⟩
  have hkf : keysF (vE 0) [.v d, .no, .no, .no] S = some (ts.map D.str, S) := keysF_dic hd (v_at rfl)
  obtain ⟨kds, rfl, pd⟩ := hd
  show g_law_copied (m_law_copied n) [.v (.dic kds), .no, .no, .no] S = _
  unfold g_law_copied
  have t1 : bT (isE ["list", "tuple"] (vE 0)) [.v (.dic kds), .no, .no, .no] S = some (false, S) := bT_at (is_at (v_at rfl) rfl)
  have t2 : bT (isE ["dict"] (vE 0)) [.v (.dic kds), .no, .no, .no] S = some (true, S) := bT_at (is_at (v_at rfl) rfl)
  rw [x_seq, ifS_f t1]
  show seqS _ _ [.v (.dic kds), .no, .no, .no] S = _
  rw [x_seq, ifS_t t2]
  have r := ret_at (call_at1 (lce_at hkf (by rw [List.length_map]; omega) (own := [3]) rfl rfl e1) (dict_any (by rw [hk]; exact hn)))
  rw [r]
/-- bounds, handed in other forms -/
theorem q_loose_bounds {n : Nat} {ts : List Str} {d : D} {lo hi : Str → Int} (hd : BdIs d lo hi ts) (hn : ts.Nodup) (hl : ts.length ≤ 20) {S : Sm} (g : Good (n + 20) S) : ∃ e S', m_law_loose 4 [.strm, d] S = some (e, S') ∧ BdIs e lo hi ts ∧ Good n S' := by
  refine q_loose_dic (n := 3) (c := 1) hd hn (by omega) (fun t x px m S g => ?_) (g.mono (by omega))
  obtain ⟨e, S', e1, h1, g1⟩ := q_loose2 (n := 1) (.inr ⟨_, rfl⟩) (.inr ⟨_, rfl⟩) px g
  exact ⟨e, S', e1, h1, g1⟩
theorem q_copied_bounds {ts : List Str} {d : D} {lo hi : Str → Int} {S : Sm} (hd : DicOf (PrT lo hi) ts d) (hn : ts.Nodup) (hl : ts.length ≤ 20) : ∃ e, m_law_copied 4 [d] S = some (e, S) ∧ BdIs e lo hi ts := by
  obtain ⟨e, e1, h1⟩ := q_copied_dic (n := 3) (S := S) hd hn (by omega) (fun t x px => by
    unfold PrT at px
    subst px
    exact q_copied_pair (n := 1))
  exact ⟨e, e1, h1.imp prT_z⟩
/-- pulls, handed in other forms: ints stay -/
def PInt (t : Str) (d : D) : Prop := ∃ i : Int, d = .int i
theorem win_dic {w : Wins} : DicOf PInt (w.map (·.1)) (winD w) := by
  have := dicOf_of (P := PInt) (l := w.map fun p => (p.1, D.int p.2)) (fun p hp => by
    obtain ⟨q, _, rfl⟩ := List.mem_map.mp hp
    exact ⟨_, rfl⟩)
  rw [List.map_map] at this
  have e : dicD (w.map fun p => (p.1, D.int p.2)) = winD w := by
    unfold dicD winD
    rw [List.map_map]
    rfl
  rw [e] at this
  exact this
theorem q_loose_win {n : Nat} {w : Wins} (hn : NdW w) (hl : w.length ≤ 20) {S : Sm} (g : Good n S) : ∃ e S', m_law_loose 4 [.strm, winD w] S = some (e, S') ∧ Good n S' := by
  obtain ⟨e, S', e1, _, g1⟩ := q_loose_dic (n := 3) (c := 0) win_dic hn (by rw [List.length_map]; omega) (fun t x px m S g => by
    obtain ⟨i, rfl⟩ := px
    exact ⟨_, S, loose_at (.inr ⟨_, rfl⟩), ⟨_, rfl⟩, g⟩) (m := n) (S := S) (g.mono (by omega))
  exact ⟨e, S', e1, g1⟩
/-- lists of names, of numbers -/
theorem paired_eq {xs ys : List D} (p : Paired Eq xs ys) : ys = xs := by
  induction p with
  | nil => rfl
  | cons r _ ih => rw [ih, ← r]
theorem q_loose_flat {n m : Nat} {d : D} {xs : List D} (hd : sq d xs) (hl : xs.length ≤ 1000000) (ha : ∀ x ∈ xs, atomD x) {S : Sm} (g : Good (m + 1) S) : ∃ e S', m_law_loose (n + 2) [.strm, d] S = some (e, S') ∧ sq e xs ∧ Good m S' := by
  obtain ⟨e, ys, S', e1, s, p, g'⟩ := q_loose (n := n + 1) (c := 0) (R := Eq) hd hl (fun x hx m S g => ⟨x, S, loose_at (ha x hx), rfl, g⟩) (m := m) (S := S) (g.mono (by omega))
  rw [paired_eq p] at s
  exact ⟨e, S', e1, s, g'⟩
theorem q_loose_strs {m : Nat} {zs : List Str} (hl : zs.length ≤ 1000) {S : Sm} (g : Good (m + 1) S) : ∃ e S', m_law_loose 4 [.strm, strsD zs] S = some (e, S') ∧ sq e (zs.map D.str) ∧ Good m S' :=
  q_loose_flat (n := 2) (.inl rfl) (by rw [List.length_map]; omega) (fun x hx => by
    obtain ⟨z, _, rfl⟩ := List.mem_map.mp hx
    exact .inl ⟨_, rfl⟩) g
theorem q_loose_ints {m : Nat} {zs : List Int} (hl : zs.length ≤ 1000) {S : Sm} (g : Good (m + 1) S) : ∃ e S', m_law_loose 4 [.strm, intsI zs] S = some (e, S') ∧ sq e (zs.map D.int) ∧ Good m S' :=
  q_loose_flat (n := 2) (.inl rfl) (by rw [List.length_map]; omega) (fun x hx => by
    obtain ⟨z, _, rfl⟩ := List.mem_map.mp hx
    exact .inr ⟨_, rfl⟩) g
end M

set_option Elab.async false
set_option linter.all false
set_option maxRecDepth 100000
set_option maxHeartbeats 4000000
namespace M
open PySem L2

/-! ### the costs of all outcomes that keep bounds -/
def csD (fs : List Str) (ps : List Int) (zs : List Str) : D := .tup [.int (costZ fs ps zs), strsD zs]
def isIL (d : D) : Prop := ∃ i zs, d = .tup [.int i, strsD zs]
theorem alike_strs2 : ∀ xs ys : List Str, PySem.W.alikeAll (toPs (xs.map D.str)) (toPs (ys.map D.str)) = true
  | [], _ => by simp [toPs, PySem.W.alikeAll]
  | _ :: _, [] => by simp [toPs, PySem.W.alikeAll]
  | x :: xs, y :: ys => by
    rw [List.map_cons, List.map_cons, toPs, toPs, PySem.W.alikeAll, alike_strs2 xs ys]
    simp [toP, PySem.W.alike]
theorem depth_strs2 : ∀ xs : List Str, PyData.depthAll (toPs (xs.map D.str)) = 0
  | [] => rfl
  | x :: xs => by
    rw [List.map_cons, toPs, PyData.depthAll, depth_strs2 xs]
    rfl
theorem okPs_strs (xs : List Str) : okPs (xs.map D.str) = true := okPs_of fun d hd => by
  obtain ⟨x, _, rfl⟩ := List.mem_map.mp hd
  rfl
theorem kind_IL : Kind isIL := by
  refine ⟨?_, ?_, .inl ?_, ?_⟩
  · rintro _ ⟨i, zs, rfl⟩
    simp [okP, okPs, strsD, okPs_strs]
  · rintro _ _ ⟨i, xs, rfl⟩ ⟨j, ys, rfl⟩
    simp [toP, toPs, PySem.W.alike, PySem.W.alikeAll, strsD, alike_strs2]
  · rintro _ ⟨i, zs, rfl⟩; rfl
  · rintro _ ⟨i, zs, rfl⟩
    simp [toP, toPs, PyData.depth, PyData.depthAll, strsD, depth_strs2]
theorem perm_map {α : Type} {f : α → D} {ys : List D} {xs : List α} (h : ys.Perm (xs.map f)) : ∃ xs' : List α, ys = xs'.map f ∧ xs'.Perm xs := by
  obtain ⟨xs', h1, h2⟩ := paired_perm h (paired_map f xs)
  refine ⟨xs', ?_, h1⟩
  clear h h1
  induction h2 with
  | nil => rfl
  | cons r _ ih => rw [List.map_cons, r, ih]
noncomputable def csB : FS := ifS (bT (mE m_law_keeps 3 (consA (vE 0) (consA (vE 1) (consA (vE 5) nilA))))) (appS 4 (tupE (consA (mE m_law_cost 3 (consA (vE 2) (consA (vE 3) (consA (vE 5) nilA)))) (consA (vE 5) nilA)))) nextS
theorem cs_loop {w : Wins} {g : Games} {bd : D} {lo hi : Str → Int} {fs : List Str} {ps : List Int} {S : Sm} (f : Wf w g) (hb : Bds bd lo hi (w.map (·.1))) (hl : fs.length ≤ 1000) : ∀ (l acc : List (List Str)) (s5 : Sl), (∀ zs ∈ l, IsOut g zs) → acc.length + l.length < 1000000 → (∀ zs ∈ acc, IsOut g zs ∧ keepB lo hi (tabOf w zs) = true) →
    ∃ (acc' : List (List Str)) (s5' : Sl), forL (tgN 5) csB (l.map strsD) [.v (seaT w g), .v bd, .v (strsD fs), .v (intsI ps), .o (.lst (acc.map (csD fs ps))), s5] S = some (.nx, [.v (seaT w g), .v bd, .v (strsD fs), .v (intsI ps), .o (.lst (acc'.map (csD fs ps))), s5'], S) ∧ ∀ zs ∈ acc', IsOut g zs ∧ keepB lo hi (tabOf w zs) = true
  | [], acc, s5, _, _, ha => ⟨acc, s5, rfl, ha⟩
  | zs :: l, acc, s5, ho, hn, ha => by
    have hz := ho zs List.mem_cons_self
    rw [List.length_cons] at hn
    have e1 := q_keeps (S := S) f hz hb
    have c : bT (mE m_law_keeps 3 (consA (vE 0) (consA (vE 1) (consA (vE 5) nilA)))) [.v (seaT w g), .v bd, .v (strsD fs), .v (intsI ps), .o (.lst (acc.map (csD fs ps))), .v (strsD zs)] S = some (keepB lo hi (tabOf w zs), S) := bT_at (m_at3 (v_at rfl) (v_at rfl) (v_at rfl) e1)
    have ht : tgN 5 (strsD zs) [.v (seaT w g), .v bd, .v (strsD fs), .v (intsI ps), .o (.lst (acc.map (csD fs ps))), s5] = some [.v (seaT w g), .v bd, .v (strsD fs), .v (intsI ps), .o (.lst (acc.map (csD fs ps))), .v (strsD zs)] := rfl
    cases q : keepB lo hi (tabOf w zs) with
    | true =>
      rw [q] at c
      have e2 : csB [.v (seaT w g), .v bd, .v (strsD fs), .v (intsI ps), .o (.lst (acc.map (csD fs ps))), .v (strsD zs)] S = some (.nx, [.v (seaT w g), .v bd, .v (strsD fs), .v (intsI ps), .o (.lst ((acc ++ [zs]).map (csD fs ps))), .v (strsD zs)], S) := by
        unfold csB
        rw [ifS_t c, List.map_append]
        exact app_at (i := 4) (ds := acc.map (csD fs ps)) rfl (tup_at2 (m_at3 (v_at rfl) (v_at rfl) (v_at rfl) (q_law_cost hl)) (v_at rfl)) (by rw [List.length_map]; omega)
      obtain ⟨acc', s5', e3, h3⟩ := cs_loop (ps := ps) (S := S) f hb hl l (acc ++ [zs]) (.v (strsD zs)) (fun y hy => ho y (List.mem_cons_of_mem _ hy)) (by rw [List.length_append, List.length_singleton]; omega) (fun y hy => by
        rcases List.mem_append.mp hy with hy | hy
        · exact ha y hy
        · rw [List.mem_singleton] at hy
          subst hy
          exact ⟨hz, q⟩)
      exact ⟨acc', s5', by rw [List.map_cons, forL_nx ht e2, e3], h3⟩
    | false =>
      rw [q] at c
      have e2 : csB [.v (seaT w g), .v bd, .v (strsD fs), .v (intsI ps), .o (.lst (acc.map (csD fs ps))), .v (strsD zs)] S = some (.nx, [.v (seaT w g), .v bd, .v (strsD fs), .v (intsI ps), .o (.lst (acc.map (csD fs ps))), .v (strsD zs)], S) := by
        unfold csB
        rw [ifS_f c]
        rfl
      obtain ⟨acc', s5', e3, h3⟩ := cs_loop (ps := ps) (S := S) f hb hl l acc (.v (strsD zs)) (fun y hy => ho y (List.mem_cons_of_mem _ hy)) (by omega) ha
      exact ⟨acc', s5', by rw [List.map_cons, forL_nx ht e2, e3], h3⟩
theorem q_costs {w : Wins} {g : Games} {bd : D} {lo hi : Str → Int} {fs : List Str} {ps : List Int} {S : Sm} (f : Wf w g) (hg : g.length ≤ 8) (hb : Bds bd lo hi (w.map (·.1))) (hl : fs.length ≤ 1000) : ∃ l : List (List Str), m_law_costs [seaT w g, bd, strsD fs, intsI ps] S = some (.lst (l.map (csD fs ps)), S) ∧ ∀ zs ∈ l, IsOut g zs ∧ keepB lo hi (tabOf w zs) = true := by
  have hlen : (outsOf g).length ≤ 256 := by
    have : (outsOf g).length = 1 * 2 ^ g.length := outs_len
    rw [this, Nat.one_mul]
    exact Nat.pow_le_pow_right (by decide) (show g.length ≤ 8 from hg)
  obtain ⟨acc, s5, e1, h1⟩ := cs_loop (ps := ps) (S := S) f hb hl (outsOf g) [] .no (fun zs hz => outsOf_mem.mp hz) (by rw [List.length_nil]; omega) (fun _ h => by cases h)
  have hs : sortN [.lst (acc.map (csD fs ps))] = some (.lst ((acc.map (csD fs ps)).mergeSort leD)) := sort_kind kind_IL fun d hd => by
    obtain ⟨z, _, rfl⟩ := List.mem_map.mp hd
    exact ⟨_, z, rfl⟩
  obtain ⟨l, hm, hp⟩ := perm_map (List.mergeSort_perm (acc.map (csD fs ps)) leD)
  rw [hm] at hs
  refine ⟨l, run_rt (E' := [.v (seaT w g), .v bd, .v (strsD fs), .v (intsI ps), .v (.lst (acc.map (csD fs ps))), s5]) ?_, fun zs hz => h1 zs (hp.mem_iff.mp hz)⟩
  show (seqS (ownS 4 (lstE nilA)) (seqS (forS (itF (mE m_law_outcomes 1 (consA (vE 0) nilA))) (tgN 5) csB) (giveQ 4 (retS (callE sortN (consA (vE 4) nilA)))))) [.v (seaT w g), .v bd, .v (strsD fs), .v (intsI ps), .no, .no] S = _
  have a1 : ownS 4 (lstE nilA) [.v (seaT w g), .v bd, .v (strsD fs), .v (intsI ps), .no, .no] S = some (.nx, [.v (seaT w g), .v bd, .v (strsD fs), .v (intsI ps), .o (.lst []), .no], S) := rfl
  have a2 : forS (itF (mE m_law_outcomes 1 (consA (vE 0) nilA))) (tgN 5) csB [.v (seaT w g), .v bd, .v (strsD fs), .v (intsI ps), .o (.lst []), .no] S = some (.nx, [.v (seaT w g), .v bd, .v (strsD fs), .v (intsI ps), .o (.lst (acc.map (csD fs ps))), s5], S) := by
    rw [x_for, it_sq (ys := (outsOf g).map strsD) (.inl rfl) (m_at1 (v_at rfl) (q_outcomes hg))]
    exact e1
  rw [seq_nx a1, seq_nx a2]
  exact ret_at (E := [.v (seaT w g), .v bd, .v (strsD fs), .v (intsI ps), .v (.lst (acc.map (csD fs ps))), s5]) (call_at1 (v_at rfl) hs)
/-! ### a season shows what it was made of -/
theorem dict_loop3 {a : Sl} {S : Sm} : ∀ (w pre : Wins) (x y : Sl), (pre.map (·.1) ++ w.map (·.1)).Nodup → dcL (tgT 2 (tgCons (tgN 1) (tgCons (tgN 2) tgNil))) yesT (vE 1) (vE 2) (w.map rowD) (pre.map fun p => ((.inr p.1 : Key), D.int p.2)) [a, x, y] S = some ((pre ++ w).map fun p => ((.inr p.1 : Key), D.int p.2), S)
  | [], pre, x, y, _ => by rw [List.append_nil]; rfl
  | p :: w, pre, x, y, hn => by
    have ih := fun x y => dict_loop3 (a := a) (S := S) w (pre ++ [p]) x y (by rw [List.map_append, List.append_assoc]; exact hn)
    have ht : tgT 2 (tgCons (tgN 1) (tgCons (tgN 2) tgNil)) (rowD p) [a, x, y] = some [a, .v (.str p.1), .v (.int p.2)] := rfl
    have hp : putD (pre.map fun p => ((.inr p.1 : Key), D.int p.2)) (.inr p.1) (.int p.2) = ((pre ++ [p]).map fun p => ((.inr p.1 : Key), D.int p.2)) := by
      unfold putD
      have ha : ((pre.map fun p => ((.inr p.1 : Key), D.int p.2)).any fun kv => decide (kv.1 = .inr p.1)) = false := by
        rw [List.any_eq_false]
        intro q hq
        obtain ⟨u, hu, rfl⟩ := List.mem_map.mp hq
        simp
        intro e
        rw [List.map_cons, List.nodup_append] at hn
        exact hn.2.2 _ (List.mem_map.mpr ⟨u, hu, rfl⟩) _ List.mem_cons_self e
      rw [ha, if_neg Bool.false_ne_true, List.map_append]
      rfl
    have h3 : vE 1 [a, .v (.str p.1), .v (.int p.2)] S = some (.str p.1, S) := v_at rfl
    have h4 : vE 2 [a, .v (.str p.1), .v (.int p.2)] S = some (.int p.2, S) := v_at rfl
    rw [List.map_cons, dcL, ht]
    simp only [x_yes, h3, h4, keyD, hp]
    rw [ih, List.append_assoc]
    rfl
theorem q_season_wins {C : Addr} {w : Wins} {g : Games} {S : Sm} (hn : NdW w) (hw : w.length ≤ 1000) : m_Season_wins C [seasD C w g] S = some (winD w, S) := by
  refine run_rt (E' := [.v (seasD C w g), .no, .no]) ?_
  show g_Season_wins C [.v (seasD C w g), .no, .no] S = _
  unfold g_Season_wins
  refine ret_at ?_
  have hi : itemsF (fldE C "own_wins" (vE 0)) [.v (seasD C w g), .no, .no] S = some (w.map rowD, S) := itemsF_win fld_wins
  have hl := dict_loop3 (a := .v (seasD C w g)) (S := S) w [] .no .no (by simpa [NdW] using hn)
  unfold dcE
  rw [hi]
  simp only []
  rw [if_pos ⟨by rw [List.length_map]; omega, rfl⟩]
  have hwp : wipeE [Sl.v (seasD C w g), .no, .no] [1, 2] = [.v (seasD C w g), .no, .no] := rfl
  rw [hwp]
  have hl : dcL (tgT 2 (tgCons (tgN 1) (tgCons (tgN 2) tgNil))) yesT (vE 1) (vE 2) (w.map rowD) [] [.v (seasD C w g), .no, .no] S = some (w.map fun p => ((.inr p.1 : Key), D.int p.2), S) := hl
  rw [hl]
  rfl
theorem q_season_games {C : Addr} {w : Wins} {g : Games} {S : Sm} : m_Season_games C [seasD C w g] S = some (gamesD g, S) := by
  refine run_rt (E' := [.v (seasD C w g)]) ?_
  show g_Season_games C [.v (seasD C w g)] S = _
  unfold g_Season_games
  exact ret_at (call_at1 fld_games rfl)
theorem look2 {mn : Str} {a b : D} (h1 : (mn == ("own_wins" : Str)) = false) (h2 : (mn == ("own_games" : Str)) = false) : List.lookup mn [(("own_wins" : Str), a), ("own_games", b)] = none := by
  rw [List.lookup_cons, h1]
  simp only []
  rw [List.lookup_cons, h2]
  rfl
theorem meth_at0 {C : Addr} {mn : Str} {m : FM} {f : FE} {w : Wins} {g : Games} {E : Ev} {S S1 S2 : Sm} {d : D} (h : f E S = some (seasD C w g, S1)) (hn : List.lookup mn [(("own_wins" : Str), winD w), ("own_games", gamesD g)] = none) (e : m [seasD C w g] S1 = some (d, S2)) : methE C mn m 1 f nilA E S = some (d, S2) := by
  unfold methE
  rw [h]
  unfold seasD
  simp only []
  rw [if_pos ⟨trivial, hn⟩]
  simp only [x_nil]
  exact e
theorem okS_str {n : Nat} {x : Str} : okSame2 (n + 1) (.str x) := trivial
theorem okS_int {n : Nat} {x : Int} : okSame2 (n + 1) (.int x) := trivial
theorem okS_win {n : Nat} {w : Wins} (h : w.length ≤ 1000) : okSame2 (n + 4) (winD w) := by
  show okSame2 (n + 3) (.lst (itemsD _))
  refine ⟨by unfold itemsD; rw [List.length_map, List.length_map]; omega, fun x hx => ?_⟩
  unfold itemsD at hx
  rw [items_win] at hx
  obtain ⟨p, _, rfl⟩ := List.mem_map.mp hx
  refine ⟨by show 2 ≤ 1000000; decide, fun y hy => ?_⟩
  simp at hy
  rcases hy with rfl | rfl
  · exact okS_str
  · exact okS_int
theorem okS_games {n : Nat} {g : Games} (h : g.length ≤ 1000) : okSame2 (n + 3) (gamesD g) := by
  refine ⟨by rw [List.length_map]; omega, fun x hx => ?_⟩
  obtain ⟨p, _, rfl⟩ := List.mem_map.mp hx
  refine ⟨by show 2 ≤ 1000000; decide, fun y hy => ?_⟩
  simp at hy
  rcases hy with rfl | rfl
  · exact okS_str
  · exact okS_str
theorem q_law_shows {C : Addr} {w : Wins} {g : Games} {S : Sm} (f : Wf w g) : m_law_shows C [seasD C w g, seaT w g] S = some (.bl true, S) := by
  have hw := f.lw
  have hg := f.lg
  have e1 := q_season_wins (C := C) (g := g) (S := S) f.nd (by omega)
  have e2 := q_season_games (C := C) (w := w) (g := g) (S := S)
  have e3 : m_law_same 6 [.lst [winD w, gamesD g], .lst [winD w, gamesD g]] S = some (.bl true, S) := q_same2 (n := 6) ⟨by show 2 ≤ 1000000; decide, fun x hx => by
    simp at hx
    rcases hx with rfl | rfl
    · exact okS_win (n := 1) (by omega)
    · exact okS_games (n := 2) (by omega)⟩
  refine run_rt (E' := [.v (seasD C w g), .v (seaT w g)]) ?_
  show g_law_shows C [.v (seasD C w g), .v (seaT w g)] S = _
  unfold g_law_shows
  refine ret_at ?_
  rw [and_t isC_seas]
  exact m_at2 (lst_at2 (meth_at0 (v_at rfl) (look2 (by decide +kernel) (by decide +kernel)) e1) (meth_at0 (v_at rfl) (look2 (by decide +kernel) (by decide +kernel)) e2)) (lst_at2 (sub_at (v_at rfl) rfl rfl) (sub_at (v_at rfl) rfl sea1)) e3
end M

set_option Elab.async false
set_option linter.all false
set_option maxRecDepth 100000
set_option maxHeartbeats 4000000
namespace M
open PySem L2 PySem.Spec PyProof PyProof.Rows

/-! ### what can be shown by repr -/
structure Shw (b k : Nat) (d : D) : Prop where
  ok : okP d = true
  sh : (toP d).showable = true
  le : (toP d).shown.length ≤ b
  dp : (toP d).depth ≤ k
theorem Shw.mono {b k b' k' : Nat} {d : D} (h : Shw b k d) (hb : b ≤ b') (hk : k ≤ k') : Shw b' k' d := ⟨h.ok, h.sh, Nat.le_trans h.le hb, Nat.le_trans h.dp hk⟩
theorem shw_str {x : Str} (h : okN x) : Shw 52 0 (.str x) := ⟨rfl, by simp [toP, PyData.showable], by rw [toP, PyData.shown]; exact name_len h, by simp [toP, PyData.depth]⟩
theorem shw_int {i : Int} (h : i.natAbs < 10000000) : Shw 52 0 (.int i) := by
  refine ⟨rfl, ?_, ?_, by simp [toP, PyData.depth]⟩
  · have : i.natAbs.log2 < 1920 := by
      by_cases h0 : i.natAbs = 0
      · rw [h0]; decide
      · rw [Nat.log2_lt h0]
        exact Nat.lt_of_lt_of_le (show i.natAbs < 2 ^ 24 by omega) (Nat.pow_le_pow_right (by decide) (by decide))
    simp [toP, PyData.showable, this]
  · rw [toP, PyData.shown, PySem.ofString_length]
    have := int_text_length_le10 (a := i) (k := 7) (by decide) (by omega)
    omega
theorem shw_none : Shw 52 0 .non := ⟨rfl, by simp [toP, PyData.showable], by rw [toP, PyData.shown]; decide, by simp [toP, PyData.depth]⟩
theorem shw_all {b k : Nat} : ∀ {ds : List D}, (∀ d ∈ ds, Shw b k d) → PyData.showableAll (toPs ds) = true ∧ PyData.depthAll (toPs ds) ≤ k ∧ ∀ y ∈ toPs ds, y.shown.length ≤ b
  | [], _ => ⟨rfl, Nat.zero_le _, fun _ h => by cases h⟩
  | d :: ds, h => by
    obtain ⟨h1, h2, h3⟩ := shw_all fun x hx => h x (List.mem_cons_of_mem _ hx)
    have hd := h d List.mem_cons_self
    refine ⟨?_, ?_, fun y hy => ?_⟩
    · rw [toPs, PyData.showableAll, hd.sh, h1]; rfl
    · have := hd.dp
      rw [toPs, PyData.depthAll]
      omega
    · rw [toPs] at hy
      rcases List.mem_cons.mp hy with rfl | hy
      · exact hd.le
      · exact h3 y hy
theorem shw_lst {b k : Nat} {ds : List D} (h : ∀ d ∈ ds, Shw b k d) : Shw (4 + ds.length * (b + 2)) (k + 1) (.lst ds) := by
  obtain ⟨h1, h2, h3⟩ := shw_all h
  refine ⟨by rw [okP]; exact okPs_of fun d hd => (h d hd).ok, by rw [toP, PyData.showable]; exact h1, ?_, by rw [toP, PyData.depth]; omega⟩
  rw [toP, PyData.shown]
  have := list_le (shownAll_le h3)
  rw [shownAll_len, toPs_map, List.length_map] at this
  rw [toPs_map]
  exact this
theorem shw_tup {b k : Nat} {ds : List D} (h : ∀ d ∈ ds, Shw b k d) : Shw (4 + ds.length * (b + 2)) (k + 1) (.tup ds) := by
  obtain ⟨h1, h2, h3⟩ := shw_all h
  refine ⟨by rw [okP]; exact okPs_of fun d hd => (h d hd).ok, by rw [toP, PyData.showable]; exact h1, ?_, by rw [toP, PyData.depth]; omega⟩
  rw [toP, PyData.shown]
  have := tuple_le (shownAll_le h3)
  rw [shownAll_len, toPs_map, List.length_map] at this
  rw [toPs_map]
  exact this
theorem shw_sq {b k : Nat} {d : D} {ds : List D} (s : sq d ds) (h : ∀ d ∈ ds, Shw b k d) : Shw (4 + ds.length * (b + 2)) (k + 1) d := by
  rcases s with rfl | rfl
  · exact shw_lst h
  · exact shw_tup h
theorem shw_kv {b k : Nat} : ∀ {l : List (Str × D)}, (∀ p ∈ l, okN p.1 ∧ Shw b k p.2) → okPk (l.map fun p => ((.inr p.1 : Key), p.2)) = true ∧ PyData.showableKv (toPk (l.map fun p => ((.inr p.1 : Key), p.2))) = true ∧ PyData.depthKv (toPk (l.map fun p => ((.inr p.1 : Key), p.2))) ≤ k ∧ (∀ t ∈ PyData.shownKv (toPk (l.map fun p => ((.inr p.1 : Key), p.2))), t.length ≤ 54 + b) ∧ (PyData.shownKv (toPk (l.map fun p => ((.inr p.1 : Key), p.2)))).length = l.length
  | [], _ => ⟨rfl, rfl, Nat.zero_le _, fun _ h => by (rw [List.map_nil, toPk, PyData.shownKv] at h; cases h), rfl⟩
  | p :: l, h => by
    obtain ⟨h1, h2, h3, h4, h5⟩ := shw_kv fun x hx => h x (List.mem_cons_of_mem _ hx)
    obtain ⟨hn, hd⟩ := h p List.mem_cons_self
    have e3 : (kP (.inr p.1)).shown = reprText p.1 := by rw [kP, PyData.shown]
    refine ⟨?_, ?_, ?_, fun t ht => ?_, ?_⟩
    · rw [List.map_cons, okPk, hd.ok, h1]; rfl
    · rw [List.map_cons, toPk, PyData.showableKv, hd.sh, h2]
      simp [kP, PyData.showable]
    · have := hd.dp
      rw [List.map_cons, toPk, PyData.depthKv]
      have e : (kP (.inr p.1)).depth = 0 := by simp [kP, PyData.depth]
      rw [e]
      omega
    · rw [List.map_cons, toPk, PyData.shownKv] at ht
      rcases List.mem_cons.mp ht with rfl | ht
      · have a := name_len hn
        have c := hd.le
        rw [strLen_append, strLen_append]
        have e2 : ((": " : String) : Str).length = 2 := rfl
        rw [e2, e3]
        omega
      · exact h4 t ht
    · rw [List.map_cons, toPk, PyData.shownKv, List.length_cons, List.length_cons, h5]
theorem shw_dic {b k : Nat} {l : List (Str × D)} (h : ∀ p ∈ l, okN p.1 ∧ Shw b k p.2) : Shw (4 + l.length * (54 + b + 2)) (k + 1) (dicD l) := by
  obtain ⟨h1, h2, h3, h4, h5⟩ := shw_kv h
  refine ⟨by rw [dicD, okP]; exact h1, by rw [dicD, toP, PyData.showable]; exact h2, ?_, by rw [dicD, toP, PyData.depth]; omega⟩
  rw [dicD, toP, PyData.shown]
  have := dictT_le h4
  rw [h5] at this
  exact this
theorem DicOf.l {P : Str → D → Prop} {ts : List Str} {d : D} (h : DicOf P ts d) : ∃ l : List (Str × D), d = dicD l ∧ l.map (·.1) = ts ∧ ∀ p ∈ l, P p.1 p.2 := by
  obtain ⟨kds, rfl, p⟩ := h
  have : ∀ {ts : List Str} {kds : List (Key × D)}, Paired (BdR P) ts kds → ∃ l : List (Str × D), kds = (l.map fun p => ((.inr p.1 : Key), p.2)) ∧ l.map (·.1) = ts ∧ ∀ p ∈ l, P p.1 p.2 := by
    intro ts kds p
    induction p with
    | nil => exact ⟨[], rfl, rfl, fun _ h => by cases h⟩
    | @cons t kd ts kds r _ ih =>
      obtain ⟨l, rfl, h1, h2⟩ := ih
      refine ⟨(t, kd.2) :: l, by rw [List.map_cons, ← r.1], by rw [List.map_cons, h1], fun q hq => ?_⟩
      rcases List.mem_cons.mp hq with rfl | hq
      · exact r.2
      · exact h2 q hq
  obtain ⟨l, rfl, h1, h2⟩ := this p
  exact ⟨l, rfl, h1, h2⟩
theorem shw_dicOf {b k : Nat} {P : Str → D → Prop} {ts : List Str} {d : D} (h : DicOf P ts d) (hn : ∀ t ∈ ts, okN t) (hs : ∀ t ∈ ts, ∀ x, P t x → Shw b k x) : Shw (4 + ts.length * (54 + b + 2)) (k + 1) d := by
  obtain ⟨l, rfl, rfl, hp⟩ := h.l
  rw [List.length_map]
  exact shw_dic fun p hq => ⟨hn _ (List.mem_map.mpr ⟨p, hq, rfl⟩), hs _ (List.mem_map.mpr ⟨p, hq, rfl⟩) _ (hp p hq)⟩
theorem shw_bounds {ts : List Str} {d : D} {lo hi : Str → Int} (h : BdIs d lo hi ts) (hn : ∀ t ∈ ts, okN t) (hb : ∀ t ∈ ts, 0 ≤ lo t ∧ lo t ≤ hi t ∧ hi t ≤ 9400) (hl : ts.length ≤ 20) : Shw 8000 3 d := by
  refine (shw_dicOf (b := 112) (k := 1) h hn fun t ht x hx => ?_).mono (by
    have : ts.length * (54 + 112 + 2) ≤ 20 * 168 := Nat.mul_le_mul_right _ hl
    omega) (by decide)
  obtain ⟨h1, h2, h3⟩ := hb t ht
  exact shw_sq (ds := [.int (lo t), .int (hi t)]) hx fun d hd => by
    simp at hd
    rcases hd with rfl | rfl
    · exact shw_int (by omega)
    · exact shw_int (by omega)
theorem shw_strs {d : D} {zs : List Str} (s : sq d (zs.map D.str)) (hn : ∀ z ∈ zs, okN z) (hl : zs.length ≤ 120) : Shw 8000 3 d := by
  refine (shw_sq (b := 52) (k := 0) s fun x hx => ?_).mono (by
    rw [List.length_map]
    have : zs.length * (52 + 2) ≤ 120 * 54 := Nat.mul_le_mul_right _ hl
    omega) (by decide)
  obtain ⟨z, hz, rfl⟩ := List.mem_map.mp hx
  exact shw_str (hn z hz)
theorem shw_ints {d : D} {zs : List Int} (s : sq d (zs.map D.int)) (hn : ∀ z ∈ zs, z.natAbs < 10000000) (hl : zs.length ≤ 120) : Shw 8000 3 d := by
  refine (shw_sq (b := 52) (k := 0) s fun x hx => ?_).mono (by
    rw [List.length_map]
    have : zs.length * (52 + 2) ≤ 120 * 54 := Nat.mul_le_mul_right _ hl
    omega) (by decide)
  obtain ⟨z, hz, rfl⟩ := List.mem_map.mp hx
  exact shw_int (hn z hz)
theorem shw_win {w : Wins} (h : ∀ p ∈ w, okN p.1 ∧ p.2.natAbs < 10000000) (hl : w.length ≤ 20) : Shw 8000 3 (winD w) := by
  have := shw_dic (b := 52) (k := 0) (l := w.map fun p => (p.1, D.int p.2)) (fun p hp => by
    obtain ⟨q, hq, rfl⟩ := List.mem_map.mp hp
    exact ⟨(h q hq).1, shw_int (h q hq).2⟩)
  have e : dicD (w.map fun p => (p.1, D.int p.2)) = winD w := by
    unfold dicD winD
    rw [List.map_map]
    rfl
  rw [e, List.length_map] at this
  refine this.mono ?_ (by decide)
  have : w.length * (54 + 52 + 2) ≤ 20 * 108 := Nat.mul_le_mul_right _ hl
  omega
theorem repr_of {b k : Nat} {d : D} {ds : List D} (s : sq d ds) (h : Shw b k d) (hb : b ≤ 10000000) (hk : k ≤ 40) : ∃ x, reprA [d] = some (.str x) := by
  refine ⟨(toP d).shown, ?_⟩
  have hA : reprOkA d = true := by
    unfold reprOkA
    rw [h.ok, h.sh, decide_eq_true (Nat.le_trans h.le hb), decide_eq_true (Nat.le_trans h.dp hk)]
    rcases s with rfl | rfl <;> rfl
  show (if reprOkA d = true then some (D.str (toP d).shown) else none) = _
  rw [if_pos hA]
theorem repr_list {ds : List D} (h : ∀ d ∈ ds, Shw 8000 3 d) (hl : ds.length ≤ 100) : ∃ x, reprA [.lst ds] = some (.str x) := by
  refine repr_of (.inl rfl) (shw_lst h) ?_ (by decide)
  have : ds.length * (8000 + 2) ≤ 100 * 8002 := Nat.mul_le_mul_right _ hl
  omega
end M

set_option Elab.async false
set_option linter.all false
set_option maxRecDepth 100000
set_option maxHeartbeats 4000000
namespace M
open PySem L2

/-! ### the law's first part: costs and bills are told -/
theorem lput_at {i : Nat} {fk fv : FE} {E : Ev} {S S1 S2 : Sm} {ds : List D} {v : D} {k : Int} (h : E[i]? = some (.o (.lst ds))) (e1 : fv E S = some (v, S1)) (e2 : fk E S1 = some (.int k, S2)) (h0 : 0 ≤ k) (hk : k.toNat < ds.length) : lputS i fk fv E S = some (.nx, E.set i (.o (.lst (ds.set k.toNat v))), S2) := by
  unfold lputS
  rw [e1]
  simp only [e2, h]
  rw [if_pos ⟨h0, hk⟩]
theorem kw_at {m : FM} {n nk : Nat} {ix : List Nat} {f : FA} {E : Ev} {S S1 : Sm} {ds ds' : List D} {r : D × Sm} (e : f E S = some (ds, S1)) (hp : permL ix ds = ds') (h1 : ds.length = nk) (h2 : ds'.length = n) (h : m ds' S1 = some r) : kwE m n nk ix f E S = some r := by
  rw [x_kw, e]
  simp only []
  subst hp
  rw [if_pos ⟨h1, h2⟩]
  exact h
theorem args4 {fa fb fc fd : FE} {E : Ev} {S S1 S2 S3 S4 : Sm} {a b c d : D} (h1 : fa E S = some (a, S1)) (h2 : fb E S1 = some (b, S2)) (h3 : fc E S2 = some (c, S3)) (h4 : fd E S3 = some (d, S4)) : consA fa (consA fb (consA fc (consA fd nilA))) E S = some ([a, b, c, d], S4) := by
  simp only [x_cons, x_nil, h1, h2, h3, h4]
theorem args5 {fa fb fc fd fe : FE} {E : Ev} {S S1 S2 S3 S4 S5 : Sm} {a b c d x : D} (h1 : fa E S = some (a, S1)) (h2 : fb E S1 = some (b, S2)) (h3 : fc E S2 = some (c, S3)) (h4 : fd E S3 = some (d, S4)) (h5 : fe E S4 = some (x, S5)) : consA fa (consA fb (consA fc (consA fd (consA fe nilA)))) E S = some ([a, b, c, d, x], S5) := by
  simp only [x_cons, x_nil, h1, h2, h3, h4, h5]
abbrev RV (C : Addr) (w : Wins) (g : Games) (was : Str) (fs : List Str) (ps : List Int) (s6 s7 s8 s9 s10 s11 s13 s14 s15 : Sl) : Ev := [.v .strm, .v (seaT w g), .v (seasD C w g), .v (.str was), .v (strsD fs), .v (intsI ps), s6, s7, s8, s9, s10, s11, .no, s13, s14, s15]
theorem rt_pass {C : Addr} {w : Wins} {g : Games} {was : Str} {fs zs : List Str} {ps : List Int} {bd : D} {lo hi : Str → Int} {pl : Wins} {s6 s10 s11 s13 s14 s15 : Sl} {n : Nat} {S : Sm} (f : Wf w g) (hb : BdIs bd lo hi (w.map (·.1))) (hf : fs.length ≤ 120) (hz : zs.length ≤ 120) (hp : ps.length ≤ 120) (hn : NdW pl) (hpl : pl.length ≤ 20) (gd : Good (n + 50) S) :
    ∃ (b' f' p' o' x' : D) (S' : Sm), lcE (itF (tupE (consA (vE 8) (consA (vE 4) (consA (vE 5) (consA (vE 7) (consA (vE 9) nilA))))))) (tgN 12) yesT (mE (m_law_loose 4) 2 (consA (vE 0) (consA (vE 12) nilA))) [12] (RV C w g was fs ps s6 (.v (strsD zs)) (.v bd) (.v (winD pl)) s10 s11 s13 s14 s15) S = some (.lst [b', f', p', o', x'], S') ∧ BdIs b' lo hi (w.map (·.1)) ∧ sq f' (fs.map D.str) ∧ sq p' (ps.map D.int) ∧ sq o' (zs.map D.str) ∧ Good n S' := by
  obtain ⟨b', S1, e1, h1, g1⟩ := q_loose_bounds (n := n + 30) hb f.nd (by rw [List.length_map]; exact f.lw) gd
  obtain ⟨f', S2, e2, h2, g2⟩ := q_loose_strs (m := n + 29) (zs := fs) (by omega) g1
  obtain ⟨p', S3, e3, h3, g3⟩ := q_loose_ints (m := n + 28) (zs := ps) (by omega) g2
  obtain ⟨o', S4, e4, h4, g4⟩ := q_loose_strs (m := n + 27) (zs := zs) (by omega) g3
  obtain ⟨x', S5, e5, g5⟩ := q_loose_win (n := n) hn hpl (g4.mono (by omega))
  refine ⟨b', f', p', o', x', S5, ?_, h1, h2, h3, h4, g5⟩
  have hi : itF (tupE (consA (vE 8) (consA (vE 4) (consA (vE 5) (consA (vE 7) (consA (vE 9) nilA)))))) (RV C w g was fs ps s6 (.v (strsD zs)) (.v bd) (.v (winD pl)) s10 s11 s13 s14 s15) S = some ([bd, strsD fs, intsI ps, strsD zs, winD pl], S) := rfl
  exact lce_at hi (by show 5 ≤ 1000000; decide) rfl rfl
    (lc_yes (E1 := [.v .strm, .v (seaT w g), .v (seasD C w g), .v (.str was), .v (strsD fs), .v (intsI ps), s6, .v (strsD zs), .v bd, .v (winD pl), s10, s11, .v bd, s13, s14, s15]) rfl rfl (m_at2 (v_at rfl) (v_at rfl) e1)
    (lc_yes (E1 := [.v .strm, .v (seaT w g), .v (seasD C w g), .v (.str was), .v (strsD fs), .v (intsI ps), s6, .v (strsD zs), .v bd, .v (winD pl), s10, s11, .v (strsD fs), s13, s14, s15]) rfl rfl (m_at2 (v_at rfl) (v_at rfl) e2)
    (lc_yes (E1 := [.v .strm, .v (seaT w g), .v (seasD C w g), .v (.str was), .v (strsD fs), .v (intsI ps), s6, .v (strsD zs), .v bd, .v (winD pl), s10, s11, .v (intsI ps), s13, s14, s15]) rfl rfl (m_at2 (v_at rfl) (v_at rfl) e3)
    (lc_yes (E1 := [.v .strm, .v (seaT w g), .v (seasD C w g), .v (.str was), .v (strsD fs), .v (intsI ps), s6, .v (strsD zs), .v bd, .v (winD pl), s10, s11, .v (strsD zs), s13, s14, s15]) rfl rfl (m_at2 (v_at rfl) (v_at rfl) e4)
    (lc_yes (E1 := [.v .strm, .v (seaT w g), .v (seasD C w g), .v (.str was), .v (strsD fs), .v (intsI ps), s6, .v (strsD zs), .v bd, .v (winD pl), s10, s11, .v (winD pl), s13, s14, s15]) rfl rfl (m_at2 (v_at rfl) (v_at rfl) e5) rfl)))))
noncomputable def rtA : FS := parvvS 7 8 (mE m_law_drawn_outcome 2 (consA (vE 0) (consA (vE 1) nilA))) (mE m_law_bounds 2 (consA (vE 0) (consA (vE 1) nilA)))
noncomputable def rtB : FS := setS 9 (mE m_law_drawn_pulls 2 (consA (vE 0) (consA (vE 1) nilA)))
noncomputable def rtC : FS := setS 10 (lstE (consA (mE m_law_cost 3 (consA (vE 4) (consA (vE 5) (consA (vE 7) nilA)))) (consA (mE m_law_bill 5 (consA (vE 1) (consA (vE 8) (consA (vE 4) (consA (vE 5) (consA (vE 9) nilA)))))) nilA)))
noncomputable def rtD : FS := ownS 11 (lcE (itF (tupE (consA (vE 8) (consA (vE 4) (consA (vE 5) (consA (vE 7) (consA (vE 9) nilA))))))) (tgN 12) yesT (mE (m_law_loose 4) 2 (consA (vE 0) (consA (vE 12) nilA))) [12])
noncomputable def rtE : FS := lputS 11 (cE (.int 4)) (callE dictN (consA (mE m_law_mixed 2 (consA (vE 0) (consA (itemsE (vE 9)) nilA))) nilA))
noncomputable def rtF : FS := giveQ 11 (setS 13 (callE reprA (consA (vE 11) nilA)))
noncomputable def rtG (C : Addr) : FS := setS 14 (lstE (consA (mE (m_cost C) 4 (consA (vE 2) (consA (subE (vE 11) (cE (.int 1))) (consA (subE (vE 11) (cE (.int 2))) (consA (subE (vE 11) (cE (.int 3))) nilA))))) (consA (mE (m_bill C) 5 (consA (vE 2) (consA (subE (vE 11) (cE (.int 0))) (consA (subE (vE 11) (cE (.int 1))) (consA (subE (vE 11) (cE (.int 2))) (consA (subE (vE 11) (cE (.int 4))) nilA)))))) nilA)))
noncomputable def rtH (C : Addr) : FS := ownS 15 (lstE (consA (kwE (m_cost C) 4 4 [3, 2, 1, 0] (consA (subE (vE 11) (cE (.int 3))) (consA (subE (vE 11) (cE (.int 2))) (consA (subE (vE 11) (cE (.int 1))) (consA (vE 2) nilA))))) nilA))
noncomputable def rtI (C : Addr) : FS := appS 15 (kwE (m_bill C) 5 5 [4, 3, 2, 1, 0] (consA (subE (vE 11) (cE (.int 4))) (consA (subE (vE 11) (cE (.int 2))) (consA (subE (vE 11) (cE (.int 1))) (consA (subE (vE 11) (cE (.int 0))) (consA (vE 2) nilA))))))
noncomputable def rtJ : FS := giveQ 15 (ifS (orT (notT (bT (mE (m_law_same 6) 2 (consA (lstE (consA (vE 14) (consA (vE 15) nilA))) (consA (lstE (consA (vE 10) (consA (vE 10) nilA))) nilA))))) (bT (opE (notO eqA) (callE reprA (consA (vE 11) nilA)) (vE 13)))) (retS (cE (.bl false))) nextS)
noncomputable def rtBody (C : Addr) : FS := seqS rtA (seqS rtB (seqS rtC (seqS rtD (seqS rtE (seqS rtF (seqS (rtG C) (seqS (rtH C) (seqS (rtI C) rtJ))))))))
theorem q_mixed_win {n : Nat} {pl : Wins} {S : Sm} (hl : pl.length ≤ 20) (gd : Good (n + 20) S) : ∃ (pl' : Wins) (S' : Sm), m_law_mixed [.strm, .lst (pl.map rowD)] S = some (.lst (pl'.map rowD), S') ∧ pl'.Perm pl ∧ Good n S' := by
  obtain ⟨us, S1, e1, p1, g1⟩ := q_mixed (n := n) (xs := pl.map rowD) (gd.mono (by rw [List.length_map]; omega)) (by rw [List.length_map]; omega)
  obtain ⟨pl', rfl, hp⟩ := perm_rows p1
  exact ⟨pl', S1, e1, hp, g1⟩
theorem rt_turn {C : Addr} {w : Wins} {g : Games} {was : Str} {fs : List Str} {ps : List Int} {s6 s7 s8 s9 s10 s11 s13 s14 s15 : Sl} {n : Nat} {S : Sm} (f : Sea w g) (hg : g.length ≤ 120) (hf : IsOut g fs) (hps : ps.length = g.length) (p0 : ∀ p ∈ ps, 0 ≤ p ∧ p ≤ 1000) (gd : Good (n + 1000) S) :
    ∃ (s7' s8' s9' s10' s11' s13' s14' s15' : Sl) (S' : Sm), rtBody C (RV C w g was fs ps s6 s7 s8 s9 s10 s11 s13 s14 s15) S = some (.nx, RV C w g was fs ps s6 s7' s8' s9' s10' s11' s13' s14' s15', S') ∧ Good n S' := by
  have hlw := f.wf.lw
  have hfl : fs.length = g.length := hf.len
  obtain ⟨zs, S1, e1, hz, g1⟩ := q_drawn (n := n + 800) (w := w) (g := g) (S := S) (by omega) (gd.mono (by omega))
  have hzl : zs.length = g.length := hz.len
  obtain ⟨bd, lo, hi, S2, e2, hb, h0, g2⟩ := q_bounds (n := n + 500) f hg g1
  obtain ⟨pl, S3, e3, hk, hv, g3⟩ := q_pulls (n := n + 400) (w := w) (g := g) f.wf.nd hlw (g2.mono (by omega))
  have hnd : NdW pl := by unfold NdW; rw [hk]; exact f.wf.nd
  have hpl : pl.length = w.length := by
    have := congrArg List.length hk
    simpa using this
  have hbz : BdIs bd lo hi (w.map (·.1)) := hb.imp prT_z
  have small : ∀ p ∈ pl, p.2.natAbs < 2 ^ 63 := fun p hp => by
    have := hv p hp
    omega
  have e4 := q_law_cost (fs := fs) (zs := zs) (ps := ps) (S := S3) (by omega)
  have e5 := q_law_bill (g := g) (S := S3) f.wf hf hps hnd (fun t => by rw [hk]) hbz.bds small
  obtain ⟨b', f', p', o', x', S4, e6, hb', hf', hp', ho', g4⟩ := rt_pass (C := C) (was := was) (fs := fs) (zs := zs) (ps := ps) (s6 := s6) (s10 := .v (.lst [.int (costZ fs ps zs), .int (billZ w g lo hi fs ps pl)])) (s11 := s11) (s13 := s13) (s14 := s14) (s15 := s15) (n := n + 300) f.wf hbz (by omega) (by omega) (by omega) hnd (by omega) (g3.mono (by omega))
  obtain ⟨pl', S5, e7, hperm, g5⟩ := q_mixed_win (n := n) (pl := pl) (S := S4) (by omega) (g4.mono (by omega))
  have hnd' : NdW pl' := (hperm.map _).nodup_iff.mpr hnd
  have hk' : ∀ t, t ∈ pl'.map (·.1) ↔ t ∈ w.map (·.1) := fun t => by rw [(hperm.map _).mem_iff, hk]
  have nm : ∀ t ∈ w.map (·.1), okN t := fun t ht => by
    obtain ⟨p, hp, rfl⟩ := List.mem_map.mp ht
    exact f.nm p hp
  have nmz : ∀ {us : List Str}, IsOut g us → ∀ z ∈ us, okN z := fun h z hz => nm z (mem_hasW (f.wf.mem h z hz))
  obtain ⟨rp, e8⟩ := repr_list (ds := [b', f', p', o', winD pl']) (fun d hd => by
    simp at hd
    rcases hd with rfl | rfl | rfl | rfl | rfl
    · exact shw_bounds hb' nm h0 (by rw [List.length_map]; exact hlw)
    · exact shw_strs hf' (nmz hf) (by omega)
    · exact shw_ints hp' (fun z hz => by have := p0 z hz; omega) (by omega)
    · exact shw_strs ho' (nmz hz) (by omega)
    · exact shw_win (fun p hp => ⟨nm _ ((hk' _).mp (List.mem_map.mpr ⟨p, hp, rfl⟩)), by have := hv p (hperm.mem_iff.mp hp); omega⟩) (by rw [hperm.length_eq]; omega)) (by show 5 ≤ 100; decide)
  have e9 := q_cost (C := C) (w := w) (S := S5) hf' hf hp' hps (by omega) (fun p hp => (p0 p hp).1) ho' hz
  have e10 := q_bill (C := C) (S := S5) f.wf hf' hp' hf hps (fun p hp => (p0 p hp).1) hnd' hk' (by rw [hperm.length_eq]; exact hpl) hb' (fun t ht => ⟨(h0 t ht).1, (h0 t ht).2.1⟩) (fun p hp => small p (hperm.mem_iff.mp hp))
  rw [bill_perm hperm hnd] at e10
  generalize hcz : costZ fs ps zs = cz at e4 e6 e9
  generalize hbb : billZ w g lo hi fs ps pl = bz at e5 e6 e10
  have a1 : rtA (RV C w g was fs ps s6 s7 s8 s9 s10 s11 s13 s14 s15) S = some (.nx, RV C w g was fs ps s6 (.v (strsD zs)) (.v bd) s9 s10 s11 s13 s14 s15, S2) :=
    parvv_at (m_at2 (v_at rfl) (v_at rfl) e1) (m_at2 (v_at rfl) (v_at rfl) e2) (by show 7 < 16; decide) (by show 8 < 16; decide)
  have a2 : rtB (RV C w g was fs ps s6 (.v (strsD zs)) (.v bd) s9 s10 s11 s13 s14 s15) S2 = some (.nx, RV C w g was fs ps s6 (.v (strsD zs)) (.v bd) (.v (winD pl)) s10 s11 s13 s14 s15, S3) :=
    set_at (i := 9) (m_at2 (v_at rfl) (v_at rfl) e3) (by show 9 < 16; decide)
  have a3 : rtC (RV C w g was fs ps s6 (.v (strsD zs)) (.v bd) (.v (winD pl)) s10 s11 s13 s14 s15) S3 = some (.nx, RV C w g was fs ps s6 (.v (strsD zs)) (.v bd) (.v (winD pl)) (.v (.lst [.int cz, .int bz])) s11 s13 s14 s15, S3) :=
    set_at (i := 10) (lst_at2 (m_at3 (v_at rfl) (v_at rfl) (v_at rfl) e4) (m_at5 (v_at rfl) (v_at rfl) (v_at rfl) (v_at rfl) (v_at rfl) e5)) (by show 10 < 16; decide)
  have a4 : rtD (RV C w g was fs ps s6 (.v (strsD zs)) (.v bd) (.v (winD pl)) (.v (.lst [.int cz, .int bz])) s11 s13 s14 s15) S3 = some (.nx, RV C w g was fs ps s6 (.v (strsD zs)) (.v bd) (.v (winD pl)) (.v (.lst [.int cz, .int bz])) (.o (.lst [b', f', p', o', x'])) s13 s14 s15, S4) := by
    unfold rtD
    rw [x_own, e6]
    rfl
  have a5 : rtE (RV C w g was fs ps s6 (.v (strsD zs)) (.v bd) (.v (winD pl)) (.v (.lst [.int cz, .int bz])) (.o (.lst [b', f', p', o', x'])) s13 s14 s15) S4 = some (.nx, RV C w g was fs ps s6 (.v (strsD zs)) (.v bd) (.v (winD pl)) (.v (.lst [.int cz, .int bz])) (.o (.lst [b', f', p', o', winD pl'])) s13 s14 s15, S5) := by
    have hi : itemsE (vE 9) (RV C w g was fs ps s6 (.v (strsD zs)) (.v bd) (.v (winD pl)) (.v (.lst [.int cz, .int bz])) (.o (.lst [b', f', p', o', x'])) s13 s14 s15) S4 = some (.lst (pl.map rowD), S4) := by
      have := items_at (f := vE 9) (E := RV C w g was fs ps s6 (.v (strsD zs)) (.v bd) (.v (winD pl)) (.v (.lst [.int cz, .int bz])) (.o (.lst [b', f', p', o', x'])) s13 s14 s15) (S := S4) (S1 := S4) (kds := pl.map fun p => ((.inr p.1 : Key), D.int p.2)) (v_at rfl)
      unfold itemsD at this
      rw [items_win] at this
      exact this
    unfold rtE
    exact lput_at (i := 11) (k := 4) (ds := [b', f', p', o', x']) (fk := cE (.int 4)) rfl (call_at1 (m_at2 (v_at rfl) hi e7) (dict_win hnd')) rfl (by decide) (by show 4 < 5; decide)
  have a6 : rtF (RV C w g was fs ps s6 (.v (strsD zs)) (.v bd) (.v (winD pl)) (.v (.lst [.int cz, .int bz])) (.o (.lst [b', f', p', o', winD pl'])) s13 s14 s15) S5 = some (.nx, RV C w g was fs ps s6 (.v (strsD zs)) (.v bd) (.v (winD pl)) (.v (.lst [.int cz, .int bz])) (.v (.lst [b', f', p', o', winD pl'])) (.v (.str rp)) s14 s15, S5) :=
    set_at (E := RV C w g was fs ps s6 (.v (strsD zs)) (.v bd) (.v (winD pl)) (.v (.lst [.int cz, .int bz])) (.v (.lst [b', f', p', o', winD pl'])) s13 s14 s15) (i := 13) (call_at1 (v_at rfl) e8) (by show 13 < 16; decide)
  have a7 : rtG C (RV C w g was fs ps s6 (.v (strsD zs)) (.v bd) (.v (winD pl)) (.v (.lst [.int cz, .int bz])) (.v (.lst [b', f', p', o', winD pl'])) (.v (.str rp)) s14 s15) S5 = some (.nx, RV C w g was fs ps s6 (.v (strsD zs)) (.v bd) (.v (winD pl)) (.v (.lst [.int cz, .int bz])) (.v (.lst [b', f', p', o', winD pl'])) (.v (.str rp)) (.v (.lst [.int cz, .int bz])) s15, S5) :=
    set_at (i := 14) (lst_at2 (m_at4 (v_at rfl) (sub_at (v_at rfl) rfl rfl) (sub_at (v_at rfl) rfl rfl) (sub_at (v_at rfl) rfl rfl) e9) (m_at5 (v_at rfl) (sub_at (v_at rfl) rfl rfl) (sub_at (v_at rfl) rfl rfl) (sub_at (v_at rfl) rfl rfl) (sub_at (v_at rfl) rfl rfl) e10)) (by show 14 < 16; decide)
  have a8 : rtH C (RV C w g was fs ps s6 (.v (strsD zs)) (.v bd) (.v (winD pl)) (.v (.lst [.int cz, .int bz])) (.v (.lst [b', f', p', o', winD pl'])) (.v (.str rp)) (.v (.lst [.int cz, .int bz])) s15) S5 = some (.nx, RV C w g was fs ps s6 (.v (strsD zs)) (.v bd) (.v (winD pl)) (.v (.lst [.int cz, .int bz])) (.v (.lst [b', f', p', o', winD pl'])) (.v (.str rp)) (.v (.lst [.int cz, .int bz])) (.o (.lst [.int cz])), S5) := by
    have k1 : kwE (m_cost C) 4 4 [3, 2, 1, 0] (consA (subE (vE 11) (cE (.int 3))) (consA (subE (vE 11) (cE (.int 2))) (consA (subE (vE 11) (cE (.int 1))) (consA (vE 2) nilA)))) (RV C w g was fs ps s6 (.v (strsD zs)) (.v bd) (.v (winD pl)) (.v (.lst [.int cz, .int bz])) (.v (.lst [b', f', p', o', winD pl'])) (.v (.str rp)) (.v (.lst [.int cz, .int bz])) s15) S5 = some (.int cz, S5) :=
      kw_at (args4 (sub_at (v_at rfl) rfl rfl) (sub_at (v_at rfl) rfl rfl) (sub_at (v_at rfl) rfl rfl) (v_at rfl)) rfl rfl rfl e9
    unfold rtH
    rw [x_own, lst_at1 k1]
    rfl
  have a9 : rtI C (RV C w g was fs ps s6 (.v (strsD zs)) (.v bd) (.v (winD pl)) (.v (.lst [.int cz, .int bz])) (.v (.lst [b', f', p', o', winD pl'])) (.v (.str rp)) (.v (.lst [.int cz, .int bz])) (.o (.lst [.int cz]))) S5 = some (.nx, RV C w g was fs ps s6 (.v (strsD zs)) (.v bd) (.v (winD pl)) (.v (.lst [.int cz, .int bz])) (.v (.lst [b', f', p', o', winD pl'])) (.v (.str rp)) (.v (.lst [.int cz, .int bz])) (.o (.lst [.int cz, .int bz])), S5) :=
    app_at (i := 15) (ds := [.int cz]) rfl (kw_at (args5 (sub_at (v_at rfl) rfl rfl) (sub_at (v_at rfl) rfl rfl) (sub_at (v_at rfl) rfl rfl) (sub_at (v_at rfl) rfl rfl) (v_at rfl)) rfl rfl rfl e10) (by show 1 < 1000000; decide)
  have a10 : rtJ (RV C w g was fs ps s6 (.v (strsD zs)) (.v bd) (.v (winD pl)) (.v (.lst [.int cz, .int bz])) (.v (.lst [b', f', p', o', winD pl'])) (.v (.str rp)) (.v (.lst [.int cz, .int bz])) (.o (.lst [.int cz, .int bz]))) S5 = some (.nx, RV C w g was fs ps s6 (.v (strsD zs)) (.v bd) (.v (winD pl)) (.v (.lst [.int cz, .int bz])) (.v (.lst [b', f', p', o', winD pl'])) (.v (.str rp)) (.v (.lst [.int cz, .int bz])) (.v (.lst [.int cz, .int bz])), S5) := by
    have sm : m_law_same 6 [.lst [.lst [.int cz, .int bz], .lst [.int cz, .int bz]], .lst [.lst [.int cz, .int bz], .lst [.int cz, .int bz]]] S5 = some (.bl true, S5) := q_same2 (n := 6) ⟨by show 2 ≤ 1000000; decide, fun x hx => by
      simp at hx
      subst hx
      exact ⟨by show 2 ≤ 1000000; decide, fun y hy => by
        simp at hy
        rcases hy with rfl | rfl <;> exact okS_int⟩⟩
    have c1 : notT (bT (mE (m_law_same 6) 2 (consA (lstE (consA (vE 14) (consA (vE 15) nilA))) (consA (lstE (consA (vE 10) (consA (vE 10) nilA))) nilA)))) (RV C w g was fs ps s6 (.v (strsD zs)) (.v bd) (.v (winD pl)) (.v (.lst [.int cz, .int bz])) (.v (.lst [b', f', p', o', winD pl'])) (.v (.str rp)) (.v (.lst [.int cz, .int bz])) (.v (.lst [.int cz, .int bz]))) S5 = some (false, S5) :=
      notT_at (b := true) (bT_at (m_at2 (lst_at2 (v_at rfl) (v_at rfl)) (lst_at2 (v_at rfl) (v_at rfl)) sm))
    have c2 : bT (opE (notO eqA) (callE reprA (consA (vE 11) nilA)) (vE 13)) (RV C w g was fs ps s6 (.v (strsD zs)) (.v bd) (.v (winD pl)) (.v (.lst [.int cz, .int bz])) (.v (.lst [b', f', p', o', winD pl'])) (.v (.str rp)) (.v (.lst [.int cz, .int bz])) (.v (.lst [.int cz, .int bz]))) S5 = some (false, S5) :=
      bT_at (op_at (call_at1 (v_at rfl) e8) (v_at rfl) (by rw [ne_str]; simp))
    show ifS _ _ _ (RV C w g was fs ps s6 (.v (strsD zs)) (.v bd) (.v (winD pl)) (.v (.lst [.int cz, .int bz])) (.v (.lst [b', f', p', o', winD pl'])) (.v (.str rp)) (.v (.lst [.int cz, .int bz])) (.v (.lst [.int cz, .int bz]))) S5 = _
    rw [ifS_f (by rw [orT_f c1, c2])]
    rfl
  refine ⟨.v (strsD zs), .v bd, .v (winD pl), .v (.lst [.int cz, .int bz]), .v (.lst [b', f', p', o', winD pl']), .v (.str rp), .v (.lst [.int cz, .int bz]), .v (.lst [.int cz, .int bz]), S5, ?_, g5⟩
  unfold rtBody
  rw [seq_nx a1, seq_nx a2, seq_nx a3, seq_nx a4, seq_nx a5, seq_nx a6, seq_nx a7, seq_nx a8, seq_nx a9, a10]
theorem rt_loop {C : Addr} {w : Wins} {g : Games} {was : Str} {fs : List Str} {ps : List Int} {n : Nat} (f : Sea w g) (hg : g.length ≤ 120) (hf : IsOut g fs) (hps : ps.length = g.length) (p0 : ∀ p ∈ ps, 0 ≤ p ∧ p ≤ 1000) : ∀ (items : List D) (s6 s7 s8 s9 s10 s11 s13 s14 s15 : Sl) (S : Sm), Good (n + 1000 * items.length) S →
    ∃ (E' : Ev) (S' : Sm), forL (tgN 6) (rtBody C) items (RV C w g was fs ps s6 s7 s8 s9 s10 s11 s13 s14 s15) S = some (.nx, E', S') ∧ (∃ s6' s7' s8' s9' s10' s11' s13' s14' s15', E' = RV C w g was fs ps s6' s7' s8' s9' s10' s11' s13' s14' s15') ∧ Good n S'
  | [], s6, s7, s8, s9, s10, s11, s13, s14, s15, S, gd => ⟨_, S, rfl, ⟨_, _, _, _, _, _, _, _, _, rfl⟩, gd⟩
  | d :: r, s6, s7, s8, s9, s10, s11, s13, s14, s15, S, gd => by
    rw [List.length_cons] at gd
    obtain ⟨a7, a8, a9, a10, a11, a13, a14, a15, S1, e1, g1⟩ := rt_turn (C := C) (was := was) (s6 := .v d) (s7 := s7) (s8 := s8) (s9 := s9) (s10 := s10) (s11 := s11) (s13 := s13) (s14 := s14) (s15 := s15) (n := n + 1000 * r.length) (S := S) f hg hf hps p0 (gd.mono (by omega))
    obtain ⟨E', S', e2, h2, g2⟩ := rt_loop (C := C) (was := was) (n := n) f hg hf hps p0 r (.v d) a7 a8 a9 a10 a11 a13 a14 a15 S1 g1
    exact ⟨E', S', by rw [forL_nx (show tgN 6 d (RV C w g was fs ps s6 s7 s8 s9 s10 s11 s13 s14 s15) = some (RV C w g was fs ps (.v d) s7 s8 s9 s10 s11 s13 s14 s15) from rfl) e1, e2], h2, g2⟩
theorem q_right {C : Addr} {w : Wins} {g : Games} {n : Nat} {S : Sm} (f : Sea w g) (hg : g.length ≤ 120) (gd : Good (n + 10000) S) : ∃ S', m_law_right C [.strm, seaT w g] S = some (.bl true, S') ∧ Good n S' := by
  obtain ⟨S1, e1, g1⟩ := q_made (C := C) (n := n + 9000) f gd
  obtain ⟨was, e2⟩ := q_reprA f
  obtain ⟨fs, S2, e3, hf, g2⟩ := q_drawn (n := n + 8000) (w := w) (g := g) (S := S1) (by omega) (g1.mono (by omega))
  obtain ⟨ps, S3, e4, hps, p0, g3⟩ := q_prices (n := n + 7000) (w := w) (g := g) (S := S2) (by omega) (g2.mono (by omega))
  obtain ⟨E', S4, e5, ⟨s6, s7, s8, s9, s10, s11, s13, s14, s15, rfl⟩, g4⟩ := rt_loop (C := C) (was := was) (n := n) f hg hf hps p0 (rngD 0 5) .no .no .no .no .no .no .no .no .no S3 (g3.mono (by unfold rngD; simp))
  refine ⟨S4, run_rt (E' := RV C w g was fs ps s6 s7 s8 s9 s10 s11 s13 s14 s15) ?_, g4⟩
  show (seqS (parvvS 2 3 (mE (m_law_made C) 2 (consA (vE 0) (consA (vE 1) nilA))) (callE reprA (consA (vE 1) nilA))) (seqS (parvvS 4 5 (mE m_law_drawn_outcome 2 (consA (vE 0) (consA (vE 1) nilA))) (mE m_law_prices 2 (consA (vE 0) (consA (vE 1) nilA)))) (seqS (forS (rng1F (consA (cE (.int 5)) nilA)) (tgN 6) (rtBody C)) (retS (andE (opE eqA (callE reprA (consA (vE 1) nilA)) (vE 3)) (mE (m_law_shows C) 2 (consA (vE 2) (consA (vE 1) nilA)))))))) [.v .strm, .v (seaT w g), .no, .no, .no, .no, .no, .no, .no, .no, .no, .no, .no, .no, .no, .no] S = _
  have a1 : parvvS 2 3 (mE (m_law_made C) 2 (consA (vE 0) (consA (vE 1) nilA))) (callE reprA (consA (vE 1) nilA)) [.v .strm, .v (seaT w g), .no, .no, .no, .no, .no, .no, .no, .no, .no, .no, .no, .no, .no, .no] S = some (.nx, [.v .strm, .v (seaT w g), .v (seasD C w g), .v (.str was), .no, .no, .no, .no, .no, .no, .no, .no, .no, .no, .no, .no], S1) :=
    parvv_at (m_at2 (v_at rfl) (v_at rfl) e1) (call_at1 (v_at rfl) e2) (by show 2 < 16; decide) (by show 3 < 16; decide)
  have a2 : parvvS 4 5 (mE m_law_drawn_outcome 2 (consA (vE 0) (consA (vE 1) nilA))) (mE m_law_prices 2 (consA (vE 0) (consA (vE 1) nilA))) [.v .strm, .v (seaT w g), .v (seasD C w g), .v (.str was), .no, .no, .no, .no, .no, .no, .no, .no, .no, .no, .no, .no] S1 = some (.nx, RV C w g was fs ps .no .no .no .no .no .no .no .no .no, S3) :=
    parvv_at (m_at2 (v_at rfl) (v_at rfl) e3) (m_at2 (v_at rfl) (v_at rfl) e4) (by show 4 < 16; decide) (by show 5 < 16; decide)
  have a3 : forS (rng1F (consA (cE (.int 5)) nilA)) (tgN 6) (rtBody C) (RV C w g was fs ps .no .no .no .no .no .no .no .no .no) S3 = some (.nx, RV C w g was fs ps s6 s7 s8 s9 s10 s11 s13 s14 s15, S4) := by
    rw [x_for, rng_len (n := 5) (by decide) (by decide) rfl]
    exact e5
  rw [seq_nx a1, seq_nx a2, seq_nx a3]
  refine ret_at ?_
  rw [and_t (op_at (call_at1 (v_at rfl) e2) (v_at rfl) (by rw [eq_str]; simp))]
  exact m_at2 (v_at rfl) (v_at rfl) (q_law_shows f.wf)
end M

set_option Elab.async false
set_option linter.all false
set_option maxRecDepth 100000
set_option maxHeartbeats 4000000
namespace M
open PySem L2

/-! ### the law's second part: no outcome that keeps bounds costs less than a bill -/
theorem plain_all : ∀ {ds : List D}, (∀ d ∈ ds, (toP d).plain = true) → PyData.plainAll (toPs ds) = true
  | [], _ => rfl
  | d :: ds, h => by
    rw [toPs, PyData.plainAll, h d List.mem_cons_self, plain_all fun x hx => h x (List.mem_cons_of_mem _ hx)]
    rfl
theorem plain_cs {fs : List Str} {ps : List Int} {zs : List Str} : (toP (csD fs ps zs)).plain = true := by
  have h1 : PyData.plainAll (toPs (zs.map D.str)) = true := plain_all fun d hd => by
    obtain ⟨x, _, rfl⟩ := List.mem_map.mp hd
    simp [toP, PyData.plain]
  unfold csD strsD
  simp [toP, toPs, PyData.plain, PyData.plainAll, h1]
theorem ok_cs {fs : List Str} {ps : List Int} {zs : List Str} : okP (csD fs ps zs) = true := by
  unfold csD strsD
  simp [okP, okPs, okPs_strs]
theorem ne_nil {fs : List Str} {ps : List Int} {l : List (List Str)} : notO eqP (.lst (l.map (csD fs ps))) (.lst []) = some (.bl (!l.isEmpty)) := by
  have hok : okQ (.lst (l.map (csD fs ps))) (.lst []) := by
    refine ⟨?_, rfl, ?_, rfl, by decide⟩
    · rw [okP]
      exact okPs_of fun d hd => by
        obtain ⟨x, _, rfl⟩ := List.mem_map.mp hd
        exact ok_cs
    · rw [toP, PyData.plain]
      exact plain_all fun d hd => by
        obtain ⟨x, _, rfl⟩ := List.mem_map.mp hd
        exact plain_cs
  unfold notO eqP
  rw [if_pos hok]
  cases l with
  | nil => rfl
  | cons x l =>
    rw [List.map_cons, toP, toPs, toP, toPs]
    rfl
noncomputable def blA (C : Addr) : FS := setS 8 (mE (m_bill C) 5 (consA (vE 2) (consA (mE (m_law_copied 4) 1 (consA (vE 3) nilA)) (consA (callE listA (consA (vE 4) nilA)) (consA (callE listA (consA (vE 5) nilA)) (consA (mE m_law_drawn_pulls 2 (consA (vE 0) (consA (vE 1) nilA))) nilA))))))
noncomputable def blB : FS := ifS (andT (bT (opE (notO eqP) (vE 6) (lstE nilA))) (orT (notT (bT (isE ["int"] (vE 8)))) (bT (opE gtI (vE 8) (subE (subE (vE 6) (cE (.int 0))) (cE (.int 0))))))) (retS (cE (.bl false))) nextS
abbrev BV (C : Addr) (w : Wins) (g : Games) (bd : D) (fs : List Str) (ps : List Int) (l : List (List Str)) (s7 s8 : Sl) : Ev := [.v .strm, .v (seaT w g), .v (seasD C w g), .v bd, .v (strsD fs), .v (intsI ps), .v (.lst (l.map (csD fs ps))), s7, s8]
theorem bl_turn {C : Addr} {w : Wins} {g : Games} {bd : D} {lo hi : Str → Int} {fs : List Str} {ps : List Int} {l : List (List Str)} {s7 s8 : Sl} {n : Nat} {S : Sm} (f : Sea w g) (hg : g.length ≤ 120) (hf : IsOut g fs) (hps : ps.length = g.length) (p0 : ∀ p ∈ ps, 0 ≤ p ∧ p ≤ 1000) (hb : DicOf (PrT lo hi) (w.map (·.1)) bd) (h0 : ∀ t ∈ w.map (·.1), 0 ≤ lo t ∧ lo t ≤ hi t ∧ hi t ≤ 9400) (hl : ∀ zs ∈ l, IsOut g zs ∧ keepB lo hi (tabOf w zs) = true) (gd : Good (n + 21) S) :
    ∃ (s8' : Sl) (S' : Sm), seqS (blA C) blB (BV C w g bd fs ps l s7 s8) S = some (.nx, BV C w g bd fs ps l s7 s8', S') ∧ Good n S' := by
  have hlw := f.wf.lw
  have hfl : fs.length = g.length := hf.len
  obtain ⟨bd', e1, hb'⟩ := q_copied_bounds (S := S) hb f.wf.nd (by rw [List.length_map]; exact hlw)
  obtain ⟨pl, S1, e2, hk, hv, g1⟩ := q_pulls (n := n) (w := w) (g := g) f.wf.nd hlw gd
  have hnd : NdW pl := by unfold NdW; rw [hk]; exact f.wf.nd
  have hpl : pl.length = w.length := by
    have := congrArg List.length hk
    simpa using this
  have e3 := q_bill (C := C) (S := S1) (fd := strsD fs) (pd := intsI ps) f.wf (.inl rfl) (.inl rfl) hf hps (fun p hp => (p0 p hp).1) hnd (fun t => by rw [hk]) hpl hb' (fun t ht => ⟨(h0 t ht).1, (h0 t ht).2.1⟩) (fun p hp => by
    have := hv p hp
    omega)
  have le : ∀ zs ∈ l, billZ w g lo hi fs ps pl ≤ costZ fs ps zs := fun zs hz => bill_le f.wf hf (hl zs hz).1 hps (fun p hp => (p0 p hp).1) hnd (fun t => by rw [hk]) (keeps_of f.wf.nd (hl zs hz).2)
  generalize billZ w g lo hi fs ps pl = bz at e3 le
  have a1 : blA C (BV C w g bd fs ps l s7 s8) S = some (.nx, BV C w g bd fs ps l s7 (.v (.int bz)), S1) :=
    set_at (i := 8) (m_at5 (v_at rfl) (m_at1 (v_at rfl) e1) (call_at1 (v_at rfl) rfl) (call_at1 (v_at rfl) rfl) (m_at2 (v_at rfl) (v_at rfl) e2) e3) (by show 8 < 9; decide)
  refine ⟨.v (.int bz), S1, ?_, g1⟩
  rw [seq_nx a1]
  have c1 : bT (opE (notO eqP) (vE 6) (lstE nilA)) (BV C w g bd fs ps l s7 (.v (.int bz))) S1 = some (!l.isEmpty, S1) := bT_at (op_at (v_at rfl) rfl ne_nil)
  have c2 : notT (bT (isE ["int"] (vE 8))) (BV C w g bd fs ps l s7 (.v (.int bz))) S1 = some (false, S1) := notT_at (b := true) (bT_at (is_at (v_at rfl) rfl))
  unfold blB
  cases l with
  | nil =>
    rw [ifS_f (by rw [andT_f c1])]
    rfl
  | cons zs l =>
    have h := le zs List.mem_cons_self
    have c3 : bT (opE gtI (vE 8) (subE (subE (vE 6) (cE (.int 0))) (cE (.int 0)))) (BV C w g bd fs ps (zs :: l) s7 (.v (.int bz))) S1 = some (false, S1) :=
      bT_at (op_at (v_at rfl) (sub_at (sub_at (v_at rfl) rfl (b := .int 0) (d := csD fs ps zs) (sq_sub (ds := csD fs ps zs :: l.map (csD fs ps)) (.inl rfl) 0)) rfl (b := .int 0) (d := .int (costZ fs ps zs)) rfl) (by rw [gt_int, decide_eq_false (by omega)]))
    rw [ifS_f (by rw [andT_t c1, orT_f c2, c3])]
    rfl
theorem bl_loop {C : Addr} {w : Wins} {g : Games} {bd : D} {lo hi : Str → Int} {fs : List Str} {ps : List Int} {l : List (List Str)} {n : Nat} (f : Sea w g) (hg : g.length ≤ 120) (hf : IsOut g fs) (hps : ps.length = g.length) (p0 : ∀ p ∈ ps, 0 ≤ p ∧ p ≤ 1000) (hb : DicOf (PrT lo hi) (w.map (·.1)) bd) (h0 : ∀ t ∈ w.map (·.1), 0 ≤ lo t ∧ lo t ≤ hi t ∧ hi t ≤ 9400) (hl : ∀ zs ∈ l, IsOut g zs ∧ keepB lo hi (tabOf w zs) = true) : ∀ (items : List D) (s7 s8 : Sl) (S : Sm), Good (n + 21 * items.length) S →
    ∃ (s7' s8' : Sl) (S' : Sm), forL (tgN 7) (seqS (blA C) blB) items (BV C w g bd fs ps l s7 s8) S = some (.nx, BV C w g bd fs ps l s7' s8', S') ∧ Good n S'
  | [], s7, s8, S, gd => ⟨s7, s8, S, rfl, gd⟩
  | d :: r, s7, s8, S, gd => by
    rw [List.length_cons] at gd
    obtain ⟨a8, S1, e1, g1⟩ := bl_turn (C := C) (s7 := .v d) (s8 := s8) (n := n + 21 * r.length) (S := S) f hg hf hps p0 hb h0 hl (gd.mono (by omega))
    obtain ⟨s7', s8', S', e2, g2⟩ := bl_loop (C := C) (n := n) f hg hf hps p0 hb h0 hl r (.v d) a8 S1 g1
    exact ⟨s7', s8', S', by rw [forL_nx (show tgN 7 d (BV C w g bd fs ps l s7 s8) = some (BV C w g bd fs ps l (.v d) s8) from rfl) e1, e2], g2⟩
theorem q_below {C : Addr} {w : Wins} {g : Games} {n : Nat} {S : Sm} (f : Sea w g) (hg : g.length ≤ 8) (gd : Good (n + 10000) S) : ∃ S', m_law_below_right C [.strm, seaT w g] S = some (.bl true, S') ∧ Good n S' := by
  obtain ⟨S1, e1, g1⟩ := q_made (C := C) (n := n + 9000) f gd
  obtain ⟨bd, lo, hi, S2, e2, hb, h0, g2⟩ := q_bounds (n := n + 8000) (g := g) f (by omega) (g1.mono (by omega))
  obtain ⟨fs, S3, e3, hf, g3⟩ := q_drawn (n := n + 7000) (w := w) (g := g) (S := S2) (by omega) (g2.mono (by omega))
  obtain ⟨ps, S4, e4, hps, p0, g4⟩ := q_prices (n := n + 6000) (w := w) (g := g) (S := S3) (by omega) (g3.mono (by omega))
  have hfl : fs.length = g.length := hf.len
  obtain ⟨l, e5, hl⟩ := q_costs (fs := fs) (ps := ps) (S := S4) f.wf hg (BdIs.bds (hb.imp prT_z)) (by omega)
  obtain ⟨s7, s8, S5, e6, g5⟩ := bl_loop (C := C) (l := l) (n := n) f (by omega) hf hps p0 hb h0 hl (rngD 0 6) .no .no S4 (g4.mono (by unfold rngD; simp))
  refine ⟨S5, run_rt (E' := BV C w g bd fs ps l s7 s8) ?_, g5⟩
  show (seqS (parvvS 2 3 (mE (m_law_made C) 2 (consA (vE 0) (consA (vE 1) nilA))) (mE m_law_bounds 2 (consA (vE 0) (consA (vE 1) nilA)))) (seqS (parvvS 4 5 (mE m_law_drawn_outcome 2 (consA (vE 0) (consA (vE 1) nilA))) (mE m_law_prices 2 (consA (vE 0) (consA (vE 1) nilA)))) (seqS (setS 6 (mE m_law_costs 4 (consA (vE 1) (consA (vE 3) (consA (vE 4) (consA (vE 5) nilA)))))) (seqS (forS (rng1F (consA (cE (.int 6)) nilA)) (tgN 7) (seqS (blA C) blB)) (retS (cE (.bl true))))))) [.v .strm, .v (seaT w g), .no, .no, .no, .no, .no, .no, .no] S = _
  have a1 : parvvS 2 3 (mE (m_law_made C) 2 (consA (vE 0) (consA (vE 1) nilA))) (mE m_law_bounds 2 (consA (vE 0) (consA (vE 1) nilA))) [.v .strm, .v (seaT w g), .no, .no, .no, .no, .no, .no, .no] S = some (.nx, [.v .strm, .v (seaT w g), .v (seasD C w g), .v bd, .no, .no, .no, .no, .no], S2) :=
    parvv_at (m_at2 (v_at rfl) (v_at rfl) e1) (m_at2 (v_at rfl) (v_at rfl) e2) (by show 2 < 9; decide) (by show 3 < 9; decide)
  have a2 : parvvS 4 5 (mE m_law_drawn_outcome 2 (consA (vE 0) (consA (vE 1) nilA))) (mE m_law_prices 2 (consA (vE 0) (consA (vE 1) nilA))) [.v .strm, .v (seaT w g), .v (seasD C w g), .v bd, .no, .no, .no, .no, .no] S2 = some (.nx, [.v .strm, .v (seaT w g), .v (seasD C w g), .v bd, .v (strsD fs), .v (intsI ps), .no, .no, .no], S4) :=
    parvv_at (m_at2 (v_at rfl) (v_at rfl) e3) (m_at2 (v_at rfl) (v_at rfl) e4) (by show 4 < 9; decide) (by show 5 < 9; decide)
  have a3 : setS 6 (mE m_law_costs 4 (consA (vE 1) (consA (vE 3) (consA (vE 4) (consA (vE 5) nilA))))) [.v .strm, .v (seaT w g), .v (seasD C w g), .v bd, .v (strsD fs), .v (intsI ps), .no, .no, .no] S4 = some (.nx, BV C w g bd fs ps l .no .no, S4) :=
    set_at (i := 6) (m_at4 (v_at rfl) (v_at rfl) (v_at rfl) (v_at rfl) e5) (by show 6 < 9; decide)
  have a4 : forS (rng1F (consA (cE (.int 6)) nilA)) (tgN 7) (seqS (blA C) blB) (BV C w g bd fs ps l .no .no) S4 = some (.nx, BV C w g bd fs ps l s7 s8, S5) := by
    rw [x_for, rng_len (n := 6) (by decide) (by decide) rfl]
    exact e6
  rw [seq_nx a1, seq_nx a2, seq_nx a3, seq_nx a4]
  rfl
end M

set_option Elab.async false
set_option linter.all false
set_option maxRecDepth 100000
set_option maxHeartbeats 4000000
namespace M
open PySem L2 PySem.Spec PyProof.Rows

/-! ### the start of a turn's stream -/
theorem szT_bits (i : Int) : sz i = Builtin.Int.intBits i := by
  unfold sz Builtin.Int.intBits
  by_cases h : i = 0
  · simp [h]
  · simp [h]
theorem good_startT {ns : List Int} (h1 : ns.length ≤ 63) (h2 : ∀ z ∈ ns, Builtin.Int.intBits z ≤ 1048576) {k n : Nat} (hk : k < n) (hn : n ≤ 10 := by decide) : Good (2 ^ 80) ⟨ns ++ [(k : Int)], 0, 0, 19⟩ := by
  refine ⟨(by decide : (0 : Int) ≤ 0), (by decide : (0 : Int) ≤ 19), (by decide : (19 : Int) < 2147483629), (by decide : (0 : Int) ≤ 0), (by decide +kernel : (0 : Int) + ((2 ^ 80 : Nat) : Int) ≤ 2 ^ 900), ?_⟩
  have key : ∀ l : List Int, (∀ z ∈ l, Builtin.Int.intBits z ≤ 1048576) → (l.map sz).sum ≤ l.length * 1048576 := by
    intro l
    induction l with
    | nil => intro _; exact Nat.zero_le _
    | cons z l ih =>
      intro h
      have a := ih fun y hy => h y (List.mem_cons_of_mem _ hy)
      have b := h z List.mem_cons_self
      rw [List.map_cons, List.sum_cons, List.length_cons, Nat.succ_mul, szT_bits]
      omega
  have small : ∀ j : Fin 10, Builtin.Int.intBits ((j.val : Nat) : Int) ≤ 1048576 := by decide +kernel
  have k2 := key (ns ++ [(k : Int)]) fun z hz => by
    rcases List.mem_append.mp hz with hz | hz
    · exact h2 z hz
    · rw [List.mem_singleton] at hz
      subst hz
      exact small ⟨k, by omega⟩
  have e : sz 0 = 0 := rfl
  show sz 0 + ((ns ++ [(k : Int)]).map sz).sum ≤ 2 ^ 27
  have hl : (ns ++ [(k : Int)]).length ≤ 64 := by rw [List.length_append, List.length_singleton]; omega
  have : (ns ++ [(k : Int)]).length * 1048576 ≤ 64 * 1048576 := Nat.mul_le_mul_right _ hl
  omega
end M

set_option Elab.async false
set_option linter.all false
set_option maxRecDepth 100000
set_option maxHeartbeats 4000000
namespace M
open PySem L2

/-! ### each turn of the law -/
theorem law_turns {C : Addr} {S : Sm} (gd : Good (2 ^ 80) S) (a : Addr) (k : Nat) : ∃ (E' : Ev) (S' : Sm), g_turn C (lawEv a 0 k) S = some (.nx, E', S') ∧ E'[0]? = some (.v (.far a)) ∧ E'.length = 0 + 3 := by
  obtain ⟨w1, g1, S1, e1, f1, _, hg1, _, d1⟩ := q_season (n := 2 ^ 72) (teams := 7) (games := 12) (S := S) (by decide) (by decide) (by decide) (gd.mono (by decide))
  obtain ⟨S2, e2, d2⟩ := q_right (C := C) (n := 2 ^ 71 + 2 ^ 20) (S := S1) f1 (by omega) (d1.mono (by decide))
  obtain ⟨w3, g3, S3, e3, f3, _, hg3, _, d3⟩ := q_season (n := 2 ^ 20) (teams := 4) (games := 6) (S := S2) (by decide) (by decide) (by decide) (d2.mono (by decide))
  obtain ⟨S4, e4, d4⟩ := q_below (C := C) (n := 0) (S := S3) f3 (by omega) (d3.mono (by decide))
  have e1 : m_law_season [.strm, .int 7, .int 12] S = some (seaT w1 g1, S1) := e1
  have e3 : m_law_season [.strm, .int 4, .int 6] S2 = some (seaT w3 g3, S3) := e3
  refine ⟨[.v (.far a), .v (.int (k : Int)), .v .strm], S4, ?_, rfl, rfl⟩
  show g_turn C [.v (.far a), .v (.int (k : Int)), .v .strm] S = _
  unfold g_turn
  have c1 : notT (bT (mE (m_law_right C) 2 (consA (vE 2) (consA (mE m_law_season 3 (consA (vE 2) (consA (cE (.int 7)) (consA (cE (.int 12)) nilA)))) nilA)))) [.v (.far a), .v (.int (k : Int)), .v .strm] S = some (false, S2) :=
    notT_at (b := true) (bT_at (m_at2 (v_at rfl) (m_at3 (v_at rfl) rfl rfl e1) e2))
  have c2 : notT (bT (mE (m_law_below_right C) 2 (consA (vE 2) (consA (mE m_law_season 3 (consA (vE 2) (consA (cE (.int 4)) (consA (cE (.int 6)) nilA)))) nilA)))) [.v (.far a), .v (.int (k : Int)), .v .strm] S2 = some (false, S4) :=
    notT_at (b := true) (bT_at (m_at2 (v_at rfl) (m_at3 (v_at rfl) rfl rfl e3) e4))
  rw [x_seq, ifS_f c1]
  show ifS _ _ _ [.v (.far a), .v (.int (k : Int)), .v .strm] S2 = _
  rw [ifS_f c2]
  rfl
end M

set_option Elab.async false
set_option linter.all false
set_option maxRecDepth 100000
set_option maxHeartbeats 4000000
namespace M
open PySem L2 PySem.Spec PyProof.Rows
def dd_is_list : He.DefD := ⟨("is_list", none), "is_list", "is_list", defArgs s_is_list, defBody s_is_list, defScope s_is_list, [], []⟩
def dd_is_whole : He.DefD := ⟨("is_whole", none), "is_whole", "is_whole", defArgs s_is_whole, defBody s_is_whole, defScope s_is_whole, [], []⟩
def dd_is_number : He.DefD := ⟨("is_number", none), "is_number", "is_number", defArgs s_is_number, defBody s_is_number, defScope s_is_number, [], []⟩
def dd_is_row : He.DefD := ⟨("is_row", none), "is_row", "is_row", defArgs s_is_row, defBody s_is_row, defScope s_is_row, [], []⟩
def dd_is_name : He.DefD := ⟨("is_name", none), "is_name", "is_name", defArgs s_is_name, defBody s_is_name, defScope s_is_name, [], []⟩
def dd_first_bad_row : He.DefD := ⟨("first_bad_row", none), "first_bad_row", "first_bad_row", defArgs s_first_bad_row, defBody s_first_bad_row, defScope s_first_bad_row, [], []⟩
def dd_Season_is_game : He.DefD := ⟨("Season", some "is_game"), "is_game", "Season.is_game", defArgs s_Season_is_game, defBody s_Season_is_game, defScope s_Season_is_game, [], []⟩
def dd_Season_wins : He.DefD := ⟨("Season", some "wins"), "wins", "Season.wins", defArgs s_Season_wins, defBody s_Season_wins, defScope s_Season_wins, [], []⟩
def dd_Season_games : He.DefD := ⟨("Season", some "games"), "games", "Season.games", defArgs s_Season_games, defBody s_Season_games, defScope s_Season_games, [], []⟩
def dd_check_season : He.DefD := ⟨("check_season", none), "check_season", "check_season", defArgs s_check_season, defBody s_check_season, defScope s_check_season, [], []⟩
def dd_fault_of_outcome : He.DefD := ⟨("fault_of_outcome", none), "fault_of_outcome", "fault_of_outcome", defArgs s_fault_of_outcome, defBody s_fault_of_outcome, defScope s_fault_of_outcome, [], []⟩
def dd_table_made : He.DefD := ⟨("table_made", none), "table_made", "table_made", defArgs s_table_made, defBody s_table_made, defScope s_table_made, [], []⟩
def dd_is_bounds_of : He.DefD := ⟨("is_bounds_of", none), "is_bounds_of", "is_bounds_of", defArgs s_is_bounds_of, defBody s_is_bounds_of, defScope s_is_bounds_of, [], []⟩
def dd_check_bounds : He.DefD := ⟨("check_bounds", none), "check_bounds", "check_bounds", defArgs s_check_bounds, defBody s_check_bounds, defScope s_check_bounds, [], []⟩
def dd_other_of : He.DefD := ⟨("other_of", none), "other_of", "other_of", defArgs s_other_of, defBody s_other_of, defScope s_other_of, [], []⟩
def dd_cost_of : He.DefD := ⟨("cost_of", none), "cost_of", "cost_of", defArgs s_cost_of, defBody s_cost_of, defScope s_cost_of, [], []⟩
def dd_check_forecast : He.DefD := ⟨("check_forecast", none), "check_forecast", "check_forecast", defArgs s_check_forecast, defBody s_check_forecast, defScope s_check_forecast, [], []⟩
def dd_check_task : He.DefD := ⟨("check_task", none), "check_task", "check_task", defArgs s_check_task, defBody s_check_task, defScope s_check_task, [], []⟩
def dd_cost : He.DefD := ⟨("cost", none), "cost", "cost", defArgs s_cost, defBody s_cost, defScope s_cost, [], []⟩
def dd_are_pulls : He.DefD := ⟨("are_pulls", none), "are_pulls", "are_pulls", defArgs s_are_pulls, defBody s_are_pulls, defScope s_are_pulls, [], []⟩
def dd_bill_of : He.DefD := ⟨("bill_of", none), "bill_of", "bill_of", defArgs s_bill_of, defBody s_bill_of, defScope s_bill_of, [], []⟩
def dd_bill : He.DefD := ⟨("bill", none), "bill", "bill", defArgs s_bill, defBody s_bill, defScope s_bill, [], []⟩
def dd_Season_init : He.DefD := ⟨("Season", some "__init__"), "__init__", "Season.__init__", defArgs s_Season_init, defBody s_Season_init, defScope s_Season_init, [], []⟩
def dd_law_draw : He.DefD := ⟨("_law_draw", none), "_law_draw", "_law_draw", defArgs s_law_draw, defBody s_law_draw, defScope s_law_draw, [], []⟩
def dd_law_pick : He.DefD := ⟨("_law_pick", none), "_law_pick", "_law_pick", defArgs s_law_pick, defBody s_law_pick, defScope s_law_pick, [], []⟩
def dd_law_mixed : He.DefD := ⟨("_law_mixed", none), "_law_mixed", "_law_mixed", defArgs s_law_mixed, defBody s_law_mixed, defScope s_law_mixed, [], []⟩
def dd_law_same : He.DefD := ⟨("_law_same", none), "_law_same", "_law_same", defArgs s_law_same, defBody s_law_same, defScope s_law_same, [], []⟩
def dd_law_loose : He.DefD := ⟨("_law_loose", none), "_law_loose", "_law_loose", defArgs s_law_loose, defBody s_law_loose, defScope s_law_loose, [], []⟩
def dd_law_copied : He.DefD := ⟨("_law_copied", none), "_law_copied", "_law_copied", defArgs s_law_copied, defBody s_law_copied, defScope s_law_copied, [], []⟩
def dd_law_names : He.DefD := ⟨("_law_names", none), "_law_names", "_law_names", defArgs s_law_names, defBody s_law_names, defScope s_law_names, [], []⟩
def dd_law_table : He.DefD := ⟨("_law_table", none), "_law_table", "_law_table", defArgs s_law_table, defBody s_law_table, defScope s_law_table, [], []⟩
def dd_law_outcomes : He.DefD := ⟨("_law_outcomes", none), "_law_outcomes", "_law_outcomes", defArgs s_law_outcomes, defBody s_law_outcomes, defScope s_law_outcomes, [], []⟩
def dd_law_season : He.DefD := ⟨("_law_season", none), "_law_season", "_law_season", defArgs s_law_season, defBody s_law_season, defScope s_law_season, [], []⟩
def dd_law_drawn_outcome : He.DefD := ⟨("_law_drawn_outcome", none), "_law_drawn_outcome", "_law_drawn_outcome", defArgs s_law_drawn_outcome, defBody s_law_drawn_outcome, defScope s_law_drawn_outcome, [], []⟩
def dd_law_made : He.DefD := ⟨("_law_made", none), "_law_made", "_law_made", defArgs s_law_made, defBody s_law_made, defScope s_law_made, [], []⟩
def dd_law_shows : He.DefD := ⟨("_law_shows", none), "_law_shows", "_law_shows", defArgs s_law_shows, defBody s_law_shows, defScope s_law_shows, [], []⟩
def dd_law_bounds : He.DefD := ⟨("_law_bounds", none), "_law_bounds", "_law_bounds", defArgs s_law_bounds, defBody s_law_bounds, defScope s_law_bounds, [], []⟩
def dd_law_prices : He.DefD := ⟨("_law_prices", none), "_law_prices", "_law_prices", defArgs s_law_prices, defBody s_law_prices, defScope s_law_prices, [], []⟩
def dd_law_cost : He.DefD := ⟨("_law_cost", none), "_law_cost", "_law_cost", defArgs s_law_cost, defBody s_law_cost, defScope s_law_cost, [], []⟩
def dd_law_other : He.DefD := ⟨("_law_other", none), "_law_other", "_law_other", defArgs s_law_other, defBody s_law_other, defScope s_law_other, [], []⟩
def dd_law_bill : He.DefD := ⟨("_law_bill", none), "_law_bill", "_law_bill", defArgs s_law_bill, defBody s_law_bill, defScope s_law_bill, [], []⟩
def dd_law_keeps : He.DefD := ⟨("_law_keeps", none), "_law_keeps", "_law_keeps", defArgs s_law_keeps, defBody s_law_keeps, defScope s_law_keeps, [], []⟩
def dd_law_costs : He.DefD := ⟨("_law_costs", none), "_law_costs", "_law_costs", defArgs s_law_costs, defBody s_law_costs, defScope s_law_costs, [], []⟩
def dd_law_drawn_pulls : He.DefD := ⟨("_law_drawn_pulls", none), "_law_drawn_pulls", "_law_drawn_pulls", defArgs s_law_drawn_pulls, defBody s_law_drawn_pulls, defScope s_law_drawn_pulls, [], []⟩
def dd_law_right : He.DefD := ⟨("_law_right", none), "_law_right", "_law_right", defArgs s_law_right, defBody s_law_right, defScope s_law_right, [], []⟩
def dd_law_below_right : He.DefD := ⟨("_law_below_right", none), "_law_below_right", "_law_below_right", defArgs s_law_below_right, defBody s_law_below_right, defScope s_law_below_right, [], []⟩
def dd_law_stream : He.DefD := ⟨("_law_stream", none), "_law_stream", "_law_stream", defArgs s_law_stream, defBody s_law_stream, defScope s_law_stream, [], []⟩
def dd_law : He.DefD := ⟨("law", none), "law", "law", defArgs s_law, defBody s_law, defScope s_law, [], []⟩
def fnL : List He.DefD := [dd_is_list, dd_is_whole, dd_is_number, dd_is_row, dd_is_name, dd_first_bad_row, dd_Season_is_game, dd_Season_wins, dd_Season_games, dd_check_season, dd_fault_of_outcome, dd_table_made, dd_is_bounds_of, dd_check_bounds, dd_other_of, dd_cost_of, dd_check_forecast, dd_check_task, dd_cost, dd_are_pulls, dd_bill_of, dd_bill, dd_Season_init, dd_law_draw, dd_law_pick, dd_law_mixed, dd_law_same, dd_law_loose, dd_law_copied, dd_law_names, dd_law_table, dd_law_outcomes, dd_law_season, dd_law_drawn_outcome, dd_law_made, dd_law_shows, dd_law_bounds, dd_law_prices, dd_law_cost, dd_law_other, dd_law_bill, dd_law_keeps, dd_law_costs, dd_law_drawn_pulls, dd_law_right, dd_law_below_right, dd_law_stream, dd_law]
def faL : List He.Fa := [.glo "is_list", .glo "is_whole", .glo "is_number", .glo "is_row", .glo "is_name", .glo "first_bad_row", .meth "Season" "is_game", .meth "Season" "wins", .meth "Season" "games", .glo "check_season", .glo "fault_of_outcome", .glo "table_made", .glo "is_bounds_of", .glo "check_bounds", .glo "other_of", .glo "cost_of", .glo "check_forecast", .glo "check_task", .glo "cost", .glo "are_pulls", .glo "bill_of", .glo "bill", .glo "_law_draw", .glo "_law_pick", .glo "_law_mixed", .glo "_law_same", .glo "_law_loose", .glo "_law_copied", .glo "_law_names", .glo "_law_table", .glo "_law_outcomes", .glo "_law_season", .glo "_law_drawn_outcome", .glo "_law_made", .glo "_law_shows", .glo "_law_bounds", .glo "_law_prices", .glo "_law_cost", .glo "_law_other", .glo "_law_bill", .glo "_law_keeps", .glo "_law_costs", .glo "_law_drawn_pulls", .glo "_law_right", .glo "_law_below_right", .glo "_law_stream", .glo "law", .glo "Season", .cls "Season", .mkr "Season", .free "abs", .free "all", .free "bool", .free "dict", .free "enumerate", .free "int", .free "isinstance", .free "len", .free "list", .free "max", .free "min", .free "range", .free "repr", .free "sorted", .free "str", .free "sum", .free "tuple", .free "zip", .str "LETTERS" "abcdefghijklmnopqrstuvwxyz", .noat "Season" "own_games", .noat "Season" "own_wins"]
def lookL (K : PySem.W.Frag) : Bool := He.eqO (PySem.W.findIn K (.ref (He.ga K "Season")) "__class__") (some (some (.builtin "object.__class__"))) && (He.eqO (PySem.W.specialIn K (.builtin "object.__class__") "__get__") (some (some (.builtin "getset_descriptor.__get__"))) && (decide (PySem.W.takesIn K (.builtin "object.__class__") = some true) && (decide (PySem.W.mroIn K (He.ga K "Season") (.type "object") = some true) && decide (PySem.W.kitOne K (.ref (He.ga K "Season")) (.ref (He.ga K "Season")) = some true))))
abbrev RL : PySem.W.OpenRow := PySem.W.OpenLaw.row PySem.Challenge.rw_stillfirst_k40_whole_costs_and_bills
abbrev hkL : PySem.W.Hook := hookO 4 faL fnL lookL
def obL (s : PySem.W.SharedT) : He.AlD × Bool := obsO 4 faL fnL lookL (HandSHeadRun.getT s)
theorem obL_eq (s : PySem.W.SharedT) : obL s = hkL.obs s.abs := obsO_eq (HandSHeadRun.getT_eq s)
def nmL0 : List Str := ["LETTERS", "is_list", "is_whole", "is_number", "is_row", "is_name", "SeasonError", "BadRows", "BadGames", "BadSeason", "BadTeam", "BadOutcome"]
def nmL1 : List Str := ["BadBounds", "first_bad_row", "Season", "is_team", "check_team", "check_season", "left_of", "fault_of_outcome", "table_made", "is_bounds_of", "check_bounds", "other_of"]
def nmL2 : List Str := ["BadForecast", "BadPrices", "BadPulls", "cost_of", "check_forecast", "check_task", "cost", "are_pulls", "bill_of", "bill", "_law_stream", "_law_draw"]
def nmL3 : List Str := ["_law_pick", "_law_mixed", "_law_same", "_law_loose", "_law_copied", "_law_names", "_law_table", "_law_outcomes", "_law_season", "_law_drawn_outcome", "_law_made", "_law_shows"]
def nmL4 : List Str := ["_law_bounds", "_law_prices", "_law_cost", "_law_other", "_law_bill", "_law_keeps", "_law_costs", "_law_drawn_pulls", "_law_right", "_law_below_right"]
def nmL : List Str := nmL0 ++ nmL1 ++ nmL2 ++ nmL3 ++ nmL4
set_option maxHeartbeats 0 in
theorem runL (w : World) : HandSHeadRun.RunEq RL (PySem.W.view RL.prog [66]) hkL obL 20000 nmL w := by
  intro os
  kernel_rfl
structure TopL (K : PySem.W.Frag) (h : Heap) (mg : Str → Option Value) : Prop where
  kin : K.In h
  ns : h.Ns mainGlobals mg
  c : SaysO faL fnL lookL K
section
variable {P : Program} {w : World} {K : PySem.W.Frag} {h : Heap} {mg : Str → Option Value}
theorem TopL.ow (X : TopL K h mg) : OwnC K (He.ga K "Season") := by
  have e : lookL K = true := X.c.ex
  unfold lookL at e
  simp only [Bool.and_eq_true, decide_eq_true_eq] at e
  obtain ⟨e1, e2, e3, e4, e5⟩ := e
  exact ⟨He.cls_ok (X.c.d.fact 48 (f := .cls "Season") rfl), He.eqO_ok e1, He.eqO_ok e2, e3, e4, e5⟩
theorem TopL.tx (X : TopL K h mg) : ∃ tL, Tx K mg (He.ga K "Season") tL := by
  obtain ⟨tL, e_c_LETTERS⟩ := He.str_ok X.kin X.ns (X.c.d.fact 68 (f := .str "LETTERS" "abcdefghijklmnopqrstuvwxyz") rfl)
  exact ⟨tL, { b_abs := He.free_ok X.kin X.ns (X.c.d.fact 50 (f := .free "abs") rfl), b_all := He.free_ok X.kin X.ns (X.c.d.fact 51 (f := .free "all") rfl), b_bool := He.free_ok X.kin X.ns (X.c.d.fact 52 (f := .free "bool") rfl), b_dict := He.free_ok X.kin X.ns (X.c.d.fact 53 (f := .free "dict") rfl), b_enumerate := He.free_ok X.kin X.ns (X.c.d.fact 54 (f := .free "enumerate") rfl), b_int := He.free_ok X.kin X.ns (X.c.d.fact 55 (f := .free "int") rfl), b_isinstance := He.free_ok X.kin X.ns (X.c.d.fact 56 (f := .free "isinstance") rfl), b_len := He.free_ok X.kin X.ns (X.c.d.fact 57 (f := .free "len") rfl), b_list := He.free_ok X.kin X.ns (X.c.d.fact 58 (f := .free "list") rfl), b_max := He.free_ok X.kin X.ns (X.c.d.fact 59 (f := .free "max") rfl), b_min := He.free_ok X.kin X.ns (X.c.d.fact 60 (f := .free "min") rfl), b_range := He.free_ok X.kin X.ns (X.c.d.fact 61 (f := .free "range") rfl), b_repr := He.free_ok X.kin X.ns (X.c.d.fact 62 (f := .free "repr") rfl), b_sorted := He.free_ok X.kin X.ns (X.c.d.fact 63 (f := .free "sorted") rfl), b_str := He.free_ok X.kin X.ns (X.c.d.fact 64 (f := .free "str") rfl), b_sum := He.free_ok X.kin X.ns (X.c.d.fact 65 (f := .free "sum") rfl), b_tuple := He.free_ok X.kin X.ns (X.c.d.fact 66 (f := .free "tuple") rfl), b_zip := He.free_ok X.kin X.ns (X.c.d.fact 67 (f := .free "zip") rfl), c_LETTERS := e_c_LETTERS, g_Season := He.glo_ok X.kin X.ns (X.c.d.fact 47 (f := .glo "Season") rfl), na_own_games := He.noat_ok (X.c.d.fact 69 (f := .noat "Season" "own_games") rfl), na_own_wins := He.noat_ok (X.c.d.fact 70 (f := .noat "Season" "own_wins") rfl), cl := He.cls_ok (X.c.d.fact 48 (f := .cls "Season") rfl), ow := X.ow }⟩
theorem cal_of {base : Heap} {k : Nat} {x qual : Str} {st : Stmt} {f : Addr} {fd : FuncData} {ps : List Str} {sp : Sp} (F : Fun K x qual st f fd) (hm : mg x = some (.ref f)) (ok : FnOk P w K mg base CX0 k f fd ps sp) (b : Binds K fd ps []) : Cal P w K mg base k x sp := ⟨f, fd, ps, ok, hm, F.kp, b⟩
theorem sz_bits (i : Int) : sz i = Builtin.Int.intBits i := by
  unfold sz Builtin.Int.intBits
  by_cases h : i = 0
  · simp [h]
  · simp [h]
theorem good_start {ns : List Int} (h1 : ns.length ≤ 63) (h2 : ∀ z ∈ ns, Builtin.Int.intBits z ≤ 1048576) : Good (2 ^ 80) ⟨ns, 0, 0, 19⟩ := by
  refine ⟨(by decide : (0 : Int) ≤ 0), (by decide : (0 : Int) ≤ 19), (by decide : (19 : Int) < 2147483629), (by decide : (0 : Int) ≤ 0), (by decide +kernel : (0 : Int) + ((2 ^ 80 : Nat) : Int) ≤ 2 ^ 900), ?_⟩
  have key : ∀ l : List Int, (∀ z ∈ l, Builtin.Int.intBits z ≤ 1048576) → (l.map sz).sum ≤ l.length * 1048576 := by
    intro l
    induction l with
    | nil => intro _; exact Nat.zero_le _
    | cons z l ih =>
      intro h
      have a := ih fun y hy => h y (List.mem_cons_of_mem _ hy)
      have b := h z List.mem_cons_self
      rw [List.map_cons, List.sum_cons, List.length_cons, Nat.succ_mul, sz_bits]
      omega
  have k := key ns h2
  have e : sz 0 = 0 := rfl
  show sz 0 + (ns.map sz).sum ≤ 2 ^ 27
  have : ns.length * 1048576 ≤ 63 * 1048576 := Nat.mul_le_mul_right _ h1
  omega
theorem bodyL (X : TopL K h mg) (hfa : mg "law" = some (.ref fa)) : ∃ fd : FuncData, Fun K "law" "law" s_law fa fd ∧ (∀ (s : Shared) (u : Value), BindsTo s fd ⟨[u], []⟩ [("script", u)]) ∧
    ∀ (s₁ : Shared) (a : Addr) (ns : List Int) (base : Heap) (cdv : Value) (H : Hp), ns.length ≤ 63 → (∀ z ∈ ns, Builtin.Int.intBits z ≤ 1048576) → L2.Mod K mg base → SqL K H a (ns.map V.int) → Room 9 (callerA.deeper (envOfC "law" (defScope s_law) s₁.heap.objs.size fa cdv)) →
      ∃ t, PSs (cxOf CX0 P w K mg base ["script", "turn", "stream"] "law" (defScope s_law) fa cdv callerA [] s₁ H fun _ _ _ => False).nox (defBody s_law) t ∧ t { nx := fun _ H2 => Q1 .non H2, rt := Q1 } (L2.start ["script", "turn", "stream"] [.ref a]) H := by
  obtain ⟨tL, T⟩ := X.tx
  obtain ⟨fd_is_list, F_is_list⟩ := X.c.d.def_ 0 (d := dd_is_list) rfl
  have F_is_list : Fun K "is_list" "is_list" s_is_list (He.fAd K ("is_list", none)) fd_is_list := fun_of F_is_list
  have g_is_list : mg "is_list" = some (.ref (He.fAd K ("is_list", none))) := He.glo_ok X.kin X.ns (X.c.d.fact 0 (f := .glo "is_list") rfl)
  have b_is_list : Binds K fd_is_list ["thing"] [] := F_is_list.binds fun _ _ _ _ _ _ us hl => match us, hl with | [_], _ => rfl
  obtain ⟨fd_is_whole, F_is_whole⟩ := X.c.d.def_ 1 (d := dd_is_whole) rfl
  have F_is_whole : Fun K "is_whole" "is_whole" s_is_whole (He.fAd K ("is_whole", none)) fd_is_whole := fun_of F_is_whole
  have g_is_whole : mg "is_whole" = some (.ref (He.fAd K ("is_whole", none))) := He.glo_ok X.kin X.ns (X.c.d.fact 1 (f := .glo "is_whole") rfl)
  have b_is_whole : Binds K fd_is_whole ["thing"] [] := F_is_whole.binds fun _ _ _ _ _ _ us hl => match us, hl with | [_], _ => rfl
  obtain ⟨fd_is_number, F_is_number⟩ := X.c.d.def_ 2 (d := dd_is_number) rfl
  have F_is_number : Fun K "is_number" "is_number" s_is_number (He.fAd K ("is_number", none)) fd_is_number := fun_of F_is_number
  have g_is_number : mg "is_number" = some (.ref (He.fAd K ("is_number", none))) := He.glo_ok X.kin X.ns (X.c.d.fact 2 (f := .glo "is_number") rfl)
  have b_is_number : Binds K fd_is_number ["thing"] [] := F_is_number.binds fun _ _ _ _ _ _ us hl => match us, hl with | [_], _ => rfl
  obtain ⟨fd_is_row, F_is_row⟩ := X.c.d.def_ 3 (d := dd_is_row) rfl
  have F_is_row : Fun K "is_row" "is_row" s_is_row (He.fAd K ("is_row", none)) fd_is_row := fun_of F_is_row
  have g_is_row : mg "is_row" = some (.ref (He.fAd K ("is_row", none))) := He.glo_ok X.kin X.ns (X.c.d.fact 3 (f := .glo "is_row") rfl)
  have b_is_row : Binds K fd_is_row ["thing", "many"] [] := F_is_row.binds fun _ _ _ _ _ _ us hl => match us, hl with | [_, _], _ => rfl
  obtain ⟨fd_is_name, F_is_name⟩ := X.c.d.def_ 4 (d := dd_is_name) rfl
  have F_is_name : Fun K "is_name" "is_name" s_is_name (He.fAd K ("is_name", none)) fd_is_name := fun_of F_is_name
  have g_is_name : mg "is_name" = some (.ref (He.fAd K ("is_name", none))) := He.glo_ok X.kin X.ns (X.c.d.fact 4 (f := .glo "is_name") rfl)
  have b_is_name : Binds K fd_is_name ["thing"] [] := F_is_name.binds fun _ _ _ _ _ _ us hl => match us, hl with | [_], _ => rfl
  obtain ⟨fd_first_bad_row, F_first_bad_row⟩ := X.c.d.def_ 5 (d := dd_first_bad_row) rfl
  have F_first_bad_row : Fun K "first_bad_row" "first_bad_row" s_first_bad_row (He.fAd K ("first_bad_row", none)) fd_first_bad_row := fun_of F_first_bad_row
  have g_first_bad_row : mg "first_bad_row" = some (.ref (He.fAd K ("first_bad_row", none))) := He.glo_ok X.kin X.ns (X.c.d.fact 5 (f := .glo "first_bad_row") rfl)
  have b_first_bad_row : Binds K fd_first_bad_row ["rows"] [] := F_first_bad_row.binds fun _ _ _ _ _ _ us hl => match us, hl with | [_], _ => rfl
  obtain ⟨fd_Season_is_game, F_Season_is_game⟩ := X.c.d.def_ 6 (d := dd_Season_is_game) rfl
  have F_Season_is_game : Fun K "is_game" "Season.is_game" s_Season_is_game (He.fAd K ("Season", some "is_game")) fd_Season_is_game := fun_of F_Season_is_game
  have b_Season_is_game : Binds K fd_Season_is_game ["self", "thing"] [] := F_Season_is_game.binds fun _ _ _ _ _ _ us hl => match us, hl with | [_, _], _ => rfl
  obtain ⟨fd_Season_wins, F_Season_wins⟩ := X.c.d.def_ 7 (d := dd_Season_wins) rfl
  have F_Season_wins : Fun K "wins" "Season.wins" s_Season_wins (He.fAd K ("Season", some "wins")) fd_Season_wins := fun_of F_Season_wins
  have b_Season_wins : Binds K fd_Season_wins ["self"] [] := F_Season_wins.binds fun _ _ _ _ _ _ us hl => match us, hl with | [_], _ => rfl
  obtain ⟨fd_Season_games, F_Season_games⟩ := X.c.d.def_ 8 (d := dd_Season_games) rfl
  have F_Season_games : Fun K "games" "Season.games" s_Season_games (He.fAd K ("Season", some "games")) fd_Season_games := fun_of F_Season_games
  have b_Season_games : Binds K fd_Season_games ["self"] [] := F_Season_games.binds fun _ _ _ _ _ _ us hl => match us, hl with | [_], _ => rfl
  obtain ⟨fd_check_season, F_check_season⟩ := X.c.d.def_ 9 (d := dd_check_season) rfl
  have F_check_season : Fun K "check_season" "check_season" s_check_season (He.fAd K ("check_season", none)) fd_check_season := fun_of F_check_season
  have g_check_season : mg "check_season" = some (.ref (He.fAd K ("check_season", none))) := He.glo_ok X.kin X.ns (X.c.d.fact 9 (f := .glo "check_season") rfl)
  have b_check_season : Binds K fd_check_season ["season"] [] := F_check_season.binds fun _ _ _ _ _ _ us hl => match us, hl with | [_], _ => rfl
  obtain ⟨fd_fault_of_outcome, F_fault_of_outcome⟩ := X.c.d.def_ 10 (d := dd_fault_of_outcome) rfl
  have F_fault_of_outcome : Fun K "fault_of_outcome" "fault_of_outcome" s_fault_of_outcome (He.fAd K ("fault_of_outcome", none)) fd_fault_of_outcome := fun_of F_fault_of_outcome
  have g_fault_of_outcome : mg "fault_of_outcome" = some (.ref (He.fAd K ("fault_of_outcome", none))) := He.glo_ok X.kin X.ns (X.c.d.fact 10 (f := .glo "fault_of_outcome") rfl)
  have b_fault_of_outcome : Binds K fd_fault_of_outcome ["season", "thing"] [] := F_fault_of_outcome.binds fun _ _ _ _ _ _ us hl => match us, hl with | [_, _], _ => rfl
  obtain ⟨fd_table_made, F_table_made⟩ := X.c.d.def_ 11 (d := dd_table_made) rfl
  have F_table_made : Fun K "table_made" "table_made" s_table_made (He.fAd K ("table_made", none)) fd_table_made := fun_of F_table_made
  have g_table_made : mg "table_made" = some (.ref (He.fAd K ("table_made", none))) := He.glo_ok X.kin X.ns (X.c.d.fact 11 (f := .glo "table_made") rfl)
  have b_table_made : Binds K fd_table_made ["season", "outcome"] [] := F_table_made.binds fun _ _ _ _ _ _ us hl => match us, hl with | [_, _], _ => rfl
  obtain ⟨fd_is_bounds_of, F_is_bounds_of⟩ := X.c.d.def_ 12 (d := dd_is_bounds_of) rfl
  have F_is_bounds_of : Fun K "is_bounds_of" "is_bounds_of" s_is_bounds_of (He.fAd K ("is_bounds_of", none)) fd_is_bounds_of := fun_of F_is_bounds_of
  have g_is_bounds_of : mg "is_bounds_of" = some (.ref (He.fAd K ("is_bounds_of", none))) := He.glo_ok X.kin X.ns (X.c.d.fact 12 (f := .glo "is_bounds_of") rfl)
  have b_is_bounds_of : Binds K fd_is_bounds_of ["season", "thing"] [] := F_is_bounds_of.binds fun _ _ _ _ _ _ us hl => match us, hl with | [_, _], _ => rfl
  obtain ⟨fd_check_bounds, F_check_bounds⟩ := X.c.d.def_ 13 (d := dd_check_bounds) rfl
  have F_check_bounds : Fun K "check_bounds" "check_bounds" s_check_bounds (He.fAd K ("check_bounds", none)) fd_check_bounds := fun_of F_check_bounds
  have g_check_bounds : mg "check_bounds" = some (.ref (He.fAd K ("check_bounds", none))) := He.glo_ok X.kin X.ns (X.c.d.fact 13 (f := .glo "check_bounds") rfl)
  have b_check_bounds : Binds K fd_check_bounds ["season", "bounds"] [] := F_check_bounds.binds fun _ _ _ _ _ _ us hl => match us, hl with | [_, _], _ => rfl
  obtain ⟨fd_other_of, F_other_of⟩ := X.c.d.def_ 14 (d := dd_other_of) rfl
  have F_other_of : Fun K "other_of" "other_of" s_other_of (He.fAd K ("other_of", none)) fd_other_of := fun_of F_other_of
  have g_other_of : mg "other_of" = some (.ref (He.fAd K ("other_of", none))) := He.glo_ok X.kin X.ns (X.c.d.fact 14 (f := .glo "other_of") rfl)
  have b_other_of : Binds K fd_other_of ["season", "index", "team"] [] := F_other_of.binds fun _ _ _ _ _ _ us hl => match us, hl with | [_, _, _], _ => rfl
  obtain ⟨fd_cost_of, F_cost_of⟩ := X.c.d.def_ 15 (d := dd_cost_of) rfl
  have F_cost_of : Fun K "cost_of" "cost_of" s_cost_of (He.fAd K ("cost_of", none)) fd_cost_of := fun_of F_cost_of
  have g_cost_of : mg "cost_of" = some (.ref (He.fAd K ("cost_of", none))) := He.glo_ok X.kin X.ns (X.c.d.fact 15 (f := .glo "cost_of") rfl)
  have b_cost_of : Binds K fd_cost_of ["outcome", "forecast", "prices"] [] := F_cost_of.binds fun _ _ _ _ _ _ us hl => match us, hl with | [_, _, _], _ => rfl
  obtain ⟨fd_check_forecast, F_check_forecast⟩ := X.c.d.def_ 16 (d := dd_check_forecast) rfl
  have F_check_forecast : Fun K "check_forecast" "check_forecast" s_check_forecast (He.fAd K ("check_forecast", none)) fd_check_forecast := fun_of F_check_forecast
  have g_check_forecast : mg "check_forecast" = some (.ref (He.fAd K ("check_forecast", none))) := He.glo_ok X.kin X.ns (X.c.d.fact 16 (f := .glo "check_forecast") rfl)
  have b_check_forecast : Binds K fd_check_forecast ["season", "forecast", "prices"] [] := F_check_forecast.binds fun _ _ _ _ _ _ us hl => match us, hl with | [_, _, _], _ => rfl
  obtain ⟨fd_check_task, F_check_task⟩ := X.c.d.def_ 17 (d := dd_check_task) rfl
  have F_check_task : Fun K "check_task" "check_task" s_check_task (He.fAd K ("check_task", none)) fd_check_task := fun_of F_check_task
  have g_check_task : mg "check_task" = some (.ref (He.fAd K ("check_task", none))) := He.glo_ok X.kin X.ns (X.c.d.fact 17 (f := .glo "check_task") rfl)
  have b_check_task : Binds K fd_check_task ["season", "bounds", "forecast", "prices"] [] := F_check_task.binds fun _ _ _ _ _ _ us hl => match us, hl with | [_, _, _, _], _ => rfl
  obtain ⟨fd_cost, F_cost⟩ := X.c.d.def_ 18 (d := dd_cost) rfl
  have F_cost : Fun K "cost" "cost" s_cost (He.fAd K ("cost", none)) fd_cost := fun_of F_cost
  have g_cost : mg "cost" = some (.ref (He.fAd K ("cost", none))) := He.glo_ok X.kin X.ns (X.c.d.fact 18 (f := .glo "cost") rfl)
  have b_cost : Binds K fd_cost ["season", "forecast", "prices", "outcome"] [] := F_cost.binds fun _ _ _ _ _ _ us hl => match us, hl with | [_, _, _, _], _ => rfl
  obtain ⟨fd_are_pulls, F_are_pulls⟩ := X.c.d.def_ 19 (d := dd_are_pulls) rfl
  have F_are_pulls : Fun K "are_pulls" "are_pulls" s_are_pulls (He.fAd K ("are_pulls", none)) fd_are_pulls := fun_of F_are_pulls
  have g_are_pulls : mg "are_pulls" = some (.ref (He.fAd K ("are_pulls", none))) := He.glo_ok X.kin X.ns (X.c.d.fact 19 (f := .glo "are_pulls") rfl)
  have b_are_pulls : Binds K fd_are_pulls ["season", "thing"] [] := F_are_pulls.binds fun _ _ _ _ _ _ us hl => match us, hl with | [_, _], _ => rfl
  obtain ⟨fd_bill_of, F_bill_of⟩ := X.c.d.def_ 20 (d := dd_bill_of) rfl
  have F_bill_of : Fun K "bill_of" "bill_of" s_bill_of (He.fAd K ("bill_of", none)) fd_bill_of := fun_of F_bill_of
  have g_bill_of : mg "bill_of" = some (.ref (He.fAd K ("bill_of", none))) := He.glo_ok X.kin X.ns (X.c.d.fact 20 (f := .glo "bill_of") rfl)
  have b_bill_of : Binds K fd_bill_of ["season", "bounds", "forecast", "prices", "pulls"] [] := F_bill_of.binds fun _ _ _ _ _ _ us hl => match us, hl with | [_, _, _, _, _], _ => rfl
  obtain ⟨fd_bill, F_bill⟩ := X.c.d.def_ 21 (d := dd_bill) rfl
  have F_bill : Fun K "bill" "bill" s_bill (He.fAd K ("bill", none)) fd_bill := fun_of F_bill
  have g_bill : mg "bill" = some (.ref (He.fAd K ("bill", none))) := He.glo_ok X.kin X.ns (X.c.d.fact 21 (f := .glo "bill") rfl)
  have b_bill : Binds K fd_bill ["season", "bounds", "forecast", "prices", "pulls"] [] := F_bill.binds fun _ _ _ _ _ _ us hl => match us, hl with | [_, _, _, _, _], _ => rfl
  obtain ⟨fd_Season_init, F_Season_init⟩ := X.c.d.def_ 22 (d := dd_Season_init) rfl
  have F_Season_init : Fun K "__init__" "Season.__init__" s_Season_init (He.fAd K ("Season", some "__init__")) fd_Season_init := fun_of F_Season_init
  have b_Season_init : Binds K fd_Season_init ["self", "rows", "games"] [] := F_Season_init.binds fun _ _ _ _ _ _ us hl => match us, hl with | [_, _, _], _ => rfl
  obtain ⟨fd_law_draw, F_law_draw⟩ := X.c.d.def_ 23 (d := dd_law_draw) rfl
  have F_law_draw : Fun K "_law_draw" "_law_draw" s_law_draw (He.fAd K ("_law_draw", none)) fd_law_draw := fun_of F_law_draw
  have g_law_draw : mg "_law_draw" = some (.ref (He.fAd K ("_law_draw", none))) := He.glo_ok X.kin X.ns (X.c.d.fact 22 (f := .glo "_law_draw") rfl)
  have b_law_draw : Binds K fd_law_draw ["stream", "many"] [] := F_law_draw.binds fun _ _ _ _ _ _ us hl => match us, hl with | [_, _], _ => rfl
  obtain ⟨fd_law_pick, F_law_pick⟩ := X.c.d.def_ 24 (d := dd_law_pick) rfl
  have F_law_pick : Fun K "_law_pick" "_law_pick" s_law_pick (He.fAd K ("_law_pick", none)) fd_law_pick := fun_of F_law_pick
  have g_law_pick : mg "_law_pick" = some (.ref (He.fAd K ("_law_pick", none))) := He.glo_ok X.kin X.ns (X.c.d.fact 23 (f := .glo "_law_pick") rfl)
  have b_law_pick : Binds K fd_law_pick ["stream", "things"] [] := F_law_pick.binds fun _ _ _ _ _ _ us hl => match us, hl with | [_, _], _ => rfl
  obtain ⟨fd_law_mixed, F_law_mixed⟩ := X.c.d.def_ 25 (d := dd_law_mixed) rfl
  have F_law_mixed : Fun K "_law_mixed" "_law_mixed" s_law_mixed (He.fAd K ("_law_mixed", none)) fd_law_mixed := fun_of F_law_mixed
  have g_law_mixed : mg "_law_mixed" = some (.ref (He.fAd K ("_law_mixed", none))) := He.glo_ok X.kin X.ns (X.c.d.fact 24 (f := .glo "_law_mixed") rfl)
  have b_law_mixed : Binds K fd_law_mixed ["stream", "things"] [] := F_law_mixed.binds fun _ _ _ _ _ _ us hl => match us, hl with | [_, _], _ => rfl
  obtain ⟨fd_law_same, F_law_same⟩ := X.c.d.def_ 26 (d := dd_law_same) rfl
  have F_law_same : Fun K "_law_same" "_law_same" s_law_same (He.fAd K ("_law_same", none)) fd_law_same := fun_of F_law_same
  have g_law_same : mg "_law_same" = some (.ref (He.fAd K ("_law_same", none))) := He.glo_ok X.kin X.ns (X.c.d.fact 25 (f := .glo "_law_same") rfl)
  have b_law_same : Binds K fd_law_same ["found", "due"] [] := F_law_same.binds fun _ _ _ _ _ _ us hl => match us, hl with | [_, _], _ => rfl
  obtain ⟨fd_law_loose, F_law_loose⟩ := X.c.d.def_ 27 (d := dd_law_loose) rfl
  have F_law_loose : Fun K "_law_loose" "_law_loose" s_law_loose (He.fAd K ("_law_loose", none)) fd_law_loose := fun_of F_law_loose
  have g_law_loose : mg "_law_loose" = some (.ref (He.fAd K ("_law_loose", none))) := He.glo_ok X.kin X.ns (X.c.d.fact 26 (f := .glo "_law_loose") rfl)
  have b_law_loose : Binds K fd_law_loose ["stream", "thing"] [] := F_law_loose.binds fun _ _ _ _ _ _ us hl => match us, hl with | [_, _], _ => rfl
  obtain ⟨fd_law_copied, F_law_copied⟩ := X.c.d.def_ 28 (d := dd_law_copied) rfl
  have F_law_copied : Fun K "_law_copied" "_law_copied" s_law_copied (He.fAd K ("_law_copied", none)) fd_law_copied := fun_of F_law_copied
  have g_law_copied : mg "_law_copied" = some (.ref (He.fAd K ("_law_copied", none))) := He.glo_ok X.kin X.ns (X.c.d.fact 27 (f := .glo "_law_copied") rfl)
  have b_law_copied : Binds K fd_law_copied ["thing"] [] := F_law_copied.binds fun _ _ _ _ _ _ us hl => match us, hl with | [_], _ => rfl
  obtain ⟨fd_law_names, F_law_names⟩ := X.c.d.def_ 29 (d := dd_law_names) rfl
  have F_law_names : Fun K "_law_names" "_law_names" s_law_names (He.fAd K ("_law_names", none)) fd_law_names := fun_of F_law_names
  have g_law_names : mg "_law_names" = some (.ref (He.fAd K ("_law_names", none))) := He.glo_ok X.kin X.ns (X.c.d.fact 28 (f := .glo "_law_names") rfl)
  have b_law_names : Binds K fd_law_names ["stream", "many"] [] := F_law_names.binds fun _ _ _ _ _ _ us hl => match us, hl with | [_, _], _ => rfl
  obtain ⟨fd_law_table, F_law_table⟩ := X.c.d.def_ 30 (d := dd_law_table) rfl
  have F_law_table : Fun K "_law_table" "_law_table" s_law_table (He.fAd K ("_law_table", none)) fd_law_table := fun_of F_law_table
  have g_law_table : mg "_law_table" = some (.ref (He.fAd K ("_law_table", none))) := He.glo_ok X.kin X.ns (X.c.d.fact 29 (f := .glo "_law_table") rfl)
  have b_law_table : Binds K fd_law_table ["season", "outcome"] [] := F_law_table.binds fun _ _ _ _ _ _ us hl => match us, hl with | [_, _], _ => rfl
  obtain ⟨fd_law_outcomes, F_law_outcomes⟩ := X.c.d.def_ 31 (d := dd_law_outcomes) rfl
  have F_law_outcomes : Fun K "_law_outcomes" "_law_outcomes" s_law_outcomes (He.fAd K ("_law_outcomes", none)) fd_law_outcomes := fun_of F_law_outcomes
  have g_law_outcomes : mg "_law_outcomes" = some (.ref (He.fAd K ("_law_outcomes", none))) := He.glo_ok X.kin X.ns (X.c.d.fact 30 (f := .glo "_law_outcomes") rfl)
  have b_law_outcomes : Binds K fd_law_outcomes ["season"] [] := F_law_outcomes.binds fun _ _ _ _ _ _ us hl => match us, hl with | [_], _ => rfl
  obtain ⟨fd_law_season, F_law_season⟩ := X.c.d.def_ 32 (d := dd_law_season) rfl
  have F_law_season : Fun K "_law_season" "_law_season" s_law_season (He.fAd K ("_law_season", none)) fd_law_season := fun_of F_law_season
  have g_law_season : mg "_law_season" = some (.ref (He.fAd K ("_law_season", none))) := He.glo_ok X.kin X.ns (X.c.d.fact 31 (f := .glo "_law_season") rfl)
  have b_law_season : Binds K fd_law_season ["stream", "teams", "games"] [] := F_law_season.binds fun _ _ _ _ _ _ us hl => match us, hl with | [_, _, _], _ => rfl
  obtain ⟨fd_law_drawn_outcome, F_law_drawn_outcome⟩ := X.c.d.def_ 33 (d := dd_law_drawn_outcome) rfl
  have F_law_drawn_outcome : Fun K "_law_drawn_outcome" "_law_drawn_outcome" s_law_drawn_outcome (He.fAd K ("_law_drawn_outcome", none)) fd_law_drawn_outcome := fun_of F_law_drawn_outcome
  have g_law_drawn_outcome : mg "_law_drawn_outcome" = some (.ref (He.fAd K ("_law_drawn_outcome", none))) := He.glo_ok X.kin X.ns (X.c.d.fact 32 (f := .glo "_law_drawn_outcome") rfl)
  have b_law_drawn_outcome : Binds K fd_law_drawn_outcome ["stream", "season"] [] := F_law_drawn_outcome.binds fun _ _ _ _ _ _ us hl => match us, hl with | [_, _], _ => rfl
  obtain ⟨fd_law_made, F_law_made⟩ := X.c.d.def_ 34 (d := dd_law_made) rfl
  have F_law_made : Fun K "_law_made" "_law_made" s_law_made (He.fAd K ("_law_made", none)) fd_law_made := fun_of F_law_made
  have g_law_made : mg "_law_made" = some (.ref (He.fAd K ("_law_made", none))) := He.glo_ok X.kin X.ns (X.c.d.fact 33 (f := .glo "_law_made") rfl)
  have b_law_made : Binds K fd_law_made ["stream", "season"] [] := F_law_made.binds fun _ _ _ _ _ _ us hl => match us, hl with | [_, _], _ => rfl
  obtain ⟨fd_law_shows, F_law_shows⟩ := X.c.d.def_ 35 (d := dd_law_shows) rfl
  have F_law_shows : Fun K "_law_shows" "_law_shows" s_law_shows (He.fAd K ("_law_shows", none)) fd_law_shows := fun_of F_law_shows
  have g_law_shows : mg "_law_shows" = some (.ref (He.fAd K ("_law_shows", none))) := He.glo_ok X.kin X.ns (X.c.d.fact 34 (f := .glo "_law_shows") rfl)
  have b_law_shows : Binds K fd_law_shows ["made", "season"] [] := F_law_shows.binds fun _ _ _ _ _ _ us hl => match us, hl with | [_, _], _ => rfl
  obtain ⟨fd_law_bounds, F_law_bounds⟩ := X.c.d.def_ 36 (d := dd_law_bounds) rfl
  have F_law_bounds : Fun K "_law_bounds" "_law_bounds" s_law_bounds (He.fAd K ("_law_bounds", none)) fd_law_bounds := fun_of F_law_bounds
  have g_law_bounds : mg "_law_bounds" = some (.ref (He.fAd K ("_law_bounds", none))) := He.glo_ok X.kin X.ns (X.c.d.fact 35 (f := .glo "_law_bounds") rfl)
  have b_law_bounds : Binds K fd_law_bounds ["stream", "season"] [] := F_law_bounds.binds fun _ _ _ _ _ _ us hl => match us, hl with | [_, _], _ => rfl
  obtain ⟨fd_law_prices, F_law_prices⟩ := X.c.d.def_ 37 (d := dd_law_prices) rfl
  have F_law_prices : Fun K "_law_prices" "_law_prices" s_law_prices (He.fAd K ("_law_prices", none)) fd_law_prices := fun_of F_law_prices
  have g_law_prices : mg "_law_prices" = some (.ref (He.fAd K ("_law_prices", none))) := He.glo_ok X.kin X.ns (X.c.d.fact 36 (f := .glo "_law_prices") rfl)
  have b_law_prices : Binds K fd_law_prices ["stream", "season"] [] := F_law_prices.binds fun _ _ _ _ _ _ us hl => match us, hl with | [_, _], _ => rfl
  obtain ⟨fd_law_cost, F_law_cost⟩ := X.c.d.def_ 38 (d := dd_law_cost) rfl
  have F_law_cost : Fun K "_law_cost" "_law_cost" s_law_cost (He.fAd K ("_law_cost", none)) fd_law_cost := fun_of F_law_cost
  have g_law_cost : mg "_law_cost" = some (.ref (He.fAd K ("_law_cost", none))) := He.glo_ok X.kin X.ns (X.c.d.fact 37 (f := .glo "_law_cost") rfl)
  have b_law_cost : Binds K fd_law_cost ["forecast", "prices", "outcome"] [] := F_law_cost.binds fun _ _ _ _ _ _ us hl => match us, hl with | [_, _, _], _ => rfl
  obtain ⟨fd_law_other, F_law_other⟩ := X.c.d.def_ 39 (d := dd_law_other) rfl
  have F_law_other : Fun K "_law_other" "_law_other" s_law_other (He.fAd K ("_law_other", none)) fd_law_other := fun_of F_law_other
  have g_law_other : mg "_law_other" = some (.ref (He.fAd K ("_law_other", none))) := He.glo_ok X.kin X.ns (X.c.d.fact 38 (f := .glo "_law_other") rfl)
  have b_law_other : Binds K fd_law_other ["season", "index", "team"] [] := F_law_other.binds fun _ _ _ _ _ _ us hl => match us, hl with | [_, _, _], _ => rfl
  obtain ⟨fd_law_bill, F_law_bill⟩ := X.c.d.def_ 40 (d := dd_law_bill) rfl
  have F_law_bill : Fun K "_law_bill" "_law_bill" s_law_bill (He.fAd K ("_law_bill", none)) fd_law_bill := fun_of F_law_bill
  have g_law_bill : mg "_law_bill" = some (.ref (He.fAd K ("_law_bill", none))) := He.glo_ok X.kin X.ns (X.c.d.fact 39 (f := .glo "_law_bill") rfl)
  have b_law_bill : Binds K fd_law_bill ["season", "bounds", "forecast", "prices", "pulls"] [] := F_law_bill.binds fun _ _ _ _ _ _ us hl => match us, hl with | [_, _, _, _, _], _ => rfl
  obtain ⟨fd_law_keeps, F_law_keeps⟩ := X.c.d.def_ 41 (d := dd_law_keeps) rfl
  have F_law_keeps : Fun K "_law_keeps" "_law_keeps" s_law_keeps (He.fAd K ("_law_keeps", none)) fd_law_keeps := fun_of F_law_keeps
  have g_law_keeps : mg "_law_keeps" = some (.ref (He.fAd K ("_law_keeps", none))) := He.glo_ok X.kin X.ns (X.c.d.fact 40 (f := .glo "_law_keeps") rfl)
  have b_law_keeps : Binds K fd_law_keeps ["season", "bounds", "outcome"] [] := F_law_keeps.binds fun _ _ _ _ _ _ us hl => match us, hl with | [_, _, _], _ => rfl
  obtain ⟨fd_law_costs, F_law_costs⟩ := X.c.d.def_ 42 (d := dd_law_costs) rfl
  have F_law_costs : Fun K "_law_costs" "_law_costs" s_law_costs (He.fAd K ("_law_costs", none)) fd_law_costs := fun_of F_law_costs
  have g_law_costs : mg "_law_costs" = some (.ref (He.fAd K ("_law_costs", none))) := He.glo_ok X.kin X.ns (X.c.d.fact 41 (f := .glo "_law_costs") rfl)
  have b_law_costs : Binds K fd_law_costs ["season", "bounds", "forecast", "prices"] [] := F_law_costs.binds fun _ _ _ _ _ _ us hl => match us, hl with | [_, _, _, _], _ => rfl
  obtain ⟨fd_law_drawn_pulls, F_law_drawn_pulls⟩ := X.c.d.def_ 43 (d := dd_law_drawn_pulls) rfl
  have F_law_drawn_pulls : Fun K "_law_drawn_pulls" "_law_drawn_pulls" s_law_drawn_pulls (He.fAd K ("_law_drawn_pulls", none)) fd_law_drawn_pulls := fun_of F_law_drawn_pulls
  have g_law_drawn_pulls : mg "_law_drawn_pulls" = some (.ref (He.fAd K ("_law_drawn_pulls", none))) := He.glo_ok X.kin X.ns (X.c.d.fact 42 (f := .glo "_law_drawn_pulls") rfl)
  have b_law_drawn_pulls : Binds K fd_law_drawn_pulls ["stream", "season"] [] := F_law_drawn_pulls.binds fun _ _ _ _ _ _ us hl => match us, hl with | [_, _], _ => rfl
  obtain ⟨fd_law_right, F_law_right⟩ := X.c.d.def_ 44 (d := dd_law_right) rfl
  have F_law_right : Fun K "_law_right" "_law_right" s_law_right (He.fAd K ("_law_right", none)) fd_law_right := fun_of F_law_right
  have g_law_right : mg "_law_right" = some (.ref (He.fAd K ("_law_right", none))) := He.glo_ok X.kin X.ns (X.c.d.fact 43 (f := .glo "_law_right") rfl)
  have b_law_right : Binds K fd_law_right ["stream", "season"] [] := F_law_right.binds fun _ _ _ _ _ _ us hl => match us, hl with | [_, _], _ => rfl
  obtain ⟨fd_law_below_right, F_law_below_right⟩ := X.c.d.def_ 45 (d := dd_law_below_right) rfl
  have F_law_below_right : Fun K "_law_below_right" "_law_below_right" s_law_below_right (He.fAd K ("_law_below_right", none)) fd_law_below_right := fun_of F_law_below_right
  have g_law_below_right : mg "_law_below_right" = some (.ref (He.fAd K ("_law_below_right", none))) := He.glo_ok X.kin X.ns (X.c.d.fact 44 (f := .glo "_law_below_right") rfl)
  have b_law_below_right : Binds K fd_law_below_right ["stream", "season"] [] := F_law_below_right.binds fun _ _ _ _ _ _ us hl => match us, hl with | [_, _], _ => rfl
  obtain ⟨fd_law_stream, F_law_stream⟩ := X.c.d.def_ 46 (d := dd_law_stream) rfl
  have F_law_stream : Fun K "_law_stream" "_law_stream" s_law_stream (He.fAd K ("_law_stream", none)) fd_law_stream := fun_of F_law_stream
  have g_law_stream : mg "_law_stream" = some (.ref (He.fAd K ("_law_stream", none))) := He.glo_ok X.kin X.ns (X.c.d.fact 45 (f := .glo "_law_stream") rfl)
  have b_law_stream : Binds K fd_law_stream ["script"] [] := F_law_stream.binds fun _ _ _ _ _ _ us hl => match us, hl with | [_], _ => rfl
  obtain ⟨fd_law, F_law⟩ := X.c.d.def_ 47 (d := dd_law) rfl
  have F_law : Fun K "law" "law" s_law (He.fAd K ("law", none)) fd_law := fun_of F_law
  have g_law : mg "law" = some (.ref (He.fAd K ("law", none))) := He.glo_ok X.kin X.ns (X.c.d.fact 46 (f := .glo "law") rfl)
  have b_law : Binds K fd_law ["script"] [] := F_law.binds fun _ _ _ _ _ _ us hl => match us, hl with | [_], _ => rfl
  cases hfa.symm.trans g_law
  refine ⟨fd_law, F_law, fun s u => ?_, fun s₁ a ns base cdv H few bits md sq rm => ?_⟩
  · obtain ⟨_, _, _, _, _, _, _, _, _, rfl, _, _⟩ := F_law.ex
    exact .of_eq rfl
  have c_is_list : Cal P w K mg base 1 "is_list" (spD m_is_list 1) := cal_of F_is_list g_is_list (ok_is_list F_is_list T) b_is_list
  have c_is_whole : Cal P w K mg base 1 "is_whole" (spD (m_is_whole) 1) := cal_of F_is_whole g_is_whole (ok_is_whole F_is_whole T) b_is_whole
  have c_is_number : Cal P w K mg base 2 "is_number" (spD (m_is_number) 1) := cal_of F_is_number g_is_number (ok_is_number F_is_number T c_is_whole) b_is_number
  have c_is_row : Cal P w K mg base 2 "is_row" (spD (m_is_row) 2) := cal_of F_is_row g_is_row (ok_is_row F_is_row T c_is_list) b_is_row
  have c_is_name : Cal P w K mg base 1 "is_name" (spD (m_is_name) 1) := cal_of F_is_name g_is_name (ok_is_name F_is_name T) b_is_name
  have c_first_bad_row : Cal P w K mg base 3 "first_bad_row" (spD m_first_bad_row 1) := cal_of F_first_bad_row g_first_bad_row (ok_first_bad_row F_first_bad_row T c_is_list c_is_row c_is_name c_is_number) b_first_bad_row
  have c_Season_is_game : Met P w K mg base 3 (He.ga K "Season") "is_game" (spD (m_Season_is_game (He.ga K "Season")) 2) := ⟨_, _, _, He.cls_ok (X.c.d.fact 48 (f := .cls "Season") rfl), He.meth_ok (X.c.d.fact 6 (f := .meth "Season" "is_game") rfl), ok_Season_is_game F_Season_is_game T c_is_row, b_Season_is_game⟩
  have c_Season_wins : Met P w K mg base 1 (He.ga K "Season") "wins" (spD (m_Season_wins (He.ga K "Season")) 1) := ⟨_, _, _, He.cls_ok (X.c.d.fact 48 (f := .cls "Season") rfl), He.meth_ok (X.c.d.fact 7 (f := .meth "Season" "wins") rfl), ok_Season_wins F_Season_wins T, b_Season_wins⟩
  have c_Season_games : Met P w K mg base 1 (He.ga K "Season") "games" (spD (m_Season_games (He.ga K "Season")) 1) := ⟨_, _, _, He.cls_ok (X.c.d.fact 48 (f := .cls "Season") rfl), He.meth_ok (X.c.d.fact 8 (f := .meth "Season" "games") rfl), ok_Season_games F_Season_games T, b_Season_games⟩
  have c_check_season : Cal P w K mg base 1 "check_season" (spD (m_check_season (He.ga K "Season")) 1) := cal_of F_check_season g_check_season (ok_check_season F_check_season T) b_check_season
  have c_fault_of_outcome : Cal P w K mg base 3 "fault_of_outcome" (spD (m_fault_of_outcome (He.ga K "Season")) 2) := cal_of F_fault_of_outcome g_fault_of_outcome (ok_fault_of_outcome F_fault_of_outcome T c_is_row) b_fault_of_outcome
  have c_table_made : Cal P w K mg base 1 "table_made" (spD (m_table_made (He.ga K "Season")) 2) := cal_of F_table_made g_table_made (ok_table_made F_table_made T) b_table_made
  have c_is_bounds_of : Cal P w K mg base 3 "is_bounds_of" (spD (m_is_bounds_of (He.ga K "Season")) 2) := cal_of F_is_bounds_of g_is_bounds_of (ok_is_bounds_of F_is_bounds_of T c_is_row c_is_number) b_is_bounds_of
  have c_check_bounds : Cal P w K mg base 4 "check_bounds" (spD (m_check_bounds (He.ga K "Season")) 2) := cal_of F_check_bounds g_check_bounds (ok_check_bounds F_check_bounds T c_check_season c_is_bounds_of) b_check_bounds
  have c_other_of : Cal P w K mg base 1 "other_of" (spD (m_other_of (He.ga K "Season")) 3) := cal_of F_other_of g_other_of (ok_other_of F_other_of T) b_other_of
  have c_cost_of : Cal P w K mg base 1 "cost_of" (spD (m_cost_of) 3) := cal_of F_cost_of g_cost_of (ok_cost_of F_cost_of T) b_cost_of
  have c_check_forecast : Cal P w K mg base 4 "check_forecast" (spD (m_check_forecast (He.ga K "Season")) 3) := cal_of F_check_forecast g_check_forecast (ok_check_forecast F_check_forecast T c_check_season c_fault_of_outcome c_is_row c_is_number) b_check_forecast
  have c_check_task : Cal P w K mg base 5 "check_task" (spD (m_check_task (He.ga K "Season")) 4) := cal_of F_check_task g_check_task (ok_check_task F_check_task T c_check_bounds c_check_forecast) b_check_task
  have c_cost : Cal P w K mg base 5 "cost" (spD (m_cost (He.ga K "Season")) 4) := cal_of F_cost g_cost (ok_cost F_cost T c_check_forecast c_fault_of_outcome c_cost_of) b_cost
  have k_cost__3_2_1_0 : KCal P w K mg base 5 "cost" (spD (m_cost (He.ga K "Season")) 4) ["outcome", "prices", "forecast", "season"] [3, 2, 1, 0] := kcal_of F_cost g_cost (ok_cost F_cost T c_check_forecast c_fault_of_outcome c_cost_of) fun _ _ _ _ _ _ ws hl => match ws, hl with | [_, _, _, _], _ => rfl
  have c_are_pulls : Cal P w K mg base 2 "are_pulls" (spD (m_are_pulls (He.ga K "Season")) 2) := cal_of F_are_pulls g_are_pulls (ok_are_pulls F_are_pulls T c_is_whole) b_are_pulls
  have c_bill_of : Cal P w K mg base 2 "bill_of" (spD (m_bill_of (He.ga K "Season")) 5) := cal_of F_bill_of g_bill_of (ok_bill_of F_bill_of T c_table_made c_other_of) b_bill_of
  have c_bill : Cal P w K mg base 6 "bill" (spD (m_bill (He.ga K "Season")) 5) := cal_of F_bill g_bill (ok_bill F_bill T c_check_task c_are_pulls c_bill_of) b_bill
  have k_bill__4_3_2_1_0 : KCal P w K mg base 6 "bill" (spD (m_bill (He.ga K "Season")) 5) ["pulls", "prices", "forecast", "bounds", "season"] [4, 3, 2, 1, 0] := kcal_of F_bill g_bill (ok_bill F_bill T c_check_task c_are_pulls c_bill_of) fun _ _ _ _ _ _ ws hl => match ws, hl with | [_, _, _, _, _], _ => rfl
  have mk_Season : Mak P w K mg base 4 "Season" (He.ga K "Season") (spI (He.ga K "Season") (mk_m_Season (He.ga K "Season")) 2) := ⟨_, _, _, He.mkr_ok (X.c.d.fact 49 (f := .mkr "Season") rfl), ok_Season_init F_Season_init T c_first_bad_row c_is_list c_Season_is_game, He.glo_ok X.kin X.ns (X.c.d.fact 47 (f := .glo "Season") rfl), b_Season_init⟩
  have c_law_draw : Cal P w K mg base 1 "_law_draw" (spD (m_law_draw) 2) := cal_of F_law_draw g_law_draw (ok_law_draw F_law_draw T) b_law_draw
  have c_law_pick : Cal P w K mg base 2 "_law_pick" (spD (m_law_pick) 2) := cal_of F_law_pick g_law_pick (ok_law_pick F_law_pick T c_law_draw) b_law_pick
  have c_law_mixed : Cal P w K mg base 2 "_law_mixed" (spD (m_law_mixed) 2) := cal_of F_law_mixed g_law_mixed (ok_law_mixed F_law_mixed T c_law_draw) b_law_mixed
  have c_law_same : Cal P w K mg base 7 "_law_same" (spD (m_law_same 6) 2) := cal_of F_law_same g_law_same (ok_law_same F_law_same g_law_same b_law_same T 6) b_law_same
  have c_law_loose : Cal P w K mg base 6 "_law_loose" (spD (m_law_loose 4) 2) := cal_of F_law_loose g_law_loose (ok_law_loose F_law_loose g_law_loose b_law_loose T c_law_draw 4) b_law_loose
  have c_law_copied : Cal P w K mg base 5 "_law_copied" (spD (m_law_copied 4) 1) := cal_of F_law_copied g_law_copied (ok_law_copied F_law_copied g_law_copied b_law_copied T 4) b_law_copied
  have c_law_names : Cal P w K mg base 3 "_law_names" (spD (m_law_names) 2) := cal_of F_law_names g_law_names (ok_law_names F_law_names T c_law_draw c_law_pick) b_law_names
  have c_law_table : Cal P w K mg base 1 "_law_table" (spD (m_law_table) 2) := cal_of F_law_table g_law_table (ok_law_table F_law_table T) b_law_table
  have c_law_outcomes : Cal P w K mg base 1 "_law_outcomes" (spD (m_law_outcomes) 1) := cal_of F_law_outcomes g_law_outcomes (ok_law_outcomes F_law_outcomes T) b_law_outcomes
  have c_law_season : Cal P w K mg base 4 "_law_season" (spD (m_law_season) 3) := cal_of F_law_season g_law_season (ok_law_season F_law_season T c_law_names c_law_pick c_law_draw c_law_mixed) b_law_season
  have c_law_drawn_outcome : Cal P w K mg base 3 "_law_drawn_outcome" (spD (m_law_drawn_outcome) 2) := cal_of F_law_drawn_outcome g_law_drawn_outcome (ok_law_drawn_outcome F_law_drawn_outcome T c_law_pick) b_law_drawn_outcome
  have c_law_made : Cal P w K mg base 7 "_law_made" (spD (m_law_made (He.ga K "Season")) 2) := cal_of F_law_made g_law_made (ok_law_made F_law_made T c_law_loose c_law_mixed mk_Season) b_law_made
  have c_law_shows : Cal P w K mg base 8 "_law_shows" (spD (m_law_shows (He.ga K "Season")) 2) := cal_of F_law_shows g_law_shows (ok_law_shows F_law_shows T c_law_same c_Season_games c_Season_wins) b_law_shows
  have c_law_bounds : Cal P w K mg base 4 "_law_bounds" (spD (m_law_bounds) 2) := cal_of F_law_bounds g_law_bounds (ok_law_bounds F_law_bounds T c_law_table c_law_drawn_outcome c_law_pick c_law_draw) b_law_bounds
  have c_law_prices : Cal P w K mg base 3 "_law_prices" (spD (m_law_prices) 2) := cal_of F_law_prices g_law_prices (ok_law_prices F_law_prices T c_law_pick) b_law_prices
  have c_law_cost : Cal P w K mg base 1 "_law_cost" (spD (m_law_cost) 3) := cal_of F_law_cost g_law_cost (ok_law_cost F_law_cost T) b_law_cost
  have c_law_other : Cal P w K mg base 1 "_law_other" (spD (m_law_other) 3) := cal_of F_law_other g_law_other (ok_law_other F_law_other T) b_law_other
  have c_law_bill : Cal P w K mg base 2 "_law_bill" (spD (m_law_bill) 5) := cal_of F_law_bill g_law_bill (ok_law_bill F_law_bill T c_law_table c_law_other) b_law_bill
  have c_law_keeps : Cal P w K mg base 2 "_law_keeps" (spD (m_law_keeps) 3) := cal_of F_law_keeps g_law_keeps (ok_law_keeps F_law_keeps T c_law_table) b_law_keeps
  have c_law_costs : Cal P w K mg base 3 "_law_costs" (spD (m_law_costs) 4) := cal_of F_law_costs g_law_costs (ok_law_costs F_law_costs T c_law_outcomes c_law_keeps c_law_cost) b_law_costs
  have c_law_drawn_pulls : Cal P w K mg base 3 "_law_drawn_pulls" (spD (m_law_drawn_pulls) 2) := cal_of F_law_drawn_pulls g_law_drawn_pulls (ok_law_drawn_pulls F_law_drawn_pulls T c_law_pick) b_law_drawn_pulls
  have c_law_right : CalG P w K mg base 9 "_law_right" (spD (m_law_right (He.ga K "Season")) 2) := ⟨_, _, _, ok_law_right F_law_right T c_law_made c_law_drawn_outcome c_law_prices c_law_bounds c_law_drawn_pulls c_law_bill c_law_cost c_law_loose c_law_mixed c_bill c_cost c_law_same c_law_shows k_bill__4_3_2_1_0 k_cost__3_2_1_0, g_law_right, F_law_right.kp, b_law_right⟩
  have c_law_below_right : Cal P w K mg base 8 "_law_below_right" (spD (m_law_below_right (He.ga K "Season")) 2) := cal_of F_law_below_right g_law_below_right (ok_law_below_right F_law_below_right T c_law_made c_law_bounds c_law_drawn_outcome c_law_prices c_law_costs c_bill c_law_drawn_pulls c_law_copied) b_law_below_right
  have c_law_stream : Cal P w K mg base 1 "_law_stream" (spStr K) := cal_of F_law_stream g_law_stream (ok_law_stream F_law_stream T) b_law_stream
  exact law_body T c_law_stream c_law_right c_law_season c_law_below_right (Nat.le_refl _) cdv callerA [] s₁ H [.ref a] Q1 (fun _ _ _ => False) rm rfl ⟨a, ns, rfl, sq, Nat.le_trans few (by decide), fun k hk => law_turns (C := He.ga K "Season") (good_startT few bits hk) a k, fun _ => rfl⟩
end
end M
open PySem PySem.W PySem.Calls PyProof.Rows
set_option maxHeartbeats 0
theorem PySem.Challenge.cw_stillfirst_k40_whole_costs_and_bills_holds : PySem.Challenge.rw_stillfirst_k40_whole_costs_and_bills.Holds := by
  w_on; o_law
  refine HandSHeadRun.head_any (r := OpenLaw.row PySem.Challenge.rw_stillfirst_k40_whole_costs_and_bills) (q := view (OpenLaw.row PySem.Challenge.rw_stillfirst_k40_whole_costs_and_bills).prog [66]) (H := M.hkL) (ob := M.obL) (M := 20000) (loose := M.nmL) (d := HandSHeadRun.topDef (OpenLaw.row PySem.Challenge.rw_stillfirst_k40_whole_costs_and_bills).prog 66) (kwd := []) M.obL_eq
    (by kernel_rfl) (fun s => by kernel_rfl) M.runL (by kernel_rfl) (by kernel_rfl) (by kernel_rfl) (by rfl) (by first | assumption | decide +kernel) (by decide +kernel) ⟨rfl, rfl, rfl, rfl, rfl, by decide +kernel⟩ ?hw ?hc
  case hw => w_witness2
  case hc =>
    refine M.walk_at (l := PySem.Challenge.rw_stillfirst_k40_whole_costs_and_bills) (k := 9) (x := "script") (nm := "law") (qual := "law") (st := M.s_law) rfl (by kernel_rfl) ⟨rfl, by decide, by decide⟩ M.sc_law ?F
    intro w mg fa h Y G hmg0
    obtain ⟨K, kin, c⟩ := Y
    have hmg : mg ("law" : PySem.Str) = some (.ref fa) := by
      have e : (HandSHeadRun.topDef (OpenLaw.row PySem.Challenge.rw_stillfirst_k40_whole_costs_and_bills).prog 66).name = ("law" : PySem.Str) := by kernel_rfl
      rw [← e]
      exact hmg0
    obtain ⟨fd, F, b, z⟩ := M.bodyL (P := PySem.Challenge.rw_stillfirst_k40_whole_costs_and_bills.prog) (w := w) (K := K) (h := h) ⟨kin, G, c⟩ hmg
    exact ⟨K, fd, kin, F, b, z⟩

