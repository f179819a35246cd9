import PyProof.Rows.All
import Wide.All
import OpenK.AllK
import Wide.FinOn
import HandS.ForMost
import HandS.TupAny
import HandS.TupMul
import HandS.Style
import HandS.WideBits
import HandS.IsInst
import HandS.Flow
import HandS.Deep
import HandS.Zip
import KE.DataMinMax
import KE.GoesEnum
import HandS.Ends
import PySem.Challenge.RW_coinblind_k51_whole_stretches
set_option Elab.async false
set_option linter.all false
set_option autoImplicit false
set_option maxRecDepth 100000
set_option maxHeartbeats 4000000
namespace Cb
open PySem PySem.Spec PyProof.Rows L2

/-! ## values and stores -/
/-- a value by itself; ref n: the n-th changing thing of the store -/
inductive D where
  | non
  | bl (b : Bool)
  | int (i : Int)
  | str (s : Str)
  | tup (xs : List D)
  | ref (n : Nat)
/-- a class of the text's own: its name, the names of its instances' attributes -/
structure Kl where
  name : Str
  names : List Str
  deriving DecidableEq
/-- what changes: a list, the script (read alone), a dict by whole numbers and texts, an instance -/
inductive Cell where
  | lst (xs : List D)
  | frz (xs : List D)
  | dct (kvs : List (Key × D))
  | ins (c : Kl) (fs : List (Str × D))
abbrev Env1 := List (Option D)
abbrev Store := List Cell
abbrev K1 := D → Store → Prop
abbrev Fm := Nat → List D → Store → K1 → Prop

/-! ## how they lie in the heap of HandS -/
section
variable (K : PySem.W.Frag) (ι : List Addr) (H : Hp)
mutual
inductive DR : D → V → Prop
  | non : DR .non .non
  | bl (b : Bool) : DR (.bl b) (.bl b)
  | int (i : Int) : DR (.int i) (.int i)
  | str (s : Str) : DR (.str s) (.str s)
  | tup {a : Addr} {vs : List V} {ds : List D} : SqT K H a vs → DRs ds vs → DR (.tup ds) (.ref a)
  | ref {n : Nat} {a : Addr} : ι[n]? = some a → DR (.ref n) (.ref a)
inductive DRs : List D → List V → Prop
  | nil : DRs [] []
  | cons {d : D} {ds : List D} {v : V} {vs : List V} : DR d v → DRs ds vs → DRs (d :: ds) (v :: vs)
end
end
/-- what the heap keeps for ever: tuples and what is frozen -/
structure KeepT (H H' : Hp) : Prop where
  tup : ∀ a xs, H a = some (.tup xs) → H' a = some (.tup xs)
  frz : ∀ a o u, H a = some (.frz o u) → H' a = some (.frz o u)
theorem KeepT.refl (H : Hp) : KeepT H H := ⟨fun _ _ h => h, fun _ _ _ h => h⟩
theorem KeepT.trans {H H1 H2 : Hp} (a : KeepT H H1) (b : KeepT H1 H2) : KeepT H H2 := ⟨fun c x h => b.tup c x (a.tup c x h), fun c o u h => b.frz c o u (a.frz c o u h)⟩
theorem KeepT.seq {K : PySem.W.Frag} {H H' : Hp} {a : Addr} {xs : List V} (k : KeepT H H') (h : SqT K H a xs) : SqT K H' a xs := by
  rcases h with (h | ⟨o, h⟩) | h
  · exact .inl (.inl (k.tup _ _ h))
  · exact .inl (.inr ⟨o, k.frz _ _ _ h⟩)
  · exact .inr h
theorem KeepT.new {H : Hp} {p : Addr} {o : HO} (hp : H p = none) : KeepT H (upd H p o) :=
  ⟨fun a xs h => by rw [upd_ne (ne_of_none h hp)]; exact h, fun a o u h => by rw [upd_ne (ne_of_none h hp)]; exact h⟩
theorem KeepT.upd {H : Hp} {p : Addr} {o u : HO} (hp : H p = some u) (h1 : ∀ xs, u ≠ .tup xs) (h2 : ∀ o' u', u ≠ .frz o' u') : KeepT H (upd H p o) := by
  refine ⟨fun a xs h => ?_, fun a o u h => ?_⟩
  · rw [upd_ne]
    · exact h
    · rintro rfl
      rw [hp] at h
      exact h1 _ (Option.some.inj h)
  · rw [upd_ne]
    · exact h
    · rintro rfl
      rw [hp] at h
      exact h2 _ _ (Option.some.inj h)

/-- what is as it was: tuples, what is frozen, and all that stands at no place of the store; the store's new places are new -/
structure Keep (ι ι' : List Addr) (H H' : Hp) : Prop where
  tup : ∀ a xs, H a = some (.tup xs) → H' a = some (.tup xs)
  frz : ∀ a o u, H a = some (.frz o u) → H' a = some (.frz o u)
  out : ∀ a o, H a = some o → a ∉ ι → H' a = some o
  new : ∀ a, a ∈ ι' → a ∈ ι ∨ H a = none
theorem Keep.t {ι ι' : List Addr} {H H' : Hp} (k : Keep ι ι' H H') : KeepT H H' := ⟨k.tup, k.frz⟩
instance {ι ι' : List Addr} {H H' : Hp} : CoeOut (Keep ι ι' H H') (KeepT H H') := ⟨Keep.t⟩
theorem Keep.refl {ι : List Addr} (H : Hp) : Keep ι ι H H := ⟨fun _ _ h => h, fun _ _ _ h => h, fun _ _ h _ => h, fun _ h => .inl h⟩
theorem Keep.trans {ι ι1 ι2 : List Addr} {H H1 H2 : Hp} (a : Keep ι ι1 H H1) (b : Keep ι1 ι2 H1 H2) : Keep ι ι2 H H2 := by
  refine ⟨fun c x h => b.tup c x (a.tup c x h), fun c o u h => b.frz c o u (a.frz c o u h), fun c o h hn => ?_, fun c hc => ?_⟩
  · refine b.out c o (a.out c o h hn) fun z => ?_
    rcases a.new c z with z | z
    · exact hn z
    · rw [h] at z
      cases z
  · rcases b.new c hc with z | z
    · exact a.new c z
    · by_cases hm : c ∈ ι
      · exact .inl hm
      · right
        cases e : H c with
        | none => rfl
        | some o =>
          rw [a.out c o e hm] at z
          cases z
theorem Keep.new1 {ι : List Addr} {H : Hp} {p : Addr} {o : HO} (hp : H p = none) : Keep ι ι H (upd H p o) :=
  ⟨(KeepT.new hp).tup, (KeepT.new hp).frz, fun a u h _ => by rw [upd_ne (ne_of_none h hp)]; exact h, fun _ h => .inl h⟩
theorem Keep.newC {ι : List Addr} {H : Hp} {p : Addr} {o : HO} (hp : H p = none) : Keep ι (ι ++ [p]) H (upd H p o) :=
  ⟨(KeepT.new hp).tup, (KeepT.new hp).frz, fun a u h _ => by rw [upd_ne (ne_of_none h hp)]; exact h, fun a h => by
    rcases List.mem_append.mp h with h | h
    · exact .inl h
    · right
      rw [List.mem_singleton.mp h]
      exact hp⟩
theorem Keep.upd {ι : List Addr} {H : Hp} {p : Addr} {o u : HO} (hi : p ∈ ι) (hp : H p = some u) (h1 : ∀ xs, u ≠ .tup xs) (h2 : ∀ o' u', u ≠ .frz o' u') : Keep ι ι H (upd H p o) :=
  ⟨(KeepT.upd hp h1 h2).tup, (KeepT.upd hp h1 h2).frz, fun a x h hn => by
    rw [upd_ne]
    · exact h
    · rintro rfl
      exact hn hi, fun _ h => .inl h⟩

theorem pre_get {α : Type} {ι ι' : List α} (h : ι <+: ι') {n : Nat} {a : α} (e : ι[n]? = some a) : ι'[n]? = some a := by
  obtain ⟨t, rfl⟩ := h
  obtain ⟨hn, rfl⟩ := List.getElem?_eq_some_iff.mp e
  rw [List.getElem?_append_left hn]
  exact e
section
variable {K : PySem.W.Frag} {ι ι' : List Addr} {H H' : Hp}
mutual
theorem DR.mono (hι : ι <+: ι') (k : KeepT H H') : ∀ {d : D} {v : V}, DR K ι H d v → DR K ι' H' d v
  | _, _, .non => .non
  | _, _, .bl b => .bl b
  | _, _, .int i => .int i
  | _, _, .str s => .str s
  | _, _, .tup h1 h2 => .tup (k.seq h1) (DRs.mono hι k h2)
  | _, _, .ref h => .ref (pre_get hι h)
theorem DRs.mono (hι : ι <+: ι') (k : KeepT H H') : ∀ {d : List D} {v : List V}, DRs K ι H d v → DRs K ι' H' d v
  | _, _, .nil => .nil
  | _, _, .cons h1 h2 => .cons (DR.mono hι k h1) (DRs.mono hι k h2)
end
theorem DRs.len : ∀ {ds : List D} {vs : List V}, DRs K ι H ds vs → ds.length = vs.length
  | _, _, .nil => rfl
  | _, _, .cons _ t => by rw [List.length_cons, List.length_cons, DRs.len t]
theorem DRs.get : ∀ {ds : List D} {vs : List V} {i : Nat} {d : D}, DRs K ι H ds vs → ds[i]? = some d → ∃ v, vs[i]? = some v ∧ DR K ι H d v
  | _, _, i, d, .nil, h => by simp at h
  | _, _, 0, d, .cons h1 _, h => by
    obtain rfl : _ = d := Option.some.inj h
    exact ⟨_, rfl, h1⟩
  | _, _, i + 1, d, .cons _ t, h => by
    obtain ⟨v, e, r⟩ := DRs.get (i := i) t (by simpa using h)
    exact ⟨v, by simpa using e, r⟩
theorem DRs.getV : ∀ {ds : List D} {vs : List V} {i : Nat} {v : V}, DRs K ι H ds vs → vs[i]? = some v → ∃ d, ds[i]? = some d ∧ DR K ι H d v
  | _, _, i, d, .nil, h => by simp at h
  | _, _, 0, d, .cons h1 _, h => by
    obtain rfl : _ = d := Option.some.inj h
    exact ⟨_, rfl, h1⟩
  | _, _, i + 1, d, .cons _ t, h => by
    obtain ⟨v, e, r⟩ := DRs.getV (i := i) t (by simpa using h)
    exact ⟨v, by simpa using e, r⟩
theorem DRs.append : ∀ {ds es : List D} {vs ws : List V}, DRs K ι H ds vs → DRs K ι H es ws → DRs K ι H (ds ++ es) (vs ++ ws)
  | _, _, _, _, .nil, s => s
  | _, _, _, _, .cons h t, s => .cons h (DRs.append t s)
theorem DRs.one {d : D} {v : V} (h : DR K ι H d v) : DRs K ι H [d] [v] := .cons h .nil
theorem DRs.take : ∀ {ds : List D} {vs : List V} (n : Nat), DRs K ι H ds vs → DRs K ι H (ds.take n) (vs.take n)
  | _, _, 0, _ => by rw [List.take_zero, List.take_zero]; exact .nil
  | _, _, _ + 1, .nil => .nil
  | _, _, n + 1, .cons h t => .cons h (DRs.take n t)
theorem DRs.drop : ∀ {ds : List D} {vs : List V} (n : Nat), DRs K ι H ds vs → DRs K ι H (ds.drop n) (vs.drop n)
  | _, _, 0, h => h
  | _, _, _ + 1, .nil => .nil
  | _, _, n + 1, .cons _ t => DRs.drop n t
theorem DRs.set {d : D} {v : V} (h : DR K ι H d v) : ∀ {ds : List D} {vs : List V} (n : Nat), DRs K ι H ds vs → DRs K ι H (ds.set n d) (vs.set n v)
  | _, _, _, .nil => .nil
  | _, _, 0, .cons _ t => .cons h t
  | _, _, n + 1, .cons q t => .cons q (DRs.set h n t)
theorem DRs.reverse : ∀ {ds : List D} {vs : List V}, DRs K ι H ds vs → DRs K ι H ds.reverse vs.reverse
  | _, _, .nil => .nil
  | _, _, .cons h t => by
    rw [List.reverse_cons, List.reverse_cons]
    exact (DRs.reverse t).append (.one h)
theorem DRs.erase : ∀ {ds : List D} {vs : List V} (n : Nat), DRs K ι H ds vs → DRs K ι H (ds.eraseIdx n) (vs.eraseIdx n)
  | _, _, _, .nil => .nil
  | _, _, 0, .cons _ t => t
  | _, _, n + 1, .cons h t => .cons h (DRs.erase n t)
theorem DRs.dropLast {ds : List D} {vs : List V} (h : DRs K ι H ds vs) : DRs K ι H ds.dropLast vs.dropLast := by
  rw [List.dropLast_eq_take, List.dropLast_eq_take, h.len]
  exact h.take _
theorem DRs.repl {ds : List D} {vs : List V} (h : DRs K ι H ds vs) : ∀ k, DRs K ι H (List.replicate k ds).flatten (List.replicate k vs).flatten
  | 0 => .nil
  | k + 1 => by
    rw [List.replicate_succ, List.replicate_succ, List.flatten_cons, List.flatten_cons]
    exact h.append (DRs.repl h k)
/-- the pairs of a dict -/
inductive DKs (K : PySem.W.Frag) (ι : List Addr) (H : Hp) : List (Key × D) → List (Key × V) → Prop
  | nil : DKs K ι H [] []
  | cons {k : Key} {d : D} {ds : List (Key × D)} {v : V} {vs : List (Key × V)} : DR K ι H d v → DKs K ι H ds vs → DKs K ι H ((k, d) :: ds) ((k, v) :: vs)
theorem DKs.mono (hι : ι <+: ι') (k : KeepT H H') : ∀ {d : List (Key × D)} {v : List (Key × V)}, DKs K ι H d v → DKs K ι' H' d v
  | _, _, .nil => .nil
  | _, _, .cons h1 h2 => .cons (DR.mono hι k h1) (DKs.mono hι k h2)
theorem DKs.len : ∀ {ds : List (Key × D)} {vs : List (Key × V)}, DKs K ι H ds vs → ds.length = vs.length
  | _, _, .nil => rfl
  | _, _, .cons _ t => by rw [List.length_cons, List.length_cons, DKs.len t]
/-- the attributes of an instance -/
inductive DFs (K : PySem.W.Frag) (ι : List Addr) (H : Hp) : List (Str × D) → List (Str × V) → Prop
  | nil : DFs K ι H [] []
  | cons {k : Str} {d : D} {ds : List (Str × D)} {v : V} {vs : List (Str × V)} : DR K ι H d v → DFs K ι H ds vs → DFs K ι H ((k, d) :: ds) ((k, v) :: vs)
theorem DFs.mono (hι : ι <+: ι') (k : KeepT H H') : ∀ {d : List (Str × D)} {v : List (Str × V)}, DFs K ι H d v → DFs K ι' H' d v
  | _, _, .nil => .nil
  | _, _, .cons h1 h2 => .cons (DR.mono hι k h1) (DFs.mono hι k h2)
theorem DFs.len : ∀ {ds : List (Str × D)} {vs : List (Str × V)}, DFs K ι H ds vs → ds.length = vs.length
  | _, _, .nil => rfl
  | _, _, .cons _ t => by rw [List.length_cons, List.length_cons, DFs.len t]
theorem DFs.get {f : Str} {d : D} : ∀ {ds : List (Str × D)} {vs : List (Str × V)}, DFs K ι H ds vs → ds.lookup f = some d → ∃ v, vs.lookup f = some v ∧ DR K ι H d v
  | _, _, .nil, h => by cases h
  | (k, d') :: ds, _, .cons (v := v) h1 t, h => by
    rw [List.lookup_cons] at h
    rw [List.lookup_cons]
    cases e : f == k with
    | true =>
      rw [e] at h
      cases h
      exact ⟨v, rfl, h1⟩
    | false =>
      rw [e] at h
      exact DFs.get t h
theorem DFs.none {f : Str} : ∀ {ds : List (Str × D)} {vs : List (Str × V)}, DFs K ι H ds vs → ds.lookup f = none → vs.lookup f = none
  | _, _, .nil, h => rfl
  | (k, d') :: ds, _, .cons h1 t, h => by
    rw [List.lookup_cons] at h
    rw [List.lookup_cons]
    cases e : f == k with
    | true =>
      rw [e] at h
      cases h
    | false =>
      rw [e] at h
      exact DFs.none t h
/-- an attribute stored -/
def putFD (f : Str) (v : D) : List (Str × D) → List (Str × D)
  | [] => [(f, v)]
  | (g, x) :: r => if g = f then (g, v) :: r else (g, x) :: putFD f v r
theorem DFs.put {f : Str} {d : D} {v : V} (h : DR K ι H d v) : ∀ {ds : List (Str × D)} {vs : List (Str × V)}, DFs K ι H ds vs → DFs K ι H (putFD f d ds) (putF f v vs)
  | _, _, .nil => .cons h .nil
  | (k, d') :: ds, _, .cons (vs := vs) (v := w) h1 t => by
    unfold putFD putF
    by_cases e : k = f
    · rw [if_pos e, if_pos e]
      exact .cons h t
    · rw [if_neg e, if_neg e]
      exact .cons h1 (DFs.put h t)
theorem putFD_sub {f : Str} {d : D} : ∀ {ds : List (Str × D)} {p : Str × D}, p ∈ putFD f d ds → p.1 = f ∨ ∃ q ∈ ds, q.1 = p.1
  | [], p, h => by
    simp [putFD] at h
    exact .inl (by rw [h])
  | (g, x) :: r, p, h => by
    unfold putFD at h
    split at h
    · rename_i e
      rcases List.mem_cons.mp h with rfl | h
      · exact .inl e
      · exact .inr ⟨p, List.mem_cons_of_mem _ h, rfl⟩
    · rcases List.mem_cons.mp h with rfl | h
      · exact .inr ⟨_, List.mem_cons_self, rfl⟩
      · rcases putFD_sub h with h | ⟨q, h1, h2⟩
        · exact .inl h
        · exact .inr ⟨q, List.mem_cons_of_mem _ h1, h2⟩
/-- the class of an instance, as the text has left it -/
structure KlOk (K : PySem.W.Frag) (c : Kl) (C : Addr) : Prop where
  at_ : PySem.W.nsIn K mainGlobals c.name = some (some (.ref C))
  cls : Cls K C
  no : ∀ f ∈ c.names, NoAttr K C f
/-- what stands at an address -/
def CellR (K : PySem.W.Frag) (ι : List Addr) (H : Hp) (a : Addr) : Cell → Prop
  | .lst ds => ∃ vs, H a = some (.lst vs) ∧ DRs K ι H ds vs
  | .frz ds => ∃ o vs, H a = some (.frz o (.lst vs)) ∧ DRs K ι H ds vs
  | .dct kvs => ∃ vs, H a = some (.dK vs) ∧ DKs K ι H kvs vs
  | .ins c fs => ∃ C dx vs, KlOk K c C ∧ H a = some (.ins C dx vs) ∧ DFs K ι H fs vs ∧ ∀ p ∈ fs, p.1 ∈ c.names
structure StR (K : PySem.W.Frag) (ι : List Addr) (H : Hp) (st : Store) : Prop where
  len : ι.length = st.length
  nd : ι.Nodup
  cell : ∀ (n : Nat) (c : Cell) (a : Addr), st[n]? = some c → ι[n]? = some a → CellR K ι H a c
/-- the names of a def -/
structure EnvR (K : PySem.W.Frag) (ι : List Addr) (H : Hp) (σ : L2.St) (ρ : Env1) : Prop where
  len : σ.length = ρ.length
  get : ∀ (i : Nat) (d : D), ρ[i]? = some (some d) → ∃ v, σ[i]? = some (some v) ∧ DR K ι H d v
theorem EnvR.mono {σ : L2.St} {ρ : Env1} (e : EnvR K ι H σ ρ) (hι : ι <+: ι') (k : KeepT H H') : EnvR K ι' H' σ ρ :=
  ⟨e.len, fun i d h => let ⟨v, h1, h2⟩ := e.get i d h; ⟨v, h1, h2.mono hι k⟩⟩
theorem EnvR.set {σ : L2.St} {ρ : Env1} (e : EnvR K ι H σ ρ) {d : D} {v : V} (h : DR K ι H d v) (i : Nat) : EnvR K ι H (σ.set i (some v)) (ρ.set i (some d)) := by
  refine ⟨by rw [List.length_set, List.length_set]; exact e.len, fun j d' hj => ?_⟩
  by_cases hij : i = j
  · subst hij
    by_cases hl : i < ρ.length
    · rw [List.getElem?_set_self hl] at hj
      cases hj
      exact ⟨v, by rw [List.getElem?_set_self (by rw [e.len]; exact hl)], h⟩
    · rw [List.getElem?_eq_none (by simpa using hl)] at hj
      cases hj
  · rw [List.getElem?_set_ne hij] at hj
    obtain ⟨w, h1, h2⟩ := e.get j d' hj
    exact ⟨w, by rw [List.getElem?_set_ne hij]; exact h1, h2⟩
theorem StR.at {st : Store} (s : StR K ι H st) {n : Nat} {a : Addr} {c : Cell} (e : st[n]? = some c) (h : ι[n]? = some a) : CellR K ι H a c := s.cell n c a e h
theorem StR.ix {st : Store} (s : StR K ι H st) {n : Nat} {c : Cell} (e : st[n]? = some c) : ∃ a, ι[n]? = some a := by
  obtain ⟨hn, _⟩ := List.getElem?_eq_some_iff.mp e
  exact ⟨ι[n]'(by rw [s.len]; exact hn), List.getElem?_eq_getElem _⟩
theorem CellR.mono {a : Addr} : ∀ {c : Cell}, CellR K ι H a c → ι <+: ι' → KeepT H H' → (H' a = H a) → CellR K ι' H' a c
  | .lst ds, ⟨vs, h1, h2⟩, hι, k, e => ⟨vs, by rw [e]; exact h1, h2.mono hι k⟩
  | .frz ds, ⟨o, vs, h1, h2⟩, hι, k, e => ⟨o, vs, by rw [e]; exact h1, h2.mono hι k⟩
  | .dct ds, ⟨vs, h1, h2⟩, hι, k, e => ⟨vs, by rw [e]; exact h1, h2.mono hι k⟩
  | .ins c fs, ⟨C, dx, vs, h0, h1, h2, h3⟩, hι, k, e => ⟨C, dx, vs, h0, by rw [e]; exact h1, h2.mono hι k, h3⟩
theorem CellR.some {a : Addr} : ∀ {c : Cell}, CellR K ι H a c → ∃ o, H a = Option.some o
  | .lst ds, ⟨vs, h1, _⟩ => ⟨_, h1⟩
  | .frz ds, ⟨o, vs, h1, _⟩ => ⟨_, h1⟩
  | .dct ds, ⟨vs, h1, _⟩ => ⟨_, h1⟩
  | .ins c fs, ⟨C, dx, vs, _, h1, _⟩ => ⟨_, h1⟩
theorem CellR.noTup {a : Addr} {xs : List V} : ∀ {c : Cell}, CellR K ι H a c → H a ≠ Option.some (.tup xs)
  | .lst ds, ⟨vs, h1, _⟩, h => by rw [h1] at h; cases h
  | .frz ds, ⟨o, vs, h1, _⟩, h => by rw [h1] at h; cases h
  | .dct ds, ⟨vs, h1, _⟩, h => by rw [h1] at h; cases h
  | .ins c fs, ⟨C, dx, vs, _, h1, _⟩, h => by rw [h1] at h; cases h
theorem nd_ne {ι : List Addr} (h : ι.Nodup) {n m : Nat} {a b : Addr} (hn : ι[n]? = some a) (hm : ι[m]? = some b) (e : n ≠ m) : b ≠ a := by
  rintro rfl
  obtain ⟨h1, e1⟩ := List.getElem?_eq_some_iff.mp hn
  obtain ⟨h2, e2⟩ := List.getElem?_eq_some_iff.mp hm
  exact e ((List.getElem_inj h).mp (e1.trans e2.symm))
/-- the heap has grown by untracked things alone (tuples) -/
theorem StR.grow {st : Store} (s : StR K ι H st) (k : KeepT H H') (same : ∀ (n : Nat) (a : Addr), ι[n]? = some a → H' a = H a) : StR K ι H' st :=
  ⟨s.len, s.nd, fun n c a e h => (s.cell n c a e h).mono (List.prefix_refl _) k (same n a h)⟩
theorem StR.newTup {st : Store} (s : StR K ι H st) {p : Addr} {o : HO} (hp : H p = none) : StR K ι (upd H p o) st :=
  s.grow (.new hp) fun n a h => by
    obtain ⟨hn, _⟩ := List.getElem?_eq_some_iff.mp h
    obtain ⟨o, e⟩ := (s.cell n _ a (List.getElem?_eq_getElem (by rw [← s.len]; exact hn)) h).some
    exact upd_ne (ne_of_none e hp)
/-- a new changing thing -/
theorem StR.newCell {st : Store} (s : StR K ι H st) {p : Addr} {o : HO} {c : Cell} (hp : H p = none) (hc : CellR K (ι ++ [p]) (upd H p o) p c) : StR K (ι ++ [p]) (upd H p o) (st ++ [c]) := by
  have hne : ∀ (n : Nat) (a : Addr), ι[n]? = some a → a ≠ p := fun n a h => by
    obtain ⟨hn, _⟩ := List.getElem?_eq_some_iff.mp h
    obtain ⟨o, e⟩ := (s.cell n _ a (List.getElem?_eq_getElem (by rw [← s.len]; exact hn)) h).some
    exact ne_of_none e hp
  refine ⟨by rw [List.length_append, List.length_append, s.len]; rfl, ?_, fun n c' a e h => ?_⟩
  · refine List.nodup_append.mpr ⟨s.nd, by simp, fun a ha b hb => ?_⟩
    have : b = p := by simpa using hb
    subst this
    obtain ⟨n, hn⟩ := List.getElem?_of_mem ha
    exact hne n a hn
  · by_cases hn : n < st.length
    · rw [List.getElem?_append_left hn] at e
      rw [List.getElem?_append_left (by rw [s.len]; exact hn)] at h
      exact (s.cell n c' a e h).mono (List.prefix_append _ _) (.new hp) (upd_ne (hne n a h))
    · have hl : n < (st ++ [c]).length := (List.getElem?_eq_some_iff.mp e).1
      have e0 : n = st.length := by
        rw [List.length_append] at hl
        simp only [List.length_singleton] at hl
        omega
      subst e0
      rw [List.getElem?_append_right (Nat.le_refl _), Nat.sub_self] at e
      rw [List.getElem?_append_right (by rw [s.len]; exact Nat.le_refl _), s.len, Nat.sub_self] at h
      obtain rfl : c = c' := Option.some.inj e
      obtain rfl : p = a := Option.some.inj h
      exact hc
/-- a changing thing has changed -/
theorem StR.put {st : Store} (s : StR K ι H st) {n : Nat} {p : Addr} {o : HO} {c : Cell} (hn : ι[n]? = some p) (k : KeepT H (upd H p o)) (hc : CellR K ι (upd H p o) p c) : StR K ι (upd H p o) (st.set n c) := by
  refine ⟨by rw [List.length_set]; exact s.len, s.nd, fun m c' a e h => ?_⟩
  by_cases hm : n = m
  · subst hm
    obtain ⟨hl, _⟩ := List.getElem?_eq_some_iff.mp hn
    rw [List.getElem?_set_self (by rw [← s.len]; exact hl)] at e
    obtain rfl : c = c' := Option.some.inj e
    rw [hn] at h
    obtain rfl : p = a := Option.some.inj h
    exact hc
  · rw [List.getElem?_set_ne hm] at e
    exact (s.cell m c' a e h).mono (List.prefix_refl _) k (upd_ne (nd_ne s.nd hn h hm))
theorem DR.last {p : Addr} {st : Store} (s : StR K ι H st) {H' : Hp} : DR K (ι ++ [p]) H' (.ref st.length) (.ref p) := by
  refine .ref ?_
  rw [List.getElem?_append_right (by rw [s.len]; exact Nat.le_refl _), s.len, Nat.sub_self]
  rfl
end

/-! ## what an operation asks, by values -/
/-- the data as a whole -/
def mapO {α β : Type} (f : α → Option β) : List α → Option (List β)
  | [] => some []
  | x :: xs => match f x, mapO f xs with
    | some y, some ys => some (y :: ys)
    | _, _ => none
def toPy (st : Store) : Nat → D → Option PyData
  | _, .non => some .none
  | _, .bl b => some (.bool b)
  | _, .int i => some (.int i)
  | _, .str s => some (.str s)
  | 0, _ => none
  | n + 1, .tup xs => (mapO (toPy st n) xs).map .tuple
  | n + 1, .ref r => match st[r]? with
    | some (.lst xs) => (mapO (toPy st n) xs).map .list
    | some (.frz xs) => (mapO (toPy st n) xs).map .list
    | _ => none
end Cb

namespace Cb
open PySem PySem.Spec PyProof.Rows L2

/-! ## the code -/
inductive Bop | add | sub | mul | fdiv | mod | pow | shl | shr | band | bor | bxor
  deriving DecidableEq
inductive Cop | eq | ne | lt | le | gt | ge | isn | notn | ins | nins
  deriving DecidableEq
inductive Ty | non | bool | int | str | list | tuple | dict
  deriving DecidableEq
inductive Blt | len | int | abs | max2 | min2 | repr | tuple | list | sum | all | any | max1 | min1 | bool | range1 | range2
  deriving DecidableEq
inductive Mth | append | pop | popAt | extend
  deriving DecidableEq
/-- what a loop walks -/
inductive Ik | plain | range1 | range2 | enum | zip
  deriving DecidableEq
inductive Tg where
  | name (i : Nat)
  | nil
  | cons (t ts : Tg)
  | tup (ts : Tg)
inductive C where
  | var (i : Nat)
  | cst (d : D)
  | nil
  | cons (a as : C)
  | tup (as : C)
  | lst (as : C)
  | bin (o : Bop) (a b : C)
  | neg (a : C)
  | cmp (o : Cop) (a b : C)
  | chain (o o2 : Cop) (a b c : C)
  | chain3 (o o2 o3 : Cop) (a b c d : C)
  | and (a b : C)
  | or (a b : C)
  | tval (a : C)
  | tand (a b : C)
  | tor (a b : C)
  | tnot (a : C)
  | ite (c a b : C)
  | idx (a b : C)
  | slc (fl fh : Bool) (a lo hi : C)
  | revL (a : C)
  | call (f n m : Nat) (perm : List Nat) (as kw : C)
  | blt (b : Blt) (as : C)
  | mth (m : Mth) (o as : C)
  | isi (a : C) (ts : List Ty)
  | lc (own : List Nat) (tg : Tg) (k : Ik) (as c e : C)
  | dsp (ks : List Key) (as : C)
  | fld (a : C) (f : Str)
  | mcl (c : Kl) (m : Str) (f n : Nat) (o as : C)
  | mk (c : Kl) (f n : Nat) (as : C)
  | lc2 (own vs1 : List Nat) (tg : Tg) (k : Ik) (as c : C) (tg1 : Tg) (k1 : Ik) (as1 c1 e : C)
inductive S where
  | done
  | seq (a r : S)
  | asg (t : Tg) (e : C)
  | par (is : List Nat) (as : C)
  | sto (e a i : C)
  | sto2 (e a i b j : C)
  | aug (i : Nat) (o : Bop) (e : C)
  | sfd (e a : C) (f : Str)
  | afd (a : C) (f : Str) (o : Bop) (e : C)
  | expr (e : C)
  | ret (e : C)
  | retN
  | ite (c : C) (a b : S)
  | loop (t : Tg) (k : Ik) (as : C) (b : S)
  | whil (c : C) (b : S)
  | brk
  | cont
  | pass
  | never

/-! ## what the operations do -/
def som {α : Type} (o : Option α) (P : α → Prop) : Prop := ∃ y, o = some y ∧ P y
@[simp] theorem som_some {α : Type} {y : α} {P : α → Prop} : som (some y) P ↔ P y := by simp [som]
@[simp] theorem som_none {α : Type} {P : α → Prop} : som none P ↔ False := by simp [som]
theorem som.mk {α : Type} {o : Option α} {y : α} {P : α → Prop} (h : o = some y) (p : P y) : som o P := ⟨y, h, p⟩

def DivOk (i j : Int) : Prop := 0 < j ∧ Builtin.divisionGoesByPylong i j = false
def binS (o : Bop) (x y : D) (st : Store) (Q : K1) : Prop :=
  match o, x, y with
  | .add, .int i, .int j => Q (.int (i + j)) st
  | .sub, .int i, .int j => Q (.int (i - j)) st
  | .mul, .int i, .int j => IntMulOk i j ∧ Q (.int (i * j)) st
  | .fdiv, .int i, .int j => DivOk i j ∧ Q (.int (i / j)) st
  | .mod, .int i, .int j => 0 < j ∧ Q (.int (i % j)) st
  | .pow, .int i, .int j => CPow i j ∧ Q (.int (i ^ j.toNat)) st
  | .shl, .int i, .int j => CShl i j ∧ Q (.int (i * 2 ^ j.toNat)) st
  | .shr, .int i, .int j => 0 ≤ j ∧ Q (.int (i / 2 ^ j.toNat)) st
  | .band, .int i, .int j => Q (.int (Builtin.bitAnd i j)) st
  | .bor, .int i, .int j => Q (.int (Builtin.bitOr i j)) st
  | .bxor, .int i, .int j => Q (.int (Builtin.bitXor i j)) st
  | .add, .str a, .str b => a.length + b.length ≤ sizeLine ∧ Q (.str (a ++ b)) st
  | .add, .tup xs, .tup ys => xs.length + ys.length ≤ sizeLine ∧ Q (.tup (xs ++ ys)) st
  | .add, .ref n, .ref m => ∃ xs ys, st[n]? = some (.lst xs) ∧ st[m]? = some (.lst ys) ∧ xs.length + ys.length ≤ sizeLine ∧ Q (.ref st.length) (st ++ [.lst (xs ++ ys)])
  | .mul, .tup xs, .int k => (0 ≤ k ∧ k ≤ 1000 ∧ xs.length ≤ 1000) ∧ Q (.tup (List.replicate k.toNat xs).flatten) st
  | .mul, .ref n, .int k => ∃ xs, st[n]? = some (.lst xs) ∧ (0 ≤ k ∧ k < 2 ^ 63 ∧ xs.length * k.toNat ≤ sizeLine) ∧ Q (.ref st.length) (st ++ [.lst (List.replicate k.toNat xs).flatten])
  | _, _, _ => False
def pyEq (st : Store) (x y : D) : Option Bool :=
  match x, y with
  | .int i, .int j => some (decide (i = j))
  | .str a, .str b => some (decide (a = b))
  | .bl a, .bl b => some (decide (a = b))
  | _, _ => match toPy st 32 x, toPy st 32 y with
    | some p, some q => if (SeqAt.shaped p && SeqAt.shaped q) = true then some (PyData.eqv p q) else none
    | _, _ => none
def isNon : D → Bool
  | .non => true
  | _ => false
def getK (kvs : List (Key × D)) (k : Key) : Option D := (kvs.find? fun kv => decide (kv.1 = k)).map (·.2)
def putKD (kvs : List (Key × D)) (k : Key) (v : D) : List (Key × D) :=
  if (kvs.any fun kv => decide (kv.1 = k)) = true then kvs.map (fun kv => if kv.1 = k then (kv.1, v) else kv) else kvs ++ [(k, v)]
def keyOf : D → Option Key
  | .int i => some (.inl i)
  | .str s => some (.inr s)
  | _ => none
def cmpS (o : Cop) (x y : D) (st : Store) (Q : K1) : Prop :=
  match o with
  | .eq => som (pyEq st x y) fun b => Q (.bl b) st
  | .ne => som (pyEq st x y) fun b => Q (.bl (!b)) st
  | .lt => ∃ i j, x = .int i ∧ y = .int j ∧ Q (.bl (decide (i < j))) st
  | .le => ∃ i j, x = .int i ∧ y = .int j ∧ Q (.bl (decide (i ≤ j))) st
  | .gt => ∃ i j, x = .int i ∧ y = .int j ∧ Q (.bl (decide (j < i))) st
  | .ge => ∃ i j, x = .int i ∧ y = .int j ∧ Q (.bl (decide (j ≤ i))) st
  | .isn => (y = .non ∧ Q (.bl (isNon x)) st) ∨ ∃ a b, x = .bl a ∧ y = .bl b ∧ Q (.bl (decide (a = b))) st
  | .notn => (y = .non ∧ Q (.bl (!isNon x)) st) ∨ ∃ a b, x = .bl a ∧ y = .bl b ∧ Q (.bl (!decide (a = b))) st
  | .ins => ∃ n kvs k, y = .ref n ∧ st[n]? = some (.dct kvs) ∧ keyOf x = some k ∧ Q (.bl (getK kvs k).isSome) st
  | .nins => ∃ n kvs k, y = .ref n ∧ st[n]? = some (.dct kvs) ∧ keyOf x = some k ∧ Q (.bl (!(getK kvs k).isSome)) st
def truS (st : Store) : D → Option Bool
  | .non => some false
  | .bl b => some b
  | .int i => some (i != 0)
  | .tup xs => some (!xs.isEmpty)
  | .str _ => none
  | .ref n => match st[n]? with
    | some (.lst xs) => some (!xs.isEmpty)
    | some (.frz xs) => some (!xs.isEmpty)
    | some (.dct kvs) => some (!kvs.isEmpty)
    | some (.ins _ _) => none
    | none => none
def idxS (st : Store) : D → D → Option D
  | .tup xs, .int i => atI xs i
  | .ref n, k => match st[n]? with
    | some (.lst xs) => match k with
      | .int i => atI xs i
      | _ => none
    | some (.frz xs) => match k with
      | .int i => atI xs i
      | _ => none
    | some (.dct kvs) => match keyOf k with
      | some k => getK kvs k
      | none => none
    | some (.ins _ _) => none
    | none => none
  | _, _ => none
def cut {α : Type} (xs : List α) (lo hi : Option Int) : List α := (xs.drop (HT.sIx xs.length 0 lo)).take (HT.sIx xs.length xs.length hi - HT.sIx xs.length 0 lo)
/-- a part of a slice: none where it is left out -/
def partS : Bool → D → Option (Option Int)
  | true, .int i => some (some i)
  | false, _ => some none
  | _, _ => none
def slcS (x : D) (lo hi : Option Int) (st : Store) (Q : K1) : Prop :=
  match x with
  | .tup xs => Q (.tup (cut xs lo hi)) st
  | .ref n => match st[n]? with
    | some (.lst xs) => Q (.ref st.length) (st ++ [.lst (cut xs lo hi)])
    | some (.frz xs) => Q (.ref st.length) (st ++ [.lst (cut xs lo hi)])
    | _ => False
  | _ => False
/-- the items of a list or tuple -/
def seqS (st : Store) : D → Option (List D)
  | .tup xs => some xs
  | .ref n => match st[n]? with
    | some (.lst xs) => some xs
    | some (.frz xs) => some xs
    | _ => none
  | _ => none
def listS (st : Store) : D → Option (List D)
  | .ref n => match st[n]? with
    | some (.lst xs) => some xs
    | some (.frz xs) => some xs
    | _ => none
  | _ => none
def asBl : D → Option Bool
  | .bl b => some b
  | _ => none
def asInt : D → Option Int
  | .int i => some i
  | _ => none
def ReprOk (p : PyData) : Prop := p.showable = true ∧ p.hasDict = false ∧ p.depth ≤ 32 ∧ p.shown.length ≤ sizeLine
/-- alike data: the most of them is one of them -/
def oneOf (xs : List D) (st : Store) (Q : K1) : Prop := ∃ x ys p ps, xs = [x] ∧ listS st x = some ys ∧ mapO (toPy st 31) ys = some (p :: ps) ∧ PySem.W.AlikeAll (p :: ps) ∧ PyData.depthAll (p :: ps) ≤ 60 ∧ ∀ d, d ∈ ys → Q d st
def bltS (b : Blt) (xs : List D) (st : Store) (Q : K1) : Prop :=
  match b with
  | .len => ∃ x, xs = [x] ∧ ((∃ ys, seqS st x = some ys ∧ Q (.int ys.length) st) ∨ ∃ n kvs, x = .ref n ∧ st[n]? = some (.dct kvs) ∧ Q (.int kvs.length) st)
  | .int => (∃ i, xs = [.int i] ∧ Q (.int i) st) ∨ ∃ k, xs = [.bl k] ∧ Q (.int (if k then 1 else 0)) st
  | .bool => (∃ i, xs = [.int i] ∧ Q (.bl (i != 0)) st) ∨ ∃ k, xs = [.bl k] ∧ Q (.bl k) st
  | .abs => ∃ i, xs = [.int i] ∧ Q (.int (if i < 0 then -i else i)) st
  | .max2 => ∃ i j, xs = [.int i, .int j] ∧ Q (.int (if j > i then j else i)) st
  | .min2 => ∃ i j, xs = [.int i, .int j] ∧ Q (.int (if j < i then j else i)) st
  | .repr => ∃ x p, xs = [x] ∧ toPy st 32 x = some p ∧ ReprOk p ∧ Q (.str p.shown) st
  | .tuple => ∃ x ys, xs = [x] ∧ seqS st x = some ys ∧ Q (.tup ys) st
  | .list => ∃ x ys, xs = [x] ∧ seqS st x = some ys ∧ Q (.ref st.length) (st ++ [.lst ys])
  | .sum => ∃ x ys ns, xs = [x] ∧ listS st x = some ys ∧ mapO asInt ys = some ns ∧ Q (.int ns.sum) st
  | .all => ∃ x ys bs, xs = [x] ∧ listS st x = some ys ∧ mapO asBl ys = some bs ∧ Q (.bl (bs.all id)) st
  | .any => ∃ x ys bs, xs = [x] ∧ listS st x = some ys ∧ mapO asBl ys = some bs ∧ Q (.bl (bs.any id)) st
  | .max1 => (∃ x ys ns, xs = [x] ∧ listS st x = some ys ∧ mapO asInt ys = some ns ∧ 0 < ns.length ∧ ∀ m, m ∈ ns → (∀ y, y ∈ ns → y ≤ m) → Q (.int m) st) ∨ oneOf xs st Q
  | .min1 => (∃ x ys ns, xs = [x] ∧ listS st x = some ys ∧ mapO asInt ys = some ns ∧ 0 < ns.length ∧ ∀ m, m ∈ ns → (∀ y, y ∈ ns → m ≤ y) → Q (.int m) st) ∨ oneOf xs st Q
  | .range1 => False
  | .range2 => False
def mthS (m : Mth) (o : D) (xs : List D) (st : Store) (Q : K1) : Prop :=
  match m with
  | .append => ∃ n ys x, o = .ref n ∧ xs = [x] ∧ st[n]? = some (.lst ys) ∧ ys.length < sizeLine ∧ Q .non (st.set n (.lst (ys ++ [x])))
  | .pop => ∃ n ys y, o = .ref n ∧ xs = [] ∧ st[n]? = some (.lst ys) ∧ ys[ys.length - 1]? = some y ∧ Q y (st.set n (.lst ys.dropLast))
  | .popAt => ∃ n ys i k y, o = .ref n ∧ xs = [.int i] ∧ st[n]? = some (.lst ys) ∧ (-(2 ^ 63) ≤ i ∧ i < 2 ^ 63) ∧ seqIndex? i ys.length = some k ∧ ys[k]? = some y ∧ Q y (st.set n (.lst (ys.eraseIdx k)))
  | .extend => ∃ n ys m zs, o = .ref n ∧ xs = [.ref m] ∧ st[n]? = some (.lst ys) ∧ st[m]? = some (.lst zs) ∧ ys.length + zs.length ≤ sizeLine ∧ Q .non (st.set n (.lst (ys ++ zs)))
def tyOf (st : Store) : D → Option Ty
  | .non => some .non
  | .bl _ => some .bool
  | .int _ => some .int
  | .str _ => some .str
  | .tup _ => some .tuple
  | .ref n => match st[n]? with
    | some (.lst _) => some .list
    | some (.frz _) => some .list
    | some (.dct _) => some .dict
    | some (.ins _ _) => none
    | none => none
def isTy : Ty → Ty → Bool
  | .bool, .int => true
  | a, b => decide (a = b)
def stoS (x i v : D) (st : Store) (Q : Store → Prop) : Prop :=
  ∃ n, x = .ref n ∧ ((∃ xs k j, st[n]? = some (.lst xs) ∧ i = .int k ∧ ixN xs.length k = some j ∧ Q (st.set n (.lst (xs.set j v)))) ∨
    ∃ kvs k, st[n]? = some (.dct kvs) ∧ keyOf i = some k ∧ kvs.length < sizeLine ∧ Q (st.set n (.dct (putKD kvs k v))))
/-- an attribute -/
def fldS (st : Store) (x : D) (f : Str) : Option D := match x with
  | .ref n => match st[n]? with
    | some (.ins _ fs) => fs.lookup f
    | _ => none
  | _ => none
def sfdS (x : D) (f : Str) (v : D) (st : Store) (Q : Store → Prop) : Prop := ∃ n c fs, x = .ref n ∧ st[n]? = some (.ins c fs) ∧ f ∈ c.names ∧ fs.length < 1000 ∧ Q (st.set n (.ins c (putFD f v fs)))
/-- targets -/
def setTg : Tg → D → Env1 → Option Env1
  | .name i, d, ρ => some (ρ.set i (some d))
  | .nil, .tup [], ρ => some ρ
  | .cons t ts, .tup (d :: ds), ρ => match setTg t d ρ with
    | some ρ' => setTg ts (.tup ds) ρ'
    | none => none
  | .tup ts, .tup ds, ρ => setTg ts (.tup ds) ρ
  | _, _, _ => none
def Tg.vars : Tg → List Nat
  | .name i => [i]
  | .nil => []
  | .cons t ts => t.vars ++ ts.vars
  | .tup ts => ts.vars
def setPar : List Nat → List D → Env1 → Option Env1
  | [], [], ρ => some ρ
  | i :: is, d :: ds, ρ => setPar is ds (ρ.set i (some d))
  | _, _, _ => none
/-- what is walked -/
inductive Src where
  | seq (xs : List D)
  | live (n : Nat)
inductive ItD where
  | src (s : Src)
  | rng (lo c : Int) (n : Nat)
  | enum (s : Src)
  | zip (s t : Src)
def Src.at (st : Store) : Src → Option (List D)
  | .seq xs => some xs
  | .live n => match st[n]? with
    | some (.lst xs) => some xs
    | some (.frz xs) => some xs
    | _ => none
def srcOf (st : Store) : D → Option Src
  | .tup xs => some (.seq xs)
  | .ref n => match st[n]? with
    | some (.lst _) => some (.live n)
    | some (.frz _) => some (.live n)
    | _ => none
  | _ => none
def zipAt (xs ys : List D) (i : Nat) : Option D := match xs[i]?, ys[i]? with
  | some x, some y => some (.tup [x, y])
  | _, _ => none
def ItD.step : ItD → Nat → Store → Option (Option D)
  | .src s, i, st => (s.at st).map fun xs => xs[i]?
  | .rng lo c n, i, _ => some (if i < n then some (.int (lo + i * c)) else none)
  | .enum s, i, st => (s.at st).map fun xs => (xs[i]?).map fun d => .tup [.int i, d]
  | .zip s t, i, st => match s.at st, t.at st with
    | some xs, some ys => some (zipAt xs ys i)
    | _, _ => none
def small62 (i : Int) : Prop := -(2 ^ 62) ≤ i ∧ i < 2 ^ 62
instance (i : Int) : Decidable (small62 i) := inferInstanceAs (Decidable (_ ∧ _))
def itOf (k : Ik) (xs : List D) (st : Store) : Option ItD :=
  match k, xs with
  | .plain, [x] => (srcOf st x).map .src
  | .range1, [.int j] => if small62 j then some (.rng 0 1 j.toNat) else none
  | .range2, [.int i, .int j] => if small62 i ∧ small62 j then some (.rng i 1 (j - i).toNat) else none
  | .enum, [x] => (srcOf st x).map .enum
  | .zip, [x, y] => match srcOf st x, srcOf st y with
    | some (.seq xs), some (.seq ys) => some (.zip (.seq xs) (.seq ys))
    | some (.live n), some (.live m) => some (.zip (.live n) (.live m))
    | _, _ => none
  | _, _ => none
def wipeD (ρ : Env1) : List Nat → Env1
  | [] => ρ
  | v :: vs => (wipeD ρ vs).set v none
/-- a comprehension's turns -/
def lcLoop (step : Nat → Store → Option (Option D)) (bind : D → Option Env1) (wc we : Env1 → Store → K1 → Prop) (Q : K1) : Nat → Nat → List D → Store → Prop
  | 0, _, _, _ => False
  | n + 1, i, acc, st => match step i st with
    | none => False
    | some none => Q (.ref st.length) (st ++ [.lst acc])
    | some (some d) => som (bind d) fun ρ => wc ρ st fun b st1 => ∃ t, b = .bl t ∧
        if t = true then we ρ st1 fun y st2 => acc.length < sizeLine ∧ lcLoop step bind wc we Q n (i + 1) (acc ++ [y]) st2
        else lcLoop step bind wc we Q n (i + 1) acc st1
/-- the turns of a second clause; K: behind them -/
def lcIn (step : Nat → Store → Option (Option D)) (bind : D → Option Env1) (wc we : Env1 → Store → K1 → Prop) (K : List D → Store → Prop) : Nat → Nat → List D → Store → Prop
  | 0, _, _, _ => False
  | n + 1, i, acc, st => match step i st with
    | none => False
    | some none => K acc st
    | some (some d) => som (bind d) fun ρ => wc ρ st fun b st1 => ∃ t, b = .bl t ∧
        if t = true then we ρ st1 fun y st2 => acc.length < sizeLine ∧ lcIn step bind wc we K n (i + 1) (acc ++ [y]) st2
        else lcIn step bind wc we K n (i + 1) acc st1
/-- the turns of the first clause of two -/
def lc2Loop (step : Nat → Store → Option (Option D)) (bind : D → Option Env1) (wc : Env1 → Store → K1 → Prop) (inner : Env1 → List D → Store → (List D → Store → Prop) → Prop) (Q : K1) : Nat → Nat → List D → Store → Prop
  | 0, _, _, _ => False
  | n + 1, i, acc, st => match step i st with
    | none => False
    | some none => Q (.ref st.length) (st ++ [.lst acc])
    | some (some d) => som (bind d) fun ρ => wc ρ st fun b st1 => ∃ t, b = .bl t ∧
        if t = true then inner ρ acc st1 (lc2Loop step bind wc inner Q n (i + 1)) else lc2Loop step bind wc inner Q n (i + 1) acc st1
/-- the arguments by the parameters' order -/
def permL {α : Type} (xs : List α) : List Nat → Option (List α)
  | [] => some []
  | i :: r => match xs[i]?, permL xs r with
    | some x, some ys => some (x :: ys)
    | _, _ => none
def permN {α : Type} (n m : Nat) (xs zs : List α) (p : List Nat) : Option (List α) := if xs.length = n ∧ zs.length = m then permL (xs ++ zs) p else none

/-! ## what a code does -/
def wp (F : Fm) : C → Env1 → Store → K1 → Prop
  | .var i, ρ, st, Q => ∃ d, ρ[i]? = some (some d) ∧ Q d st
  | .cst d, _, st, Q => Q d st
  | .nil, _, st, Q => Q (.tup []) st
  | .cons a as, ρ, st, Q => wp F a ρ st fun x st1 => wp F as ρ st1 fun y st2 => ∃ xs, y = .tup xs ∧ Q (.tup (x :: xs)) st2
  | .tup as, ρ, st, Q => wp F as ρ st fun y st1 => ∃ xs, y = .tup xs ∧ xs.length ≤ sizeLine ∧ Q (.tup xs) st1
  | .lst as, ρ, st, Q => wp F as ρ st fun y st1 => ∃ xs, y = .tup xs ∧ xs.length ≤ sizeLine ∧ Q (.ref st1.length) (st1 ++ [.lst xs])
  | .bin o a b, ρ, st, Q => wp F a ρ st fun x st1 => wp F b ρ st1 fun y st2 => binS o x y st2 Q
  | .neg a, ρ, st, Q => wp F a ρ st fun x st1 => ∃ i, x = .int i ∧ Q (.int (-i)) st1
  | .cmp o a b, ρ, st, Q => wp F a ρ st fun x st1 => wp F b ρ st1 fun y st2 => cmpS o x y st2 Q
  | .chain o o2 a b c, ρ, st, Q => wp F a ρ st fun x st1 => wp F b ρ st1 fun y st2 => cmpS o x y st2 fun z st3 => ∃ t, z = .bl t ∧
      if t = true then wp F c ρ st3 fun w st4 => cmpS o2 y w st4 Q else Q (.bl false) st3
  | .chain3 o o2 o3 a b c d, ρ, st, Q => wp F a ρ st fun x st1 => wp F b ρ st1 fun y st2 => cmpS o x y st2 fun z st3 => ∃ t, z = .bl t ∧
      if t = true then wp F c ρ st3 (fun w st4 => cmpS o2 y w st4 fun z st5 => ∃ t, z = .bl t ∧ if t = true then wp F d ρ st5 fun v st6 => cmpS o3 w v st6 Q else Q (.bl false) st5) else Q (.bl false) st3
  | .and a b, ρ, st, Q => wp F a ρ st fun x st1 => som (truS st1 x) fun t => if t = true then wp F b ρ st1 Q else Q x st1
  | .or a b, ρ, st, Q => wp F a ρ st fun x st1 => som (truS st1 x) fun t => if t = true then Q x st1 else wp F b ρ st1 Q
  | .tval a, ρ, st, Q => wp F a ρ st fun x st1 => som (truS st1 x) fun t => Q (.bl t) st1
  | .tand a b, ρ, st, Q => wp F a ρ st fun x st1 => ∃ t, x = .bl t ∧ if t = true then wp F b ρ st1 Q else Q (.bl false) st1
  | .tor a b, ρ, st, Q => wp F a ρ st fun x st1 => ∃ t, x = .bl t ∧ if t = true then Q (.bl true) st1 else wp F b ρ st1 Q
  | .tnot a, ρ, st, Q => wp F a ρ st fun x st1 => ∃ t, x = .bl t ∧ Q (.bl (!t)) st1
  | .ite c a b, ρ, st, Q => wp F c ρ st fun x st1 => ∃ t, x = .bl t ∧ if t = true then wp F a ρ st1 Q else wp F b ρ st1 Q
  | .idx a b, ρ, st, Q => wp F a ρ st fun x st1 => wp F b ρ st1 fun y st2 => som (idxS st2 x y) fun z => Q z st2
  | .slc fl fh a lo hi, ρ, st, Q => wp F a ρ st fun x st1 => wp F lo ρ st1 fun l st2 => som (partS fl l) fun l => wp F hi ρ st2 fun h st3 => som (partS fh h) fun h => slcS x l h st3 Q
  | .revL a, ρ, st, Q => wp F a ρ st fun x st1 => som (listS st1 x) fun xs => Q (.ref st1.length) (st1 ++ [.lst xs.reverse])
  | .call f n m perm as kw, ρ, st, Q => wp F as ρ st fun y st1 => ∃ xs, y = .tup xs ∧ wp F kw ρ st1 fun z st2 => ∃ zs, z = .tup zs ∧ som (permN n m xs zs perm) fun ys => F f ys st2 Q
  | .blt b as, ρ, st, Q => wp F as ρ st fun y st1 => ∃ xs, y = .tup xs ∧ bltS b xs st1 Q
  | .mth m o as, ρ, st, Q => wp F o ρ st fun x st1 => som (listS st1 x) fun _ => wp F as ρ st1 fun y st2 => ∃ xs, y = .tup xs ∧ mthS m x xs st2 Q
  | .isi a ts, ρ, st, Q => wp F a ρ st fun x st1 => som (tyOf st1 x) fun t => Q (.bl (ts.any fun u => isTy t u)) st1
  | .lc own tg k as c e, ρ, st, Q => wp F as ρ st fun y st1 => ∃ xs, y = .tup xs ∧ som (itOf k xs st1) fun it =>
      ∃ n, lcLoop it.step (fun d => setTg tg d (wipeD ρ own)) (wp F c) (wp F e) Q n 0 [] st1
  | .dsp ks as, ρ, st, Q => wp F as ρ st fun y st1 => ∃ xs, y = .tup xs ∧ Q (.ref st1.length) (st1 ++ [.dct (ks.zip xs)])
  | .fld a f, ρ, st, Q => wp F a ρ st fun x st1 => som (fldS st1 x f) fun v => Q v st1
  | .mcl c m f n o as, ρ, st, Q => wp F o ρ st fun x st1 => (∃ i fs, x = .ref i ∧ st1[i]? = some (.ins c fs)) ∧ wp F as ρ st1 fun y st2 => ∃ xs, y = .tup xs ∧ xs.length = n ∧ F f (x :: xs) st2 Q
  | .mk c f n as, ρ, st, Q => wp F as ρ st fun y st1 => ∃ xs, y = .tup xs ∧ xs.length = n ∧ F f (.ref st1.length :: xs) (st1 ++ [.ins c []]) fun v st2 => v = .non ∧ Q (.ref st1.length) st2
  | .lc2 own vs1 tg k as c tg1 k1 as1 c1 e, ρ, st, Q => wp F as ρ st fun y st1 => ∃ xs, y = .tup xs ∧ som (itOf k xs st1) fun it =>
      ∃ n, lc2Loop it.step (fun d => setTg tg d (wipeD ρ own)) (wp F c) (fun ρ1 acc st2 K => wp F as1 ρ1 st2 fun y st3 => ∃ xs, y = .tup xs ∧ som (itOf k1 xs st3) fun it1 =>
        ∃ n, lcIn it1.step (fun d => setTg tg1 d (wipeD ρ1 vs1)) (wp F c1) (wp F e) K n 0 acc st3) Q n 0 [] st1

structure EndsD where
  nx : Env1 → Store → Prop
  rt : K1
  bk : Env1 → Store → Prop := fun _ _ => False
  ct : Env1 → Store → Prop := fun _ _ => False
def forLoop (step : Nat → Store → Option (Option D)) (bind : D → Env1 → Option Env1) (wb : Env1 → Store → EndsD → Prop) (E : EndsD) : Nat → Nat → Env1 → Store → Prop
  | 0, _, _, _ => False
  | n + 1, i, ρ, st => match step i st with
    | none => False
    | some none => E.nx ρ st
    | some (some d) => som (bind d ρ) fun ρ1 => wb ρ1 st { nx := forLoop step bind wb E n (i + 1), rt := E.rt, bk := E.nx, ct := forLoop step bind wb E n (i + 1) }
def whileLoop (wc : Env1 → Store → K1 → Prop) (wb : Env1 → Store → EndsD → Prop) (E : EndsD) : Nat → Env1 → Store → Prop
  | 0, _, _ => False
  | n + 1, ρ, st => wc ρ st fun x st1 => ∃ t, x = .bl t ∧ if t = true then wb ρ st1 { nx := whileLoop wc wb E n, rt := E.rt, bk := E.nx, ct := whileLoop wc wb E n } else E.nx ρ st1
def wps (F : Fm) : S → Env1 → Store → EndsD → Prop
  | .done, ρ, st, E => E.nx ρ st
  | .seq a r, ρ, st, E => wps F a ρ st { E with nx := fun ρ1 st1 => wps F r ρ1 st1 E }
  | .asg t e, ρ, st, E => wp F e ρ st fun x st1 => som (setTg t x ρ) fun ρ1 => E.nx ρ1 st1
  | .par is as, ρ, st, E => wp F as ρ st fun y st1 => ∃ xs, y = .tup xs ∧ som (setPar is xs ρ) fun ρ1 => E.nx ρ1 st1
  | .sto e a i, ρ, st, E => wp F e ρ st fun v st1 => wp F a ρ st1 fun x st2 => wp F i ρ st2 fun k st3 => stoS x k v st3 fun st4 => E.nx ρ st4
  | .sto2 e a i b j, ρ, st, E => wp F e ρ st fun y st1 => ∃ v w, y = .tup [v, w] ∧ wp F a ρ st1 fun x st2 => wp F i ρ st2 fun k st3 => stoS x k v st3 fun st4 => wp F b ρ st4 fun x' st5 => wp F j ρ st5 fun k' st6 => stoS x' k' w st6 fun st7 => E.nx ρ st7
  | .aug i o e, ρ, st, E => ∃ x, ρ[i]? = some (some x) ∧ wp F e ρ st fun y st1 => ∃ a b, x = .int a ∧ y = .int b ∧ binS o x y st1 fun z st2 => E.nx (ρ.set i (some z)) st2
  | .sfd e a f, ρ, st, E => wp F e ρ st fun v st1 => wp F a ρ st1 fun x st2 => sfdS x f v st2 fun st3 => E.nx ρ st3
  | .afd a f o e, ρ, st, E => wp F a ρ st fun x st1 => ∃ n c fs v, x = .ref n ∧ st1[n]? = some (.ins c fs) ∧ fs.lookup f = some v ∧ wp F e ρ st1 fun y st2 => ∃ i j, v = .int i ∧ y = .int j ∧ binS o v y st2 fun z st3 => ∃ fs', st3[n]? = some (.ins c fs') ∧ f ∈ c.names ∧ fs'.length < 1000 ∧ E.nx ρ (st3.set n (.ins c (putFD f z fs')))
  | .expr e, ρ, st, E => wp F e ρ st fun _ st1 => E.nx ρ st1
  | .ret e, ρ, st, E => wp F e ρ st E.rt
  | .retN, _, st, E => E.rt .non st
  | .ite c a b, ρ, st, E => wp F c ρ st fun x st1 => ∃ t, x = .bl t ∧ if t = true then wps F a ρ st1 E else wps F b ρ st1 E
  | .loop t k as b, ρ, st, E => wp F as ρ st fun y st1 => ∃ xs, y = .tup xs ∧ som (itOf k xs st1) fun it =>
      ∃ n, forLoop it.step (fun d ρ => setTg t d ρ) (wps F b) E n 0 ρ st1
  | .whil c b, ρ, st, E => ∃ n, whileLoop (wp F c) (wps F b) E n ρ st
  | .brk, ρ, st, E => E.bk ρ st
  | .cont, ρ, st, E => E.ct ρ st
  | .pass, ρ, st, E => E.nx ρ st
  | .never, _, _, _ => False
/-- the defs: how many names, the body -/
structure Fd where
  ps : Nat
  n : Nat
  body : S
def startD (n : Nat) (xs : List D) : Env1 := xs.map some ++ List.replicate (n - xs.length) none
def Run (T : Nat → Option Fd) : Nat → Fm
  | 0, _, _, _, _ => False
  | k + 1, f, xs, st, Q => som (T f) fun fd => xs.length = fd.ps ∧ wps (Run T k) fd.body (startD fd.n xs) st { nx := fun _ st1 => Q .non st1, rt := Q }
end Cb

namespace Cb
open PySem PySem.Spec PyProof.Rows L2

/-! ## the readings -/
section
variable (K : PySem.W.Frag) (F : Fm)
/-- what follows, in the heap's words -/
def Post (ι : List Addr) (H : Hp) (Q : K1) (R : VK) : Prop := ∀ v H' ι' d st', ι <+: ι' → Keep ι ι' H H' → DR K ι' H' d v → StR K ι' H' st' → Q d st' → R v H'
def PostT (ι : List Addr) (H : Hp) (Q : K1) (R : Bool → Hp → Prop) : Prop := ∀ b H' ι' st', ι <+: ι' → Keep ι ι' H H' → StR K ι' H' st' → Q (.bl b) st' → R b H'
def PostA (ι : List Addr) (H : Hp) (Q : K1) (R : List V → Hp → Prop) : Prop := ∀ vs H' ι' ds st', ι <+: ι' → Keep ι ι' H H' → DRs K ι' H' ds vs → StR K ι' H' st' → Q (.tup ds) st' → R vs H'
/-- a code's reading as an expression; as a test; as arguments -/
def TD (c : C) : TE := fun σ H R => ∃ ι ρ st Q, EnvR K ι H σ ρ ∧ StR K ι H st ∧ wp F c ρ st Q ∧ Post K ι H Q R
def TT' (c : C) : TT := fun σ H R => ∃ ι ρ st Q, EnvR K ι H σ ρ ∧ StR K ι H st ∧ wp F c ρ st Q ∧ PostT K ι H Q R
def TDA (c : C) : TA := fun σ H R => ∃ ι ρ st Q, EnvR K ι H σ ρ ∧ StR K ι H st ∧ wp F c ρ st Q ∧ PostA K ι H Q R
/-- by values -/
def TV (f : D → Store → K1 → Prop) : V → Hp → VK → Prop := fun x H R => ∃ ι d st Q, StR K ι H st ∧ DR K ι H d x ∧ f d st Q ∧ Post K ι H Q R
def TV2 (f : D → D → Store → K1 → Prop) : R2 := fun x y H R => ∃ ι d e st Q, StR K ι H st ∧ DR K ι H d x ∧ DR K ι H e y ∧ f d e st Q ∧ Post K ι H Q R
def TVs (f : List D → Store → K1 → Prop) : List V → Hp → VK → Prop := fun xs H R => ∃ ι ds st Q, StR K ι H st ∧ DRs K ι H ds xs ∧ f ds st Q ∧ Post K ι H Q R
end
section
variable {K : PySem.W.Frag} {F : Fm} {ι ι1 : List Addr} {H H1 : Hp} {Q : K1} {R : VK}
theorem Post.shift (p : Post K ι H Q R) (h : ι <+: ι1) (k : Keep ι ι1 H H1) : Post K ι1 H1 Q R :=
  fun v H' ι' d st' h' k' => p v H' ι' d st' (h.trans h') (k.trans k')
theorem PostT.shift {R : Bool → Hp → Prop} (p : PostT K ι H Q R) (h : ι <+: ι1) (k : Keep ι ι1 H H1) : PostT K ι1 H1 Q R :=
  fun v H' ι' st' h' k' => p v H' ι' st' (h.trans h') (k.trans k')
theorem PostA.shift {R : List V → Hp → Prop} (p : PostA K ι H Q R) (h : ι <+: ι1) (k : Keep ι ι1 H H1) : PostA K ι1 H1 Q R :=
  fun v H' ι' d st' h' k' => p v H' ι' d st' (h.trans h') (k.trans k')
/-- the end of a road: a value, nothing changed -/
theorem Post.fin (p : Post K ι H Q R) {d : D} {v : V} {st : Store} (hd : DR K ι H d v) (hs : StR K ι H st) (q : Q d st) : R v H := p v H ι d st (List.prefix_refl _) (.refl H) hd hs q
/-- a new tuple -/
theorem Post.tup (p : Post K ι H Q R) {ds : List D} {vs : List V} {st : Store} (hd : DRs K ι H ds vs) (hs : StR K ι H st) (q : Q (.tup ds) st) : ∀ a, H a = none → R (.ref a) (upd H a (.tup vs)) := fun a ha =>
  p _ _ ι (.tup ds) st (List.prefix_refl _) (.new1 ha) (.tup (.inl (.inl upd_same)) (hd.mono (List.prefix_refl _) (.new ha))) (hs.newTup ha) q
theorem cellR_lst {a : Addr} {ds : List D} {vs : List V} (h : H a = some (.lst vs)) (d : DRs K ι H ds vs) : CellR K ι H a (.lst ds) := ⟨vs, h, d⟩
/-- a new list -/
theorem Post.lst (p : Post K ι H Q R) {ds : List D} {vs : List V} {st : Store} (hd : DRs K ι H ds vs) (hs : StR K ι H st) (q : Q (.ref st.length) (st ++ [.lst ds])) : ∀ a, H a = none → R (.ref a) (upd H a (.lst vs)) := fun a ha =>
  p _ _ (ι ++ [a]) (.ref st.length) _ (List.prefix_append _ _) (.newC ha) (.last hs) (hs.newCell ha (cellR_lst upd_same (hd.mono (List.prefix_append _ _) (.new ha)))) q
/-- a list changed -/
theorem lst_put {st : Store} {n : Nat} {a : Addr} {es : List D} {vs ws : List V} (hs : StR K ι H st) (hn : ι[n]? = some a) (ha : H a = some (.lst vs)) (hd : DRs K ι H es ws) : Keep ι ι H (upd H a (.lst ws)) ∧ StR K ι (upd H a (.lst ws)) (st.set n (.lst es)) := by
  have k : Keep ι ι H (upd H a (.lst ws)) := .upd (List.mem_of_getElem? hn) ha (fun _ h => by cases h) fun _ _ h => by cases h
  exact ⟨k, hs.put hn k (cellR_lst upd_same (hd.mono (List.prefix_refl _) k))⟩
theorem _root_.L2.PE.weak {X : Cx} {e : Expr} {t t' : TE} (h : PE X e t) (w : ∀ σ H Q, t' σ H Q → t σ H Q) : PE X e t' := ⟨fun pins s σ H Q I q => h.run pins s σ H Q I (w _ _ _ q)⟩
theorem _root_.L2.PT.weak {X : Cx} {e : Expr} {t t' : TT} (h : PT X e t) (w : ∀ σ H Q, t' σ H Q → t σ H Q) : PT X e t' := ⟨fun pins s σ H Q I q => h.run pins s σ H Q I (w _ _ _ q)⟩
theorem _root_.L2.PA.weak {X : Cx} {e : List Expr} {t t' : TA} (h : PA X e t) (w : ∀ σ H Q, t' σ H Q → t σ H Q) : PA X e t' := ⟨fun pos pins s σ H Q I q => h.run pos pins s σ H Q I (w _ _ _ q)⟩
theorem _root_.L2.PS.weak {X : Cx} {e : Stmt} {t t' : TS} (h : PS X e t) (w : ∀ D σ H, t' D σ H → t D σ H) : PS X e t' := ⟨fun pins s σ H D I q => h.run pins s σ H D I (w _ _ _ q)⟩
theorem _root_.L2.PSs.weak {X : Cx} {e : List Stmt} {t t' : TS} (h : PSs X e t) (w : ∀ D σ H, t' D σ H → t D σ H) : PSs X e t' := ⟨fun pins s σ H D I q => h.run pins s σ H D I (w _ _ _ q)⟩
/-- one after the other -/
theorem TD.go {c : C} {ρ : Env1} {st : Store} {σ : L2.St} (e : EnvR K ι H σ ρ) (s : StR K ι H st) {Q' : K1} (w : wp F c ρ st Q')
    (k : ∀ v H' ι' d st', ι <+: ι' → Keep ι ι' H H' → EnvR K ι' H' σ ρ → DR K ι' H' d v → StR K ι' H' st' → Q' d st' → R v H') : TD K F c σ H R :=
  ⟨ι, ρ, st, Q', e, s, w, fun v H' ι' d st' h1 h2 h3 h4 q => k v H' ι' d st' h1 h2 (e.mono h1 h2) h3 h4 q⟩
theorem TT'.go {R : Bool → Hp → Prop} {c : C} {ρ : Env1} {st : Store} {σ : L2.St} (e : EnvR K ι H σ ρ) (s : StR K ι H st) {Q' : K1} (w : wp F c ρ st Q')
    (k : ∀ b H' ι' st', ι <+: ι' → Keep ι ι' H H' → EnvR K ι' H' σ ρ → StR K ι' H' st' → Q' (.bl b) st' → R b H') : TT' K F c σ H R :=
  ⟨ι, ρ, st, Q', e, s, w, fun v H' ι' st' h1 h2 h4 q => k v H' ι' st' h1 h2 (e.mono h1 h2) h4 q⟩
theorem TDA.go {R : List V → Hp → Prop} {c : C} {ρ : Env1} {st : Store} {σ : L2.St} (e : EnvR K ι H σ ρ) (s : StR K ι H st) {Q' : K1} (w : wp F c ρ st Q')
    (k : ∀ v H' ι' d st', ι <+: ι' → Keep ι ι' H H' → EnvR K ι' H' σ ρ → DRs K ι' H' d v → StR K ι' H' st' → Q' (.tup d) st' → R v H') : TDA K F c σ H R :=
  ⟨ι, ρ, st, Q', e, s, w, fun v H' ι' d st' h1 h2 h3 h4 q => k v H' ι' d st' h1 h2 (e.mono h1 h2) h3 h4 q⟩
end

/-! ## names, constants, displays -/
section
variable {X : Cx} {F : Fm} {a b c e : Expr} {es : List Expr} {ca cb cc ce : C} {pos : Pos}
theorem d_var {i : Nat} {x : Str} (hN : X.N[i]? = some x) (hv : Vis X.env.scope x) (hd : (x == ("__debug__" : Str)) = false) (hcd : (x == ("__classdict__" : Str)) = false) : PE X (.Name x pos) (TD X.K F (.var i)) :=
  (pe_var hN hv hd hcd).weak fun σ H R ⟨ι, ρ, st, Q, e, s, ⟨d, h, q⟩, p⟩ => by
    obtain ⟨v, h1, h2⟩ := e.get i d h
    exact ⟨v, h1, p.fin h2 s q⟩
theorem d_int {i : Int} {j : Nat} : PE X (.Constant (.int i) j pos) (TD X.K F (.cst (.int i))) := pe_int.weak fun σ H R ⟨ι, ρ, st, Q, e, s, q, p⟩ => p.fin (.int i) s q
theorem d_bl {i : Bool} {j : Nat} : PE X (.Constant (.bool i) j pos) (TD X.K F (.cst (.bl i))) := pe_bl.weak fun σ H R ⟨ι, ρ, st, Q, e, s, q, p⟩ => p.fin (.bl i) s q
theorem d_non {j : Nat} : PE X (.Constant .none j pos) (TD X.K F (.cst .non)) := pe_non.weak fun σ H R ⟨ι, ρ, st, Q, e, s, q, p⟩ => p.fin .non s q
theorem d_str {i : Str} {j : Nat} : PE X (.Constant (.str i) j pos) (TD X.K F (.cst (.str i))) := pe_str.weak fun σ H R ⟨ι, ρ, st, Q, e, s, q, p⟩ => p.fin (.str i) s q
/-- a module's constant -/
theorem d_glob {x : Str} {v : V} {u : Value} {d : D} (hg : Gl X x) (hm : X.mg x = some u) (r : RelV v u) (hd : ∀ H, DR X.K [] H d v) (hdb : (x == ("__debug__" : Str)) = false) : PE X (.Name x pos) (TD X.K F (.cst d)) :=
  (pe_glob hg hm r hdb).weak fun σ H R ⟨ι, ρ, st, Q, e, s, q, p⟩ => p.fin ((hd H).mono (List.nil_prefix) (KeepT.refl H)) s q
theorem a_nil : PA X [] (TDA X.K F .nil) := pa_nil.weak fun σ H R ⟨ι, ρ, st, Q, e, s, q, p⟩ => p [] H ι [] st (List.prefix_refl _) (.refl H) .nil s q
theorem a_cons (ha : PE X a (TD X.K F ca)) (hr : PA X es (TDA X.K F ce)) (hs : starEach (a :: es) X.env = (false, eval a X.env) :: starEach es X.env) : PA X (a :: es) (TDA X.K F (.cons ca ce)) :=
  (pa_cons ha hr hs).weak fun σ H R ⟨ι, ρ, st, Q, e, s, q, p⟩ => .go e s q fun v H1 ι1 d st1 h1 k1 e1 d1 s1 q1 =>
    .go e1 s1 q1 fun vs H2 ι2 ds st2 h2 k2 e2 d2 s2 q2 => by
      obtain ⟨xs, e3, q3⟩ := q2
      cases e3
      exact p (v :: vs) H2 ι2 (d :: ds) st2 (h1.trans h2) (k1.trans k2) (.cons (d1.mono h2 k2) d2) s2 q3
theorem d_tup {j : Nat} (ha : PA X es (TDA X.K F ca)) : PE X (.Tuple es j pos) (TD X.K F (.tup ca)) :=
  (pe_tup ha).weak fun σ H R ⟨ι, ρ, st, Q, e, s, q, p⟩ => .go e s q fun vs H1 ι1 ds st1 h1 k1 e1 d1 s1 q1 => by
    obtain ⟨xs, e2, hl, q2⟩ := q1
    cases e2
    exact ⟨by rw [← d1.len]; exact hl, (p.shift h1 k1).tup d1 s1 q2⟩
theorem d_lst (ha : PA X es (TDA X.K F ca)) : PE X (.List es pos) (TD X.K F (.lst ca)) :=
  (pe_lst ha).weak fun σ H R ⟨ι, ρ, st, Q, e, s, q, p⟩ => .go e s q fun vs H1 ι1 ds st1 h1 k1 e1 d1 s1 q1 => by
    obtain ⟨xs, e2, hl, q2⟩ := q1
    cases e2
    exact ⟨by rw [← d1.len]; exact hl, (p.shift h1 k1).lst d1 s1 q2⟩

/-! ## operators -/
def bopOf : Operator → Option Bop
  | .Add => some .add | .Sub => some .sub | .Mult => some .mul | .FloorDiv => some .fdiv | .Mod => some .mod | .Pow => some .pow
  | .LShift => some .shl | .RShift => some .shr | .BitAnd => some .band | .BitOr => some .bor | .BitXor => some .bxor
  | _ => none
theorem op_mulG : OpR X (binaryOp .Mult) (rI IntMulOk fun i j => .int (i * j)) := opI fun _ _ _ _ _ _ _ hc q => mul_int q hc
theorem op_fdivG : OpR X (binaryOp .FloorDiv) (rI DivOk fun i j => .int (i / j)) := opI fun i j _ _ _ _ _ hc q => by
  have h1 : (0 : Int) < j := hc.1
  refine floordiv_int (by omega) ?_ (.inl hc.2)
  rw [Int.fdiv_eq_ediv_of_nonneg _ (by omega)]
  exact q
theorem cell_lst {K : PySem.W.Frag} {ι : List Addr} {H : Hp} {st : Store} (s : StR K ι H st) {n : Nat} {a : Addr} {xs : List D} (h : ι[n]? = some a) (e : st[n]? = some (.lst xs)) : ∃ vs, H a = some (.lst vs) ∧ DRs K ι H xs vs := s.at e h
end
end Cb

namespace Cb
open PySem PySem.Spec PyProof.Rows L2
/-! ## tuple * int, few times -/
theorem tuple_mul1 (l : Addr) (items : Array Value) (n : Nat) (dd : Option Addr) (sl : Array (Option Value)) (x : Int) (u : Tok) (c0 : (decide (x < -(2 ^ 63)) || decide (x ≥ 2 ^ 63)) = false) (c1 : (items.isEmpty || x == 1) = true) :
    Meets (Builtin.«tuple.__mul__» ⟨[.ref l, .int x u], []⟩) (fun _ R s => s.heap.get? l = some { cls := .type "tuple", dict := dd, data := .seq items n, slots := sl } ∧ R (.ok (.ret (Value.ref l))) s) :=
  .of_wp fun prog w A R s h => by
    obtain ⟨hp, g, d, tk, os⟩ := s
    obtain ⟨hl, h⟩ := h
    have f1 := AutoSeq1.idx_int
    wp_walk using wpAny_loadPart' hl
    repeat (first
      | (refine wpAny_ite_false (decide_eq_false (by rw [c0]; exact Bool.false_ne_true)) ?_; wp_walk using wpAny_loadPart' hl)
      | (refine wpAny_ite_true (decide_eq_true c1) ?_; wp_walk using wpAny_loadPart' hl))
    exact ⟨_, rfl, h⟩
theorem tuple_mul0 (l : Addr) (items : Array Value) (n : Nat) (dd : Option Addr) (sl : Array (Option Value)) (x : Int) (u : Tok) (c0 : (decide (x < -(2 ^ 63)) || decide (x ≥ 2 ^ 63)) = false) (c1 : (items.isEmpty || x == 1) = false) (c2 : (decide (x ≤ 0) || items.isEmpty) = true) :
    Meets (Builtin.«tuple.__mul__» ⟨[.ref l, .int x u], []⟩) (fun _ R s => s.heap.get? l = some { cls := .type "tuple", dict := dd, data := .seq items n, slots := sl } ∧ R (.ok (.ret (Value.ref s.heap.objs.size))) { s with heap := s.heap.push { cls := Value.type "tuple", data := Data.seq #[] }, toks := s.toks }) :=
  .of_wp fun prog w A R s h => by
    obtain ⟨hp, g, d, tk, os⟩ := s
    obtain ⟨hl, h⟩ := h
    have f1 := AutoSeq1.idx_int
    wp_walk using wpAny_loadPart' hl
    repeat (first
      | (refine wpAny_ite_false (decide_eq_false (by rw [c0]; exact Bool.false_ne_true)) ?_; wp_walk using wpAny_loadPart' hl)
      | (refine wpAny_ite_false (decide_eq_false (by rw [c1]; exact Bool.false_ne_true)) ?_; wp_walk using wpAny_loadPart' hl)
      | (refine wpAny_ite_true (decide_eq_true c2) ?_; wp_walk using wpAny_loadPart' hl))
    exact ⟨_, rfl, h⟩

def rRepA (K : PySem.W.Frag) : R2 := fun x y H Q => ∃ l k xs, x = .ref l ∧ y = .int k ∧ SqT K H l xs ∧ 0 ≤ k ∧ k ≤ 1000 ∧ xs.length ≤ 1000 ∧
  ((xs = [] ∨ k = 1) → Q (.ref l) H) ∧ (xs ≠ [] → k = 0 → ∀ p, H p = none → Q (.ref p) (upd H p (.tup []))) ∧ (xs ≠ [] → 2 ≤ k → ∀ p, H p = none → Q (.ref p) (upd H p (.tup (List.replicate k.toNat xs).flatten)))
theorem op_repA {X : Cx} : OpR X (binaryOp .Mult) (rRepA X.K) := by
  intro pins s σ H x y v u Q I rx ry h
  obtain ⟨l, k, xs, rfl, rfl, hT, h0, h2, hz, q1, q2, q3⟩ := h
  by_cases hbig : xs ≠ [] ∧ 2 ≤ k
  · exact op_repT pins s σ H _ _ v u Q I rx ry ⟨l, k, xs, rfl, rfl, hT, hbig.1, hbig.2, h2, hz, q3 hbig.1 hbig.2⟩
  cases rx
  obtain ⟨t, rfl⟩ := ry
  obtain ⟨its, r, ⟨⟨cls, dd, data, sl⟩, ho, hc, n, hd⟩, hs⟩ := I.tuple hT
  simp only at hc hd
  subst hc hd
  have hle : its.length = xs.length := r.length.symm
  have c0 : (decide (k < -(2 ^ 63)) || decide (k ≥ 2 ^ 63)) = false := by
    rw [Bool.or_eq_false_iff]
    exact ⟨decide_eq_false (by omega), decide_eq_false (by omega)⟩
  refine wpAny_binaryOp_repeat_ref (T := "tuple") (U := "int") (by decide) ⟨_, ho, rfl⟩ (fun s' => typeIs_int s' k t) noFill_tuple_mul F.fills_int_mul F.slot_int_rmul repeat_tuple F.slot_int_index.lookup
    (call_meets F.slot_int_rmul (typeIs_int s k t) F.entry_int_rmul (F.args_int_rmul_2 _ _) (int_rmul_tuple k t l its.toArray n dd sl) ⟨ho, rfl, ⟨_, ho, rfl⟩, ?_⟩)
  by_cases h1 : xs = [] ∨ k = 1
  · have c1 : (its.toArray.isEmpty || k == 1) = true := by
      rw [Bool.or_eq_true]
      rcases h1 with e | e
      · left
        subst e
        cases its with
        | nil => rfl
        | cons a b => simp at hle
      · right
        rw [e]
        rfl
    exact call_meets F.slot_tuple_mul ⟨_, ho, rfl⟩ F.entry_tuple_mul (F.args_tuple_mul_2 _ _) (tuple_mul1 l its.toArray n dd sl k t c0 c1) ⟨ho, ⟨.ref l, H, I, rfl, q1 h1⟩⟩
  · have hne : xs ≠ [] := fun e => h1 (.inl e)
    have hk : k = 0 := by
      have a1 : k ≠ 1 := fun e => h1 (.inr e)
      have a2 : ¬ 2 ≤ k := fun e => hbig ⟨hne, e⟩
      omega
    have c1 : (its.toArray.isEmpty || k == 1) = false := by
      rw [hk, Bool.or_eq_false_iff]
      refine ⟨?_, rfl⟩
      cases its with
      | nil => exact absurd (List.eq_nil_of_length_eq_zero hle.symm) hne
      | cons a b => rfl
    have c2 : (decide (k ≤ 0) || its.toArray.isEmpty) = true := by
      rw [hk]
      rfl
    refine call_meets F.slot_tuple_mul ⟨_, ho, rfl⟩ F.entry_tuple_mul (F.args_tuple_mul_2 _ _) (tuple_mul0 l its.toArray n dd sl k t c0 c1 c2) ⟨ho, ?_⟩
    refine ⟨.ref s.heap.objs.size, _, I.laid (t' := s.toks) (o := .tup []) (fun b ob q => Heap.get?_push_of_some _ q) (Nat.le_refl _) ?_, rfl, q2 hne hk _ (I.hok.fresh (Nat.le_refl _))⟩
    exact ⟨Nat.zero_le _, [], .nil, IsTup.new _ _⟩

/-! ## operators -/
def opOfB : Bop → Operator
  | .add => .Add | .sub => .Sub | .mul => .Mult | .fdiv => .FloorDiv | .mod => .Mod | .pow => .Pow
  | .shl => .LShift | .shr => .RShift | .band => .BitAnd | .bor => .BitOr | .bxor => .BitXor
theorem opB {X : Cx} (o : Bop) : OpR X (binaryOp (opOfB o)) (TV2 X.K (binS o)) := by
  intro pins s σ H x y v u R I rx ry ⟨ι, d, e, st, Q, hs, hd, he, hb, hp⟩
  cases o <;> cases hd <;> cases he <;> try exact False.elim hb
  -- add
  · exact op_add pins s σ H _ _ v u R I rx ry ⟨_, _, rfl, rfl, hp.fin (.int _) hs hb⟩
  · exact op_add_str pins s σ H _ _ v u R I rx ry ⟨_, _, rfl, rfl, hb.1, hp.fin (.str _) hs hb.2⟩
  · rename_i a vs ds h1 h2 b ws es h3 h4
    obtain ⟨hl, q⟩ : ds.length + es.length ≤ sizeLine ∧ Q (.tup (ds ++ es)) st := hb
    refine op_catA pins s σ H _ _ v u R I rx ry ⟨a, b, vs, ws, rfl, rfl, h1, h3, by rw [← h2.len, ← h4.len]; exact hl, fun e => ?_, fun _ e => ?_, fun _ _ p hp' => ?_⟩
    · subst e
      cases h2
      exact hp.fin (.tup h3 h4) hs q
    · subst e
      cases h4
      rw [List.append_nil] at q
      exact hp.fin (.tup h1 h2) hs q
    · exact hp.tup (h2.append h4) hs q p hp'
  · rename_i n a h1 m b h2
    obtain ⟨xs, ys, e1, e2, hl, q⟩ := hb
    obtain ⟨vs, g1, r1⟩ := cell_lst hs h1 e1
    obtain ⟨ws, g2, r2⟩ := cell_lst hs h2 e2
    exact op_cat pins s σ H _ _ v u R I rx ry ⟨a, b, vs, ws, rfl, rfl, g1, g2, by rw [← r1.len, ← r2.len]; exact hl, hp.lst (r1.append r2) hs q⟩
  -- sub
  · exact op_sub pins s σ H _ _ v u R I rx ry ⟨_, _, rfl, rfl, hp.fin (.int _) hs hb⟩
  -- mul
  · exact op_mulG pins s σ H _ _ v u R I rx ry ⟨_, _, rfl, rfl, hb.1, hp.fin (.int _) hs hb.2⟩
  · rename_i a vs ds h1 h2 k
    obtain ⟨⟨hk0, hk, hl⟩, q⟩ := hb
    refine op_repA pins s σ H _ _ v u R I rx ry ⟨a, k, vs, rfl, rfl, h1, hk0, hk, by rw [← h2.len]; exact hl, fun e => ?_, fun _ e => ?_, fun _ h2k p hp' => ?_⟩
    · rcases e with e | e
      · subst e
        cases h2
        rw [show (List.replicate k.toNat ([] : List D)).flatten = [] by simp] at q
        exact hp.fin (.tup h1 .nil) hs q
      · subst e
        rw [show (List.replicate (1 : Int).toNat ds).flatten = ds by simp] at q
        exact hp.fin (.tup h1 h2) hs q
    · subst e
      exact hp.tup .nil hs q
    · exact hp.tup (h2.repl k.toNat) hs q p hp'
  · rename_i n a h1 k
    obtain ⟨xs, e1, ⟨hk, hk2, hl⟩, q⟩ := hb
    obtain ⟨vs, g1, r1⟩ := cell_lst hs h1 e1
    exact op_rep pins s σ H _ _ v u R I rx ry ⟨a, k, vs, rfl, rfl, g1, by omega, hk2, by rw [← r1.len]; exact hl, hp.lst (r1.repl _) hs q⟩
  -- //, %, **, <<, >>, &, |, ^
  · exact op_fdivG pins s σ H _ _ v u R I rx ry ⟨_, _, rfl, rfl, hb.1, hp.fin (.int _) hs hb.2⟩
  · exact op_mod pins s σ H _ _ v u R I rx ry ⟨_, _, rfl, rfl, hb.1, hp.fin (.int _) hs hb.2⟩
  · exact op_pow pins s σ H _ _ v u R I rx ry ⟨_, _, rfl, rfl, hb.1, hp.fin (.int _) hs hb.2⟩
  · exact op_shlW pins s σ H _ _ v u R I rx ry ⟨_, _, rfl, rfl, hb.1, hp.fin (.int _) hs hb.2⟩
  · exact op_shr pins s σ H _ _ v u R I rx ry ⟨_, _, rfl, rfl, hb.1, hp.fin (.int _) hs hb.2⟩
  · exact op_and pins s σ H _ _ v u R I rx ry ⟨_, _, rfl, rfl, hp.fin (.int _) hs hb⟩
  · exact op_or pins s σ H _ _ v u R I rx ry ⟨_, _, rfl, rfl, hp.fin (.int _) hs hb⟩
  · exact op_xor pins s σ H _ _ v u R I rx ry ⟨_, _, rfl, rfl, hp.fin (.int _) hs hb⟩
end Cb

namespace Cb
open PySem PySem.Spec PyProof.Rows L2
/-! ## the data as a whole -/
section
variable {K : PySem.W.Frag} {ι : List Addr} {H : Hp} {st : Store}
theorem mapO_cons {α β : Type} {f : α → Option β} {x : α} {xs : List α} {zs : List β} (h : mapO f (x :: xs) = some zs) : ∃ y ys, f x = some y ∧ mapO f xs = some ys ∧ zs = y :: ys := by
  unfold mapO at h
  cases e : f x with
  | none => rw [e] at h; cases h
  | some y =>
    cases e2 : mapO f xs with
    | none => rw [e, e2] at h; cases h
    | some ys => rw [e, e2] at h; cases h; exact ⟨y, ys, rfl, rfl, rfl⟩
theorem dps_of {f : D → Option PyData} (hf : ∀ (d : D) (v : V) (p : PyData), DR K ι H d v → f d = some p → Dp K H v p) : ∀ {ds : List D} {vs : List V} {ps : List PyData}, DRs K ι H ds vs → mapO f ds = some ps → DpAll K H vs ps
  | _, _, _, .nil, h => by cases h; exact .nil
  | _, _, _, .cons r t, h => by
    obtain ⟨y, ys, e1, e2, rfl⟩ := mapO_cons h
    exact .cons (hf _ _ _ r e1) (dps_of hf t e2)
theorem dp_of (hs : StR K ι H st) : ∀ (n : Nat) (d : D) (v : V) (p : PyData), DR K ι H d v → toPy st n d = some p → Dp K H v p
  | n, .non, v, p, r, h => by cases n <;> (cases h; cases r; exact .non)
  | n, .bl b, v, p, r, h => by cases n <;> (cases h; cases r; exact .bl b)
  | n, .int b, v, p, r, h => by cases n <;> (cases h; cases r; exact .int b)
  | n, .str b, v, p, r, h => by cases n <;> (cases h; cases r; exact .str b)
  | 0, .tup xs, v, p, r, h => by cases h
  | 0, .ref xs, v, p, r, h => by cases h
  | n + 1, .tup xs, v, p, r, h => by
    cases r with
    | tup h1 h2 =>
      simp only [toPy] at h
      cases e : mapO (toPy st n) xs with
      | none => rw [e] at h; cases h
      | some ps =>
        rw [e] at h
        cases h
        exact .tup h1 (dps_of (dp_of hs n) h2 e)
  | n + 1, .ref m, v, p, r, h => by
    cases r with
    | @ref _ a h1 =>
      simp only [toPy] at h
      split at h
      · rename_i xs e0
        cases e : mapO (toPy st n) xs with
        | none => rw [e] at h; cases h
        | some ps =>
          rw [e] at h
          cases h
          obtain ⟨vs, g, r⟩ := hs.at e0 h1
          exact .lst (.inl (.inl g)) (dps_of (dp_of hs n) r e)
      · rename_i xs e0
        cases e : mapO (toPy st n) xs with
        | none => rw [e] at h; cases h
        | some ps =>
          rw [e] at h
          cases h
          obtain ⟨o, vs, g, r⟩ := hs.at e0 h1
          exact .lst (.inl (.inr ⟨o, g⟩)) (dps_of (dp_of hs n) r e)
      · cases h
theorem getK_of {k : Key} : ∀ {kvs : List (Key × D)} {vs : List (Key × V)}, DKs K ι H kvs vs → match getK kvs k with
    | some d => ∃ v, valV vs k = some v ∧ DR K ι H d v
    | none => valV vs k = none
  | _, _, .nil => rfl
  | _, _, @DKs.cons _ _ _ k' d ds v vs r t => by
    have ih := getK_of (k := k) t
    unfold getK at ih ⊢
    rw [List.find?_cons]
    by_cases e : k' = k
    · simp only [e, decide_true]
      exact ⟨v, valV_pos (p := (k, v)) rfl, r⟩
    · simp only [e, decide_false]
      rw [show valV ((k', v) :: vs) k = valV vs k from valV_neg e]
      exact ih
theorem getK_some {k : Key} {kvs : List (Key × D)} {vs : List (Key × V)} {d : D} (h : DKs K ι H kvs vs) (e : getK kvs k = some d) : ∃ v, valV vs k = some v ∧ DR K ι H d v := by
  have := getK_of (k := k) h
  rw [e] at this
  exact this
theorem getK_isSome {k : Key} {kvs : List (Key × D)} {vs : List (Key × V)} (h : DKs K ι H kvs vs) : (valV vs k).isSome = (getK kvs k).isSome := by
  have := getK_of (k := k) h
  cases e : getK kvs k with
  | none => rw [e] at this; rw [this]; rfl
  | some d => rw [e] at this; obtain ⟨v, e2, _⟩ := this; rw [e2]; rfl
theorem DKs.put {k : Key} {d : D} {v : V} (hd : DR K ι H d v) {kvs : List (Key × D)} {vs : List (Key × V)} (h : DKs K ι H kvs vs) : DKs K ι H (putKD kvs k d) (putK vs k v) := by
  have e1 : ∀ {kvs : List (Key × D)} {vs : List (Key × V)}, DKs K ι H kvs vs → (kvs.any fun kv => decide (kv.1 = k)) = vs.any fun kv => decide (kv.1 = k) := by
    intro kvs vs h
    induction h with
    | nil => rfl
    | cons r t ih => simp only [List.any_cons, ih]
  have e2 : ∀ {kvs : List (Key × D)} {vs : List (Key × V)}, DKs K ι H kvs vs → DKs K ι H (kvs.map fun kv => if kv.1 = k then (kv.1, d) else kv) (vs.map fun kv => if kv.1 = k then (kv.1, v) else kv) := by
    intro kvs vs h
    induction h with
    | nil => exact .nil
    | @cons k' d' ds v' vs r t ih =>
      simp only [List.map_cons]
      by_cases e : k' = k
      · rw [if_pos e, if_pos e]
        exact .cons hd ih
      · rw [if_neg e, if_neg e]
        exact .cons r ih
  have e3 : ∀ {kvs : List (Key × D)} {vs : List (Key × V)}, DKs K ι H kvs vs → DKs K ι H (kvs ++ [(k, d)]) (vs ++ [(k, v)]) := by
    intro kvs vs h
    induction h with
    | nil => exact .cons hd .nil
    | cons r t ih => exact .cons r ih
  unfold putKD putK
  rw [e1 h]
  by_cases hb : (vs.any fun kv => decide (kv.1 = k)) = true
  · rw [if_pos hb, if_pos hb]
    exact e2 h
  · rw [if_neg hb, if_neg hb]
    exact e3 h
theorem keyOf_rel {d : D} {v : V} {k : Key} (r : DR K ι H d v) (e : keyOf d = some k) : v = kV k := by
  cases r <;> cases e <;> rfl
theorem non_rel {d : D} {v : V} (r : DR K ι H d v) : decide (v = .non) = isNon d := by
  cases r <;> rfl
/-- a list or a tuple that is read -/
theorem listS_of (hs : StR K ι H st) {d : D} {v : V} {xs : List D} (r : DR K ι H d v) (e : listS st d = some xs) : ∃ a vs, v = .ref a ∧ SqL K H a vs ∧ DRs K ι H xs vs := by
  cases r with
  | @ref n a h1 =>
    simp only [listS] at e
    split at e
    · rename_i ys e0
      cases e
      obtain ⟨vs, g, r⟩ := hs.at e0 h1
      exact ⟨a, vs, rfl, .inl (.inl g), r⟩
    · rename_i ys e0
      cases e
      obtain ⟨o, vs, g, r⟩ := hs.at e0 h1
      exact ⟨a, vs, rfl, .inl (.inr ⟨o, g⟩), r⟩
    · cases e
  | _ => cases e
theorem seqS_of (hs : StR K ι H st) {d : D} {v : V} {xs : List D} (r : DR K ι H d v) (e : seqS st d = some xs) : ∃ a vs, v = .ref a ∧ (SqL K H a vs ∨ SqT K H a vs) ∧ DRs K ι H xs vs := by
  cases r with
  | @ref n a h1 =>
    obtain ⟨a', vs, e1, h, r⟩ := listS_of (d := .ref n) hs (.ref h1) (show listS st (.ref n) = some xs by simpa only [seqS, listS] using e)
    exact ⟨a', vs, e1, .inl h, r⟩
  | @tup a vs ds h1 h2 =>
    cases e
    exact ⟨a, vs, rfl, .inr h1, h2⟩
  | _ => cases e
theorem DRs.isEmpty {xs : List D} {vs : List V} (r : DRs K ι H xs vs) : (!vs.isEmpty) = !xs.isEmpty := by cases r <;> rfl
theorem DKs.isEmpty {xs : List (Key × D)} {vs : List (Key × V)} (r : DKs K ι H xs vs) : (!vs.isEmpty) = !xs.isEmpty := by cases r <;> rfl
theorem tru_of (hs : StR K ι H st) {d : D} {v : V} {t : Bool} (r : DR K ι H d v) (e : truS st d = some t) : TruV K v H t := by
  cases r with
  | non => cases e; rfl
  | bl b => cases e; rfl
  | int i => cases e; rfl
  | str s => cases e
  | @tup a vs ds h1 h2 =>
    cases e
    exact .inr (.inl ⟨vs, h1, h2.isEmpty.symm⟩)
  | @ref n a h1 =>
    simp only [truS] at e
    split at e
    · rename_i xs e0
      cases e
      obtain ⟨vs, g, r⟩ := hs.at e0 h1
      exact .inl ⟨vs, .inl (.inl g), r.isEmpty.symm⟩
    · rename_i xs e0
      cases e
      obtain ⟨o, vs, g, r⟩ := hs.at e0 h1
      exact .inl ⟨vs, .inl (.inr ⟨o, g⟩), r.isEmpty.symm⟩
    · rename_i xs e0
      cases e
      obtain ⟨vs, g, r⟩ := hs.at e0 h1
      exact .inr (.inr ⟨vs, g, r.isEmpty.symm⟩)
    · cases e
    · cases e
theorem atI_of {xs : List D} {vs : List V} {i : Int} {d : D} (r : DRs K ι H xs vs) (e : atI xs i = some d) : ∃ v, atI vs i = some v ∧ DR K ι H d v := by
  unfold atI at e ⊢
  rw [← r.len]
  cases h : ixN xs.length i with
  | none => rw [h] at e; cases e
  | some j =>
    rw [h] at e
    exact r.get e
end

/-! ## comparisons -/
section
variable {X : Cx}
def cmpOf : Cop → CmpOp
  | .eq => .Eq | .ne => .NotEq | .lt => .Lt | .le => .LtE | .gt => .Gt | .ge => .GtE | .isn => .Is | .notn => .IsNot | .ins => .In | .nins => .NotIn
theorem pyEq_ok {pins : List (Addr × Obj)} {s : Shared} {σ : L2.St} {H : Hp} {x y : V} {v u : Value} {R : VK} {ι : List Addr} {st : Store} {d e : D} {b : Bool} (hu : X.A.units + 64 < cLine) (hs : StR X.K ι H st) (hd : DR X.K ι H d x) (he : DR X.K ι H e y)
    (I : Inv X pins σ H s) (rx : RelV x v) (ry : RelV y u) (h : pyEq st d e = some b) :
    (R (.bl b) H → wpAny (model X.prog X.w) X.A (compareOp .Eq v u) (EP X pins σ R) X.xe s) ∧ (R (.bl (!b)) H → wpAny (model X.prog X.w) X.A (compareOp .NotEq v u) (EP X pins σ R) X.xe s) := by
  have big : ∀ p q, toPy st 32 d = some p → toPy st 32 e = some q → SeqAt.shaped p = true → SeqAt.shaped q = true → PyData.eqv p q = b →
      (R (.bl b) H → wpAny (model X.prog X.w) X.A (compareOp .Eq v u) (EP X pins σ R) X.xe s) ∧ (R (.bl (!b)) H → wpAny (model X.prog X.w) X.A (compareOp .NotEq v u) (EP X pins σ R) X.xe s) := by
    intro p q h1 h2 s1 s2 hb
    have g1 := dp_of hs 32 d x p hd h1
    have g2 := dp_of hs 32 e y q he h2
    exact ⟨fun hr => op_eqD hu pins s σ H x y v u R I rx ry ⟨p, q, g1, g2, s1, s2, by rw [hb]; exact hr⟩, fun hr => op_neD hu pins s σ H x y v u R I rx ry ⟨p, q, g1, g2, s1, s2, by rw [hb]; exact hr⟩⟩
  unfold pyEq at h
  split at h
  · cases h
    cases hd
    cases he
    rename_i i j
    exact ⟨fun hr => op_eq pins s σ H _ _ v u R I rx ry ⟨rfl, by rw [dec_int, Bool.beq_eq_decide_eq]; exact hr⟩, fun hr => op_ne pins s σ H _ _ v u R I rx ry ⟨rfl, by rw [dec_int, Bool.beq_eq_decide_eq]; exact hr⟩⟩
  · cases h
    cases hd
    cases he
    rename_i i j
    have e1 : decide (V.str i = V.str j) = decide (i = j) := by rw [Bool.eq_iff_iff]; simp
    exact ⟨fun hr => op_eq pins s σ H _ _ v u R I rx ry ⟨rfl, by rw [e1]; exact hr⟩, fun hr => op_ne pins s σ H _ _ v u R I rx ry ⟨rfl, by rw [e1]; exact hr⟩⟩
  · cases h
    cases hd
    cases he
    rename_i i j
    have e1 : decide (V.bl i = V.bl j) = decide (i = j) := by rw [Bool.eq_iff_iff]; simp
    exact ⟨fun hr => op_eq pins s σ H _ _ v u R I rx ry ⟨rfl, by rw [e1]; exact hr⟩, fun hr => op_ne pins s σ H _ _ v u R I rx ry ⟨rfl, by rw [e1]; exact hr⟩⟩
  · split at h
    · rename_i p q h1 h2
      split at h
      · rename_i hsh
        cases h
        rw [Bool.and_eq_true] at hsh
        exact big p q h1 h2 hsh.1 hsh.2 rfl
      · cases h
    · cases h
theorem opI0' {f : Value → Value → Sem Value} {g : Int → Int → V} (h : OpR X f (rI0 g)) {pins : List (Addr × Obj)} {s : Shared} {σ : L2.St} {H : Hp} {x y : V} {v u : Value} {R : VK} (I : Inv X pins σ H s) (rx : RelV x v) (ry : RelV y u) {i j : Int} (e1 : x = .int i) (e2 : y = .int j) (q : R (g i j) H) :
    wpAny (model X.prog X.w) X.A (f v u) (EP X pins σ R) X.xe s := h pins s σ H x y v u R I rx ry ⟨i, j, e1, e2, q⟩
theorem int_rel {K : PySem.W.Frag} {ι : List Addr} {H : Hp} {i : Int} {v : V} (h : DR K ι H (.int i) v) : v = .int i := by cases h; rfl
theorem dget_of {K : PySem.W.Frag} {ι : List Addr} {H : Hp} {st : Store} (hs : StR K ι H st) {n : Nat} {v : V} {kvs : List (Key × D)} (r : DR K ι H (.ref n) v) (e : st[n]? = some (.dct kvs)) : ∃ a vs, v = .ref a ∧ H a = some (.dK vs) ∧ DKs K ι H kvs vs := by
  cases r with
  | ref h1 =>
    obtain ⟨vs, g, r⟩ := hs.at e h1
    exact ⟨_, vs, rfl, g, r⟩
/-- all comparisons but in, not in -/
theorem opC (hu : X.A.units + 64 < cLine) (o : Cop) (ho : o ≠ .isn ∧ o ≠ .notn) : OpR X (compareOp (cmpOf o)) (TV2 X.K (cmpS o)) := by
  intro pins s σ H x y v u R I rx ry ⟨ι, d, e, st, Q, hs, hd, he, hb, hp⟩
  cases o with
  | eq =>
    obtain ⟨b, h, q⟩ := hb
    exact (pyEq_ok hu hs hd he I rx ry h).1 (hp.fin (.bl _) hs q)
  | ne =>
    obtain ⟨b, h, q⟩ := hb
    exact (pyEq_ok hu hs hd he I rx ry h).2 (hp.fin (.bl _) hs q)
  | lt =>
    obtain ⟨i, j, e1, e2, q⟩ := hb
    subst e1 e2
    exact opI0' op_lt I rx ry (int_rel hd) (int_rel he) (hp.fin (.bl _) hs q)
  | le =>
    obtain ⟨i, j, e1, e2, q⟩ := hb
    subst e1 e2
    exact opI0' op_le I rx ry (int_rel hd) (int_rel he) (hp.fin (.bl _) hs q)
  | gt =>
    obtain ⟨i, j, e1, e2, q⟩ := hb
    subst e1 e2
    exact opI0' op_gt I rx ry (int_rel hd) (int_rel he) (hp.fin (.bl _) hs q)
  | ge =>
    obtain ⟨i, j, e1, e2, q⟩ := hb
    subst e1 e2
    exact opI0' op_ge I rx ry (int_rel hd) (int_rel he) (hp.fin (.bl _) hs q)
  | isn => exact absurd rfl ho.1
  | notn => exact absurd rfl ho.2
  | ins =>
    obtain ⟨n, kvs, k, e1, e2, e3, q⟩ := hb
    subst e1
    obtain ⟨a, vs, rfl, g, r⟩ := dget_of hs he e2
    obtain rfl := keyOf_rel hd e3
    cases ry
    refine d_in (by omega) I (DGet.k g) rx fun s' I' => ⟨.bl _, H, I', rfl, ?_⟩
    rw [getK_isSome r]
    exact hp.fin (.bl _) hs q
  | nins =>
    obtain ⟨n, kvs, k, e1, e2, e3, q⟩ := hb
    subst e1
    obtain ⟨a, vs, rfl, g, r⟩ := dget_of hs he e2
    obtain rfl := keyOf_rel hd e3
    cases ry
    refine d_notIn (by omega) I (DGet.k g) rx fun s' I' => ⟨.bl _, H, I', rfl, ?_⟩
    rw [getK_isSome r]
    exact hp.fin (.bl _) hs q
theorem opIsN : OpR X (compareOp .Is) (TV2 X.K (cmpS .isn)) := by
  intro pins s σ H x y v u R I rx ry ⟨ι, d, e, st, Q, hs, hd, he, hb, hp⟩
  rcases hb with ⟨e1, q⟩ | ⟨a, b, e1, e2, q⟩
  rotate_left
  · subst e1 e2
    cases hd
    cases he
    cases rx
    cases ry
    refine wpAny_is_plain (by cases a <;> cases b <;> rfl) ⟨.bl _, H, I, rfl, ?_⟩
    have e : ((Value.bool a == Value.bool b)) = decide (a = b) := by cases a <;> cases b <;> rfl
    rw [e]
    exact hp.fin (.bl _) hs q
  subst e1
  cases he
  exact op_isN pins s σ H _ _ v u R I rx ry ⟨rfl, by rw [non_rel hd]; exact hp.fin (.bl _) hs q⟩
theorem opNotN : OpR X (compareOp .IsNot) (TV2 X.K (cmpS .notn)) := by
  intro pins s σ H x y v u R I rx ry ⟨ι, d, e, st, Q, hs, hd, he, hb, hp⟩
  rcases hb with ⟨e1, q⟩ | ⟨a, b, e1, e2, q⟩
  rotate_left
  · subst e1 e2
    cases hd
    cases he
    cases rx
    cases ry
    refine wpAny_isNot_plain (by cases a <;> cases b <;> rfl) ⟨.bl _, H, I, rfl, ?_⟩
    have e : (!(Value.bool a == Value.bool b)) = !decide (a = b) := by cases a <;> cases b <;> rfl
    rw [e]
    exact hp.fin (.bl _) hs q
  subst e1
  cases he
  exact op_notN pins s σ H _ _ v u R I rx ry ⟨rfl, by rw [non_rel hd]; exact hp.fin (.bl _) hs q⟩
theorem opCmp (hu : X.A.units + 64 < cLine) (o : Cop) : OpR X (compareOp (cmpOf o)) (TV2 X.K (cmpS o)) := by
  by_cases h : o ≠ .isn ∧ o ≠ .notn
  · exact opC hu o h
  · cases o with
    | isn => exact opIsN
    | notn => exact opNotN
    | _ => exact absurd ⟨by decide, by decide⟩ h
/-- a comparison hands back a bool -/
theorem cmpS_bl {o : Cop} {x y : D} {st : Store} {Q : K1} (h : cmpS o x y st Q) : cmpS o x y st fun d st1 => (∃ b, d = .bl b) ∧ Q d st1 := by
  cases o with
  | eq => obtain ⟨b, h, q⟩ := h; exact ⟨b, h, ⟨_, rfl⟩, q⟩
  | ne => obtain ⟨b, h, q⟩ := h; exact ⟨b, h, ⟨_, rfl⟩, q⟩
  | lt => obtain ⟨i, j, e1, e2, q⟩ := h; exact ⟨i, j, e1, e2, ⟨_, rfl⟩, q⟩
  | le => obtain ⟨i, j, e1, e2, q⟩ := h; exact ⟨i, j, e1, e2, ⟨_, rfl⟩, q⟩
  | gt => obtain ⟨i, j, e1, e2, q⟩ := h; exact ⟨i, j, e1, e2, ⟨_, rfl⟩, q⟩
  | ge => obtain ⟨i, j, e1, e2, q⟩ := h; exact ⟨i, j, e1, e2, ⟨_, rfl⟩, q⟩
  | isn => exact h.imp (fun ⟨e1, q⟩ => ⟨e1, ⟨_, rfl⟩, q⟩) fun ⟨a, b, e1, e2, q⟩ => ⟨a, b, e1, e2, ⟨_, rfl⟩, q⟩
  | notn => exact h.imp (fun ⟨e1, q⟩ => ⟨e1, ⟨_, rfl⟩, q⟩) fun ⟨a, b, e1, e2, q⟩ => ⟨a, b, e1, e2, ⟨_, rfl⟩, q⟩
  | ins => obtain ⟨n, kvs, k, e1, e2, e3, q⟩ := h; exact ⟨n, kvs, k, e1, e2, e3, ⟨_, rfl⟩, q⟩
  | nins => obtain ⟨n, kvs, k, e1, e2, e3, q⟩ := h; exact ⟨n, kvs, k, e1, e2, e3, ⟨_, rfl⟩, q⟩
end
end Cb

namespace Cb
open PySem PySem.Spec PyProof.Rows L2
section
variable {X : Cx} {F : Fm} {a b c e : Expr} {es : List Expr} {ca cb cc ce : C} {pos : Pos}
theorem d_bin (o : Bop) (ha : PE X a (TD X.K F ca)) (hb : PE X b (TD X.K F cb)) : PE X (.BinOp a (opOfB o) b pos) (TD X.K F (.bin o ca cb)) :=
  (pe_op (opB o) ha hb).weak fun σ H R ⟨ι, ρ, st, Q, e, s, q, p⟩ => .go e s q fun x H1 ι1 d st1 h1 k1 e1 d1 s1 q1 => .go e1 s1 q1 fun y H2 ι2 d' st2 h2 k2 e2 d2 s2 q2 =>
    ⟨ι2, d, d', st2, Q, s2, d1.mono h2 k2, d2, q2, p.shift (h1.trans h2) (k1.trans k2)⟩
theorem d_neg (ha : PE X a (TD X.K F ca)) : PE X (.UnaryOp .USub a pos) (TD X.K F (.neg ca)) :=
  (pe_un un_neg ha).weak fun σ H R ⟨ι, ρ, st, Q, e, s, q, p⟩ => .go e s q fun x H1 ι1 d st1 h1 k1 e1 d1 s1 q1 => by
    obtain ⟨i, e3, q3⟩ := q1
    subst e3
    cases d1
    exact ⟨i, rfl, (p.shift h1 k1).fin (.int _) s1 q3⟩
theorem d_cmp (hu : X.A.units + 64 < cLine) (o : Cop) (ha : PE X a (TD X.K F ca)) (hb : PE X b (TD X.K F cb)) (hm : behindInMarks (cmpOf o) b = false) : PE X (.Compare a [cmpOf o] [b] pos) (TD X.K F (.cmp o ca cb)) :=
  (pe_cmpR (opCmp hu o) ha hb hm).weak fun σ H R ⟨ι, ρ, st, Q, e, s, q, p⟩ => .go e s q fun x H1 ι1 d st1 h1 k1 e1 d1 s1 q1 => .go e1 s1 q1 fun y H2 ι2 d' st2 h2 k2 e2 d2 s2 q2 =>
    ⟨ι2, d, d', st2, Q, s2, d1.mono h2 k2, d2, q2, p.shift (h1.trans h2) (k1.trans k2)⟩
/-- as a test -/
theorem t_cmp (hu : X.A.units + 64 < cLine) (o : Cop) (ha : PE X a (TD X.K F ca)) (hb : PE X b (TD X.K F cb)) (hm : behindInMarks (cmpOf o) b = false) : PT X (.Compare a [cmpOf o] [b] pos) (TT' X.K F (.cmp o ca cb)) :=
  (pt_cmpR (opCmp hu o) ha hb hm).weak fun σ H R ⟨ι, ρ, st, Q, e, s, q, p⟩ => .go e s q fun x H1 ι1 d st1 h1 k1 e1 d1 s1 q1 => .go e1 s1 q1 fun y H2 ι2 d' st2 h2 k2 e2 d2 s2 q2 =>
    ⟨ι2, d, d', st2, _, s2, d1.mono h2 k2, d2, cmpS_bl q2, fun v H' ι' d3 st' h3 k3 r3 s3 q3 => by
      obtain ⟨⟨t, rfl⟩, q4⟩ := q3
      cases r3
      exact ⟨t, rfl, p t H' ι' st' ((h1.trans h2).trans h3) ((k1.trans k2).trans k3) s3 q4⟩⟩
theorem d_chain (hu : X.A.units + 64 < cLine) (o o2 : Cop) (ha : PE X a (TD X.K F ca)) (hb : PE X b (TD X.K F cb)) (hc : PE X c (TD X.K F cc)) (hm : lastMarks [cmpOf o, cmpOf o2] [b, c] = false) : PE X (.Compare a [cmpOf o, cmpOf o2] [b, c] pos) (TD X.K F (.chain o o2 ca cb cc)) :=
  (pe_chain (opCmp hu o) (opCmp hu o2) ha hb hc hm).weak fun σ H R ⟨ι, ρ, st, Q, e, s, q, p⟩ => .go e s q fun x H1 ι1 d st1 h1 k1 e1 d1 s1 q1 => .go e1 s1 q1 fun y H2 ι2 d' st2 h2 k2 e2 d2 s2 q2 =>
    ⟨ι2, d, d', st2, _, s2, d1.mono h2 k2, d2, q2, fun v H' ι' d3 st' h3 k3 r3 s3 q3 => by
      obtain ⟨t, rfl, q4⟩ := q3
      cases r3
      refine ⟨t, rfl, ?_⟩
      cases t with
      | true =>
        exact TD.go (e2.mono h3 k3) s3 q4 fun z H4 ι4 d4 st4 h4 k4 e4 r4 s4 q5 =>
          ⟨ι4, d', d4, st4, Q, s4, d2.mono (h3.trans h4) (k3.trans k4), r4, q5, p.shift (((h1.trans h2).trans h3).trans h4) (((k1.trans k2).trans k3).trans k4)⟩
      | false => exact (p.shift ((h1.trans h2).trans h3) ((k1.trans k2).trans k3)).fin (.bl _) s3 q4⟩
theorem t_chain (hu : X.A.units + 64 < cLine) (o o2 : Cop) (ha : PE X a (TD X.K F ca)) (hb : PE X b (TD X.K F cb)) (hc : PE X c (TD X.K F cc)) (hm : lastMarks [cmpOf o, cmpOf o2] [b, c] = false) : PT X (.Compare a [cmpOf o, cmpOf o2] [b, c] pos) (TT' X.K F (.chain o o2 ca cb cc)) :=
  (pt_chain (opCmp hu o) (opCmp hu o2) ha hb hc hm).weak fun σ H R ⟨ι, ρ, st, Q, e, s, q, p⟩ => .go e s q fun x H1 ι1 d st1 h1 k1 e1 d1 s1 q1 => .go e1 s1 q1 fun y H2 ι2 d' st2 h2 k2 e2 d2 s2 q2 =>
    ⟨ι2, d, d', st2, _, s2, d1.mono h2 k2, d2, q2, fun v H' ι' d3 st' h3 k3 r3 s3 q3 => by
      obtain ⟨t, rfl, q4⟩ := q3
      cases r3
      refine ⟨t, rfl, ?_⟩
      cases t with
      | true =>
        exact TD.go (e2.mono h3 k3) s3 q4 fun z H4 ι4 d4 st4 h4 k4 e4 r4 s4 q5 =>
          ⟨ι4, d', d4, st4, _, s4, d2.mono (h3.trans h4) (k3.trans k4), r4, cmpS_bl q5, fun v5 H5 ι5 d5 st5 h5 k5 r5 s5 q6 => by
            obtain ⟨⟨t, rfl⟩, q7⟩ := q6
            cases r5
            exact ⟨t, rfl, p t H5 ι5 st5 ((((h1.trans h2).trans h3).trans h4).trans h5) ((((k1.trans k2).trans k3).trans k4).trans k5) s5 q7⟩⟩
      | false => exact ⟨false, rfl, p false H' ι' st' ((h1.trans h2).trans h3) ((k1.trans k2).trans k3) s3 q4⟩⟩
/-- three comparisons in a row -/
def tChain3 (r r' r'' : R2) (ta tb tc td : TE) : TE := fun σ H Q => ta σ H fun x H1 => tb σ H1 fun y H2 => r x y H2 fun z H3 => ∃ k, z = .bl k ∧
  (if k = true then tc σ H3 fun w H4 => r' y w H4 fun z H5 => ∃ k, z = .bl k ∧ (if k = true then td σ H5 fun v H6 => r'' w v H6 Q else Q (.bl false) H5) else Q (.bl false) H3)
theorem pe_chain3 {d : Expr} {ta tb tc td : TE} {op op' op'' : CmpOp} {r r' r'' : R2} (ho : OpR X (compareOp op) r) (ho' : OpR X (compareOp op') r') (ho'' : OpR X (compareOp op'') r'') (ha : PE X a ta) (hb : PE X b tb) (hc : PE X c tc) (hd : PE X d td)
    (hm : lastMarks [op, op', op''] [b, c, d] = false) : PE X (.Compare a [op, op', op''] [b, c, d] pos) (tChain3 r r' r'' ta tb tc td) := by
  refine ⟨fun pins s σ H Q I h => ?_⟩
  refine Compare_chain (thn (ha.run pins s σ H _ I h) fun v s1 ⟨x, H1, I1, r1, q1⟩ => chain_link (thn (hb.run pins s1 σ H1 _ I1 q1) fun u s2 ⟨y, H2, I2, r2, q2⟩ =>
    thn (ho pins s2 σ H2 x y v u _ I2 r1 r2 q2) fun d s3 ⟨z, H3, I3, r3, k, e, q3⟩ => ?_)) hm
  subst e
  cases r3
  refine wpAny_truthy_bool ?_
  cases k with
  | false => exact ite_ff ⟨.bl false, H3, I3, rfl, q3⟩
  | true =>
    refine ite_tt (chain_link (thn (hc.run pins s3 σ H3 _ I3 q3) fun w' s4 ⟨z', H4, I4, r4, q4⟩ => thn (ho' pins s4 σ H4 y z' u w' _ I4 r2 r4 q4) fun d5 s5 ⟨z5, H5, I5, r5, k5, e5, q5⟩ => ?_))
    subst e5
    cases r5
    refine wpAny_truthy_bool ?_
    cases k5 with
    | false => exact ite_ff ⟨.bl false, H5, I5, rfl, q5⟩
    | true => exact ite_tt (chain_last (thn (hd.run pins s5 σ H5 _ I5 q5) fun w6 s6 ⟨z6, H6, I6, r6, q6⟩ => ho'' pins s6 σ H6 z' z6 w' w6 Q I6 r4 r6 q6))
theorem pt_chain3 {d : Expr} {ta tb tc td : TE} {op op' op'' : CmpOp} {r r' r'' : R2} (ho : OpR X (compareOp op) r) (ho' : OpR X (compareOp op') r') (ho'' : OpR X (compareOp op'') r'') (ha : PE X a ta) (hb : PE X b tb) (hc : PE X c tc) (hd : PE X d td)
    (hm : lastMarks [op, op', op''] [b, c, d] = false) : PT X (.Compare a [op, op', op''] [b, c, d] pos) (tTest (tChain3 r r' r'' ta tb tc td)) := by
  refine ⟨fun pins s σ H Q I h => ?_⟩
  refine isTrue_chain (thn (ha.run pins s σ H _ I h) fun v s1 ⟨x, H1, I1, r1, q1⟩ => test_link (thn (hb.run pins s1 σ H1 _ I1 q1) fun u s2 ⟨y, H2, I2, r2, q2⟩ =>
    thn (ho pins s2 σ H2 x y v u _ I2 r1 r2 q2) fun d s3 ⟨z, H3, I3, r3, k, e, q3⟩ => ?_)) hm
  subst e
  cases r3
  refine wpAny_truthy_bool ?_
  cases k with
  | false =>
    obtain ⟨k', e', q'⟩ := q3
    cases e'
    exact ite_ff ⟨H3, I3, q'⟩
  | true =>
    refine ite_tt (test_link (thn (hc.run pins s3 σ H3 _ I3 q3) fun w' s4 ⟨z', H4, I4, r4, q4⟩ => thn (ho' pins s4 σ H4 y z' u w' _ I4 r2 r4 q4) fun d5 s5 ⟨z5, H5, I5, r5, k5, e5, q5⟩ => ?_))
    subst e5
    cases r5
    refine wpAny_truthy_bool ?_
    cases k5 with
    | false =>
      obtain ⟨k', e', q'⟩ := q5
      cases e'
      exact ite_ff ⟨H5, I5, q'⟩
    | true =>
      refine ite_tt (test_last (thn (hd.run pins s5 σ H5 _ I5 q5) fun w6 s6 ⟨z6, H6, I6, r6, q6⟩ => thn (ho'' pins s6 σ H6 z' z6 w' w6 _ I6 r4 r6 q6) fun d7 s7 ⟨z7, H7, I7, r7, k7, e7, q7⟩ => ?_))
      subst e7
      cases r7
      exact wpAny_truthy_bool ⟨H7, I7, q7⟩
theorem d_chain3 {d : Expr} {cd : C} (hu : X.A.units + 64 < cLine) (o o2 o3 : Cop) (ha : PE X a (TD X.K F ca)) (hb : PE X b (TD X.K F cb)) (hc : PE X c (TD X.K F cc)) (hd : PE X d (TD X.K F cd)) (hm : lastMarks [cmpOf o, cmpOf o2, cmpOf o3] [b, c, d] = false) : PE X (.Compare a [cmpOf o, cmpOf o2, cmpOf o3] [b, c, d] pos) (TD X.K F (.chain3 o o2 o3 ca cb cc cd)) :=
  (pe_chain3 (opCmp hu o) (opCmp hu o2) (opCmp hu o3) ha hb hc hd hm).weak fun σ H R ⟨ι, ρ, st, Q, e, s, q, p⟩ => .go e s q fun x H1 ι1 d st1 h1 k1 e1 d1 s1 q1 => .go e1 s1 q1 fun y H2 ι2 d' st2 h2 k2 e2 d2 s2 q2 =>
    ⟨ι2, d, d', st2, _, s2, d1.mono h2 k2, d2, q2, fun v H' ι' d3 st' h3 k3 r3 s3 q3 => by
      obtain ⟨t, rfl, q4⟩ := q3
      cases r3
      refine ⟨t, rfl, ?_⟩
      have p3 := p.shift ((h1.trans h2).trans h3) ((k1.trans k2).trans k3)
      cases t with
      | false => exact p3.fin (.bl _) s3 q4
      | true =>
        refine TD.go (e2.mono h3 k3) s3 q4 fun z H4 ι4 d4 st4 h4 k4 e4 r4 s4 q5 =>
          ⟨ι4, d', d4, st4, _, s4, d2.mono (h3.trans h4) (k3.trans k4), r4, q5, fun v5 H5 ι5 d5 st5 h5 k5 r5 s5 q6 => ?_⟩
        obtain ⟨t, rfl, q7⟩ := q6
        cases r5
        refine ⟨t, rfl, ?_⟩
        have p5 := p3.shift (h4.trans h5) (k4.trans k5)
        cases t with
        | false => exact p5.fin (.bl _) s5 q7
        | true =>
          exact TD.go (e4.mono h5 k5) s5 q7 fun w H6 ι6 d6 st6 h6 k6 e6 r6 s6 q8 =>
            ⟨ι6, d4, d6, st6, Q, s6, r4.mono (h5.trans h6) (k5.trans k6), r6, q8, p5.shift h6 k6⟩⟩
theorem t_chain3 {d : Expr} {cd : C} (hu : X.A.units + 64 < cLine) (o o2 o3 : Cop) (ha : PE X a (TD X.K F ca)) (hb : PE X b (TD X.K F cb)) (hc : PE X c (TD X.K F cc)) (hd : PE X d (TD X.K F cd)) (hm : lastMarks [cmpOf o, cmpOf o2, cmpOf o3] [b, c, d] = false) : PT X (.Compare a [cmpOf o, cmpOf o2, cmpOf o3] [b, c, d] pos) (TT' X.K F (.chain3 o o2 o3 ca cb cc cd)) :=
  (pt_chain3 (opCmp hu o) (opCmp hu o2) (opCmp hu o3) ha hb hc hd hm).weak fun σ H R ⟨ι, ρ, st, Q, e, s, q, p⟩ => .go e s q fun x H1 ι1 d st1 h1 k1 e1 d1 s1 q1 => .go e1 s1 q1 fun y H2 ι2 d' st2 h2 k2 e2 d2 s2 q2 =>
    ⟨ι2, d, d', st2, _, s2, d1.mono h2 k2, d2, q2, fun v H' ι' d3 st' h3 k3 r3 s3 q3 => by
      obtain ⟨t, rfl, q4⟩ := q3
      cases r3
      refine ⟨t, rfl, ?_⟩
      cases t with
      | false => exact ⟨false, rfl, p false H' ι' st' ((h1.trans h2).trans h3) ((k1.trans k2).trans k3) s3 q4⟩
      | true =>
        refine TD.go (e2.mono h3 k3) s3 q4 fun z H4 ι4 d4 st4 h4 k4 e4 r4 s4 q5 =>
          ⟨ι4, d', d4, st4, _, s4, d2.mono (h3.trans h4) (k3.trans k4), r4, q5, fun v5 H5 ι5 d5 st5 h5 k5 r5 s5 q6 => ?_⟩
        obtain ⟨t, rfl, q7⟩ := q6
        cases r5
        refine ⟨t, rfl, ?_⟩
        cases t with
        | false => exact ⟨false, rfl, p false H5 ι5 st5 ((((h1.trans h2).trans h3).trans h4).trans h5) ((((k1.trans k2).trans k3).trans k4).trans k5) s5 q7⟩
        | true =>
          exact TD.go (e4.mono h5 k5) s5 q7 fun w H6 ι6 d6 st6 h6 k6 e6 r6 s6 q8 =>
            ⟨ι6, d4, d6, st6, _, s6, r4.mono (h5.trans h6) (k5.trans k6), r6, cmpS_bl q8, fun v7 H7 ι7 d7 st7 h7 k7 r7 s7 q9 => by
              obtain ⟨⟨t, rfl⟩, q10⟩ := q9
              cases r7
              exact ⟨t, rfl, p t H7 ι7 st7 ((((((h1.trans h2).trans h3).trans h4).trans h5).trans h6).trans h7) ((((((k1.trans k2).trans k3).trans k4).trans k5).trans k6).trans k7) s7 q10⟩⟩⟩
/-! ### and, or, not, if -/
variable {rest : List Expr}
theorem d_one {o : PySem.BoolOp} (ha : PE X a (TD X.K F ca)) : PE X (.BoolOp o [a] pos) (TD X.K F ca) := pe_one ha
theorem d_and (ha : PE X a (TD X.K F ca)) (hb : PE X (.BoolOp .And (b :: rest) pos) (TD X.K F cb)) : PE X (.BoolOp .And (a :: b :: rest) pos) (TD X.K F (.and ca cb)) :=
  (pe_andT ha hb).weak fun σ H R ⟨ι, ρ, st, Q, e, s, q, p⟩ => .go e s q fun x H1 ι1 d st1 h1 k1 e1 d1 s1 q1 => by
    obtain ⟨t, ht, q2⟩ := q1
    refine ⟨t, tru_of s1 d1 ht, ?_⟩
    cases t with
    | true => exact ⟨ι1, ρ, st1, Q, e1, s1, q2, p.shift h1 k1⟩
    | false => exact (p.shift h1 k1).fin d1 s1 q2
theorem d_or (ha : PE X a (TD X.K F ca)) (hb : PE X (.BoolOp .Or (b :: rest) pos) (TD X.K F cb)) : PE X (.BoolOp .Or (a :: b :: rest) pos) (TD X.K F (.or ca cb)) :=
  (pe_orT ha hb).weak fun σ H R ⟨ι, ρ, st, Q, e, s, q, p⟩ => .go e s q fun x H1 ι1 d st1 h1 k1 e1 d1 s1 q1 => by
    obtain ⟨t, ht, q2⟩ := q1
    refine ⟨t, tru_of s1 d1 ht, ?_⟩
    cases t with
    | false => exact ⟨ι1, ρ, st1, Q, e1, s1, q2, p.shift h1 k1⟩
    | true => exact (p.shift h1 k1).fin d1 s1 q2
theorem d_not (ha : PE X a (TD X.K F ca)) : PE X (.UnaryOp .Not a pos) (TD X.K F (.tnot (.tval ca))) :=
  (pe_notT ha).weak fun σ H R ⟨ι, ρ, st, Q, e, s, q, p⟩ => .go e s q fun x H1 ι1 d st1 h1 k1 e1 d1 s1 q1 => by
    obtain ⟨t, ht, t', e2, q2⟩ := q1
    cases e2
    exact ⟨t, tru_of s1 d1 ht, (p.shift h1 k1).fin (.bl _) s1 q2⟩
theorem t_val (ha : PE X a (TD X.K F ca)) (he : ∀ whole, isTrue a X.env whole = (do let v ← whole; standAt a.pos; holding [v] (truthy v))) : PT X a (TT' X.K F (.tval ca)) :=
  (pt_truth ha he).weak fun σ H R ⟨ι, ρ, st, Q, e, s, q, p⟩ => .go e s q fun x H1 ι1 d st1 h1 k1 e1 d1 s1 q1 => by
    obtain ⟨t, ht, q2⟩ := q1
    exact ⟨t, tru_of s1 d1 ht, p t H1 ι1 st1 h1 k1 s1 q2⟩
theorem w_and1 (ha : PT X a (TT' X.K F ca)) : PW X (.BoolOp .And [a] pos) (TT' X.K F ca) := pw_and1 ha
theorem w_or1 (ha : PT X a (TT' X.K F ca)) : PW X (.BoolOp .Or [a] pos) (TT' X.K F ca) := pw_or1 ha
theorem PW.weak {X : Cx} {e : Expr} {t t' : TT} (h : PW X e t) (w : ∀ σ H Q, t' σ H Q → t σ H Q) : PW X e t' := ⟨fun wh pins s σ H Q I q => h.run wh pins s σ H Q I (w _ _ _ q)⟩
theorem w_and (ha : PT X a (TT' X.K F ca)) (hb : PW X (.BoolOp .And (b :: rest) pos) (TT' X.K F cb)) : PW X (.BoolOp .And (a :: b :: rest) pos) (TT' X.K F (.tand ca cb)) :=
  PW.weak (pw_and ha hb) fun σ H R ⟨ι, ρ, st, Q, e, s, q, p⟩ => .go e s q fun t H1 ι1 st1 h1 k1 e1 s1 q1 => by
    obtain ⟨t', e2, q2⟩ := q1
    cases e2
    cases t with
    | true => exact ⟨ι1, ρ, st1, Q, e1, s1, q2, p.shift h1 k1⟩
    | false => exact p false H1 ι1 st1 h1 k1 s1 q2
theorem w_or (ha : PT X a (TT' X.K F ca)) (hb : PW X (.BoolOp .Or (b :: rest) pos) (TT' X.K F cb)) : PW X (.BoolOp .Or (a :: b :: rest) pos) (TT' X.K F (.tor ca cb)) :=
  PW.weak (pw_or ha hb) fun σ H R ⟨ι, ρ, st, Q, e, s, q, p⟩ => .go e s q fun t H1 ι1 st1 h1 k1 e1 s1 q1 => by
    obtain ⟨t', e2, q2⟩ := q1
    cases e2
    cases t with
    | false => exact ⟨ι1, ρ, st1, Q, e1, s1, q2, p.shift h1 k1⟩
    | true => exact p true H1 ι1 st1 h1 k1 s1 q2
theorem t_not (ha : PT X a (TT' X.K F ca)) : PT X (.UnaryOp .Not a pos) (TT' X.K F (.tnot ca)) :=
  (pt_not ha).weak fun σ H R ⟨ι, ρ, st, Q, e, s, q, p⟩ => .go e s q fun t H1 ι1 st1 h1 k1 e1 s1 q1 => by
    obtain ⟨t', e2, q2⟩ := q1
    cases e2
    exact p (!t) H1 ι1 st1 h1 k1 s1 q2
theorem d_ite (hc : PT X c (TT' X.K F cc)) (ha : PE X a (TD X.K F ca)) (hb : PE X b (TD X.K F cb)) : PE X (.IfExp c a b pos) (TD X.K F (.ite cc ca cb)) :=
  (pe_ifExp hc ha hb).weak fun σ H R ⟨ι, ρ, st, Q, e, s, q, p⟩ => .go e s q fun t H1 ι1 st1 h1 k1 e1 s1 q1 => by
    obtain ⟨t', e2, q2⟩ := q1
    cases e2
    cases t with
    | true => exact ⟨ι1, ρ, st1, Q, e1, s1, q2, p.shift h1 k1⟩
    | false => exact ⟨ι1, ρ, st1, Q, e1, s1, q2, p.shift h1 k1⟩
/-! ### items, slices -/
theorem ixOf {K : PySem.W.Frag} {ι : List Addr} {H : Hp} {st : Store} (hs : StR K ι H st) {d k z : D} {x y : V} (hd : DR K ι H d x) (hk : DR K ι H k y) (h : idxS st d k = some z) :
    (∃ p xs i v, x = .ref p ∧ y = .int i ∧ (SqL K H p xs ∨ SqT K H p xs) ∧ atI xs i = some v ∧ DR K ι H z v) ∨ ∃ p v, x = .ref p ∧ DGet H p y (some v) ∧ DR K ι H z v := by
  cases hd with
  | @tup a vs ds h1 h2 =>
    cases hk with
    | int i =>
      obtain ⟨v, e, r⟩ := atI_of h2 h
      exact .inl ⟨a, vs, i, v, rfl, rfl, .inr h1, e, r⟩
    | _ => cases h
  | @ref n a h1 =>
    simp only [idxS] at h
    split at h
    · rename_i xs e0
      cases hk with
      | int i =>
        obtain ⟨vs, g, r⟩ := hs.at e0 h1
        obtain ⟨v, e, r'⟩ := atI_of r h
        exact .inl ⟨a, vs, i, v, rfl, rfl, .inl (.inl (.inl g)), e, r'⟩
      | _ => cases h
    · rename_i xs e0
      cases hk with
      | int i =>
        obtain ⟨o, vs, g, r⟩ := hs.at e0 h1
        obtain ⟨v, e, r'⟩ := atI_of r h
        exact .inl ⟨a, vs, i, v, rfl, rfl, .inl (.inl (.inr ⟨o, g⟩)), e, r'⟩
      | _ => cases h
    · rename_i kvs e0
      obtain ⟨vs, g, r⟩ := hs.at e0 h1
      cases e1 : keyOf k with
      | none => rw [e1] at h; cases h
      | some kk =>
        rw [e1] at h
        obtain rfl := keyOf_rel hk e1
        obtain ⟨v, e2, r2⟩ := getK_some r h
        exact .inr ⟨a, v, rfl, by rw [← e2]; exact .k g, r2⟩
    · cases h
    · cases h
  | _ => cases h
/-- a subscript of a list, a tuple, a dict -/
theorem d_idx (hu : X.A.units + 1 < cLine) (ha : PE X a (TD X.K F ca)) (hb : PE X b (TD X.K F cb)) (hs : PlainIx b) : PE X (.Subscript a b pos) (TD X.K F (.idx ca cb)) := by
  refine ⟨fun pins s σ H R I ⟨ι, ρ, st, Q, e, hst, q, p⟩ => ?_⟩
  refine Subscript_ (thn (ha.run pins s σ H (fun x H1 => ∃ ι1 st1 d, ι <+: ι1 ∧ Keep ι ι1 H H1 ∧ DR X.K ι1 H1 d x ∧ StR X.K ι1 H1 st1 ∧ EnvR X.K ι1 H1 σ ρ ∧ wp F cb ρ st1 fun y st2 => som (idxS st2 d y) fun z => Q z st2) I
    (.go e hst q fun x H1 ι1 d st1 h1 k1 e1 d1 s1 q1 => ⟨ι1, st1, d, h1, k1, d1, s1, e1, q1⟩)) fun v s1 ⟨x, H1, I1, r1, ι1, st1, d, h1, k1, d1, hs1, e1, q1⟩ => ?_)
  refine thn (hb.run pins s1 σ H1 (fun y H2 => ∃ ι2 st2 d', ι1 <+: ι2 ∧ Keep ι1 ι2 H1 H2 ∧ DR X.K ι2 H2 d' y ∧ StR X.K ι2 H2 st2 ∧ som (idxS st2 d d') fun z => Q z st2) I1
    (.go e1 hs1 q1 fun y H2 ι2 d' st2 h2 k2 e2 d2 s2 q2 => ⟨ι2, st2, d', h2, k2, d2, s2, q2⟩)) fun u s2 ⟨y, H2, I2, r2, ι2, st2, d', h2, k2, d2, hs2, z, ez, qz⟩ => ?_
  have p' := p.shift (h1.trans h2) (k1.trans k2)
  rcases ixOf hs2 (d1.mono h2 k2) d2 ez with ⟨a', xs, i, w, rfl, rfl, hq, hv, rw'⟩ | ⟨a', w, rfl, hg, rw'⟩
  · have fin := p'.fin rw' hs2 qz
    rcases hq with hq | hq
    · exact ix_list _ _ pins s2 σ H2 _ _ v u R I2 r1 r2 ⟨a', xs, i, w, rfl, rfl, hq, hv, fin⟩ (hs _ _)
    · exact ix_tup _ _ pins s2 σ H2 _ _ v u R I2 r1 r2 ⟨a', xs, i, w, rfl, rfl, hq, hv, fin⟩ (hs _ _)
  · cases r1
    exact tail_any (dict_typeIs I2 hg) PySem.F.slot_dict_getitem.lookup (d_getItem hu I2 hg r2 fun w' s3 I3 rw2 => ⟨w, H2, I3, rw2, p'.fin rw' hs2 qz⟩) (hs _ _)
/-! slices -/
def TO' (K : PySem.W.Frag) (F : Fm) (f : Bool) (c : C) : TO := fun σ H R => ∃ (ι : List Addr) (ρ : Env1) (st : Store) (Q : Option Int → Store → Prop), EnvR K ι H σ ρ ∧ StR K ι H st ∧ (wp F c ρ st fun d st' => som (partS f d) fun o => Q o st') ∧
  ∀ (o : Option Int) (H' : Hp) (ι' : List Addr) (st' : Store), ι <+: ι' → Keep ι ι' H H' → EnvR K ι' H' σ ρ → StR K ι' H' st' → Q o st' → R o H'
theorem _root_.L2.PO.weak {X : Cx} {e : Option Expr} {t t' : TO} (h : PO X e t) (w : ∀ σ H Q, t' σ H Q → t σ H Q) : PO X e t' := ⟨fun pins s σ H Q I q => h.run pins s σ H Q I (w _ _ _ q)⟩
theorem o_none : PO X none (TO' X.K F false (.cst .non)) := po_none.weak fun σ H R ⟨ι, ρ, st, Q, e, s, ⟨o, eo, q⟩, p⟩ => by
  cases eo
  exact p none H ι st (List.prefix_refl _) (.refl H) e s q
theorem o_some (ha : PE X a (TD X.K F ca)) : PO X (some a) (TO' X.K F true ca) :=
  (po_some ha).weak fun σ H R ⟨ι, ρ, st, Q, e, s, q, p⟩ => .go e s q fun x H1 ι1 d st1 h1 k1 e1 d1 s1 q1 => by
    obtain ⟨o, eo, q2⟩ := q1
    cases d1 <;> cases eo
    exact ⟨_, rfl, p _ H1 ι1 st1 h1 k1 e1 s1 q2⟩
theorem cut_rel {K : PySem.W.Frag} {ι : List Addr} {H : Hp} {xs : List D} {vs : List V} (r : DRs K ι H xs vs) (lo hi : Option Int) : DRs K ι H (cut xs lo hi) (cutV vs lo hi) := by
  unfold cut cutV
  rw [r.len]
  exact (r.drop _).take _
theorem cut_whole {α : Type} (xs : List α) (lo hi : Option Int) (h : HT.sIx xs.length 0 lo = 0 ∧ HT.sIx xs.length xs.length hi = xs.length) : cut xs lo hi = xs := by
  unfold cut
  rw [h.1, h.2, List.drop_zero, Nat.sub_zero, List.take_length]
theorem d_slc {lo hi : Option Expr} {cl ch : C} {fl fh : Bool} {p2 : Pos} (ha : PE X a (TD X.K F ca)) (hl : PO X lo (TO' X.K F fl cl)) (hh : PO X hi (TO' X.K F fh ch)) : PE X (.Subscript a (.Slice lo hi none p2) pos) (TD X.K F (.slc fl fh ca cl ch)) :=
  (pe_slice (sl_tupA.or sl_list) ha hl hh).weak fun σ H R ⟨ι, ρ, st, Q, e, s, q, p⟩ => .go e s q fun x H1 ι1 d st1 h1 k1 e1 d1 s1 q1 =>
    ⟨ι1, ρ, st1, _, e1, s1, q1, fun l H2 ι2 st2 h2 k2 e2 s2 q2 => ⟨ι2, ρ, st2, _, e2, s2, q2, fun u H3 ι3 st3 h3 k3 e3 s3 q3 => by
      have d3 := d1.mono (h2.trans h3) (k2.trans k3).t
      have p3 := p.shift ((h1.trans h2).trans h3) ((k1.trans k2).trans k3)
      cases d3 with
      | @tup a' vs ds g1 g2 =>
        refine .inl ⟨a', vs, rfl, g1, fun hw => ?_, fun _ => p3.tup (cut_rel g2 l u) s3 q3⟩
        rw [← g2.len] at hw
        have q4 : Q (.tup (cut ds l u)) st3 := q3
        rw [cut_whole ds l u hw] at q4
        exact p3.fin (.tup g1 g2) s3 q4
      | @ref n a' g1 =>
        have q4 : (match st3[n]? with | some (.lst xs) => Q (.ref st3.length) (st3 ++ [.lst (cut xs l u)]) | some (.frz xs) => Q (.ref st3.length) (st3 ++ [.lst (cut xs l u)]) | _ => False) := q3
        split at q4
        · rename_i xs e0
          obtain ⟨vs, g, r⟩ := s3.at e0 g1
          exact .inr ⟨a', vs, rfl, .inl (.inl g), p3.lst (cut_rel r l u) s3 q4⟩
        · rename_i xs e0
          obtain ⟨o, vs, g, r⟩ := s3.at e0 g1
          exact .inr ⟨a', vs, rfl, .inl (.inr ⟨o, g⟩), p3.lst (cut_rel r l u) s3 q4⟩
        · exact q4.elim
      | _ => exact (show False from q3).elim⟩⟩
theorem d_revL {k : Nat} {p1 p2 p3 : Pos} (ha : PE X a (TD X.K F ca)) : PE X (.Subscript a (.Slice none none (some (.UnaryOp .USub (.Constant (.int 1) k p1) p2)) p3) pos) (TD X.K F (.revL ca)) :=
  (pe_revL ha).weak fun σ H R ⟨ι, ρ, st, Q, e, s, q, p⟩ => .go e s q fun x H1 ι1 d st1 h1 k1 e1 d1 s1 q1 => by
    obtain ⟨xs, ex, q2⟩ := q1
    obtain ⟨a', vs, e3, hq, r⟩ := listS_of s1 d1 ex
    exact ⟨a', vs, e3, hq, (p.shift h1 k1).lst r.reverse s1 q2⟩
end
end Cb

namespace Cb
open PySem PySem.Spec PyProof.Rows L2
/-! ## arguments without a star -/
def notStar : Expr → Bool
  | .Starred .. => false
  | _ => true
theorem star_cons {e : Expr} (h : notStar e = true) (es : List Expr) (env : Env) : starEach (e :: es) env = (false, eval e env) :: starEach es env := by
  cases e <;> first | rfl | cases h
theorem star_any (pos : Pos) (env : Env) : ∀ es : List Expr, es.all notStar = true → (backTo pos (starEach es env)).any (·.1) = false
  | [], _ => rfl
  | e :: es, h => by
    rw [List.all_cons, Bool.and_eq_true] at h
    rw [star_cons h.1]
    show (false || (backTo pos (starEach es env)).any (·.1)) = false
    rw [star_any pos env es h.2]
    rfl
theorem star_few (pos : Pos) (env : Env) : ∀ es : List Expr, es.all notStar = true → (backTo pos (starEach es env)).all (fun x => !x.1) = true
  | [], _ => rfl
  | e :: es, h => by
    rw [List.all_cons, Bool.and_eq_true] at h
    rw [star_cons h.1]
    show (true && (backTo pos (starEach es env)).all (fun x => !x.1)) = true
    rw [star_few pos env es h.2]
    rfl
def plainBase : Expr → Bool
  | .Call .. => false
  | _ => true
theorem base_ok {o : Expr} (h : plainBase o = true) (m : Str) (env : Env) (w : PySem.Sem Value) : attributeBase o m env w = w := by
  cases o <;> first | rfl | cases h

section
variable {X : Cx} {F : Fm}
theorem ints_rel {K : PySem.W.Frag} {ι : List Addr} {H : Hp} : ∀ {ys : List D} {vs : List V} {ns : List Int}, DRs K ι H ys vs → mapO asInt ys = some ns → vs = ns.map V.int
  | _, _, _, .nil, h => by cases h; rfl
  | _, _, _, .cons r t, h => by
    obtain ⟨y, zs, e1, e2, rfl⟩ := mapO_cons h
    rw [ints_rel t e2]
    cases r <;> cases e1
    rfl
theorem bls_rel {K : PySem.W.Frag} {ι : List Addr} {H : Hp} : ∀ {ys : List D} {vs : List V} {ns : List Bool}, DRs K ι H ys vs → mapO asBl ys = some ns → vs = ns.map V.bl
  | _, _, _, .nil, h => by cases h; rfl
  | _, _, _, .cons r t, h => by
    obtain ⟨y, zs, e1, e2, rfl⟩ := mapO_cons h
    rw [bls_rel t e2]
    cases r <;> cases e1
    rfl
theorem drs_one {K : PySem.W.Frag} {ι : List Addr} {H : Hp} {d : D} {vs : List V} (h : DRs K ι H [d] vs) : ∃ v, vs = [v] ∧ DR K ι H d v := by
  cases h with
  | cons r t => cases t; exact ⟨_, rfl, r⟩
theorem drs_two {K : PySem.W.Frag} {ι : List Addr} {H : Hp} {d e : D} {vs : List V} (h : DRs K ι H [d, e] vs) : ∃ v w, vs = [v, w] ∧ DR K ι H d v ∧ DR K ι H e w := by
  cases h with
  | cons r t =>
    cases t with
    | cons r2 t => cases t; exact ⟨_, _, rfl, r, r2⟩
/-- repr of data -/
theorem repr_ok {pins : List (Addr × Obj)} {s : Shared} {σ : L2.St} {H : Hp} {v : V} {u : Value} {p : PyData} {R : VK} (hg : X.A.guards = some []) (hu : X.A.units + 64 < cLine) (I : Inv X pins σ H s) (rv : RelV v u) (hd : Dp X.K H v p) (ok : ReprOk p) (q : R (.str p.shown) H) :
    wpAny (model X.prog X.w) X.A (call (.builtin "repr") [u]) (EP X pins σ R) X.xe s := by
  obtain ⟨h1, h2, h3, h4⟩ := ok
  obtain ⟨as, rd⟩ := Dp.reads I p v u hd rv
  have big : ∀ a, u = .ref a → wpAny (model X.prog X.w) X.A (call (.builtin "repr") [u]) (EP X pins σ R) X.xe s := fun a e => by
    subst e
    exact repr_of_reads' rd h1 (fun z => by rw [h2] at z; cases z) hg (by omega) (fun _ _ e => e) (fun h' t tk hk => ⟨.str p.shown, H, I.kept hk, ⟨t, rfl⟩, q⟩) h4
  cases hd with
  | non => cases rv; exact PySem.P.repr_of_none ⟨.str _, H, I.tok _, ⟨_, rfl⟩, q⟩
  | bl b => cases rv; exact PySem.P.repr_of_bool ⟨.str _, H, I.tok _, ⟨_, rfl⟩, q⟩
  | int i =>
    obtain ⟨t, rfl⟩ := rv
    exact PySem.P.repr_of_int (by simpa [PyData.showable] using h1) ⟨.str _, H, I.tok _, ⟨_, rfl⟩, q⟩
  | str x =>
    obtain ⟨t, rfl⟩ := rv
    exact PySem.P.repr_of_str ⟨.str _, H, I.tok _, ⟨_, rfl⟩, q⟩ (by simpa only [PyData.shown] using h4)
  | lst a b => exact big _ rv
  | tup a b => exact big _ rv
def bltV : Blt → Value
  | .len => .builtin "len" | .int => .type "int" | .abs => .builtin "abs" | .max2 => .builtin "max" | .min2 => .builtin "min" | .repr => .builtin "repr" | .tuple => .type "tuple" | .list => .type "list"
  | .sum => .builtin "sum" | .all => .builtin "all" | .any => .builtin "any" | .max1 => .builtin "max" | .min1 => .builtin "min" | .bool => .type "bool" | .range1 => .type "range" | .range2 => .type "range"
/-- the caller's state -/
structure Calm (X : Cx) : Prop where
  calm : X.calm = true
  guards : X.A.guards = some []
  units : X.A.units + 66 < cLine
theorem dpAll_of {K : PySem.W.Frag} {ι : List Addr} {H : Hp} {st : Store} (hs : StR K ι H st) {n : Nat} : ∀ {ds : List D} {vs : List V} {ps : List PyData}, DRs K ι H ds vs → mapO (toPy st n) ds = some ps → DpAll K H vs ps
  | [], _, ps, .nil, h => by
    cases h
    exact .nil
  | d :: ds, _, ps, .cons r rs, h => by
    simp only [mapO] at h
    split at h
    · rename_i y ys e1 e2
      cases h
      exact .cons (dp_of hs n _ _ _ r e1) (dpAll_of hs rs e2)
    · cases h
theorem rel_at {K : PySem.W.Frag} {ι : List Addr} {H : Hp} : ∀ {ds : List D} {vs : List V} {us : List Value} {i : Nat} {u : Value}, DRs K ι H ds vs → Vals vs us → us[i]? = some u → ∃ y dy, vs[i]? = some y ∧ ds[i]? = some dy ∧ RelV y u ∧ DR K ι H dy y
  | _, _, _, i, u, .nil, .nil, h => by simp at h
  | _, _, _, 0, u, .cons r rs, .cons q qs, h => by
    obtain rfl := Option.some.inj (show some _ = some u from h)
    exact ⟨_, _, rfl, rfl, q, r⟩
  | _, _, _, i + 1, u, .cons r rs, .cons q qs, h => by
    obtain ⟨y, dy, h1, h2, h3, h4⟩ := rel_at rs qs (i := i) (u := u) (by simpa using h)
    exact ⟨y, dy, by simpa using h1, by simpa using h2, h3, h4⟩
theorem callB (c : Calm X) (b : Blt) : CallR X (bltV b) (TVs X.K (bltS b)) := by
  intro pins s σ H xs us R I rx ⟨ι, ds, st, Q, hs, hd, hb, hp⟩
  cases b with
  | len =>
    obtain ⟨x, rfl, hb⟩ := hb
    obtain ⟨v, rfl, hx⟩ := drs_one hd
    rcases hb with ⟨ys, e, q⟩ | ⟨n, kvs, rfl, e, q⟩
    · obtain ⟨a, vs, rfl, hq, r⟩ := seqS_of hs hx e
      exact call_len_seq pins s σ H _ us R I rx ⟨a, vs, rfl, hq, by rw [← r.len]; exact hp.fin (.int _) hs q⟩
    · obtain ⟨a, vs, rfl, g, r⟩ := dget_of hs hx e
      obtain ⟨u, rfl, ru⟩ := vals1 rx
      cases ru
      refine d_len I (.inl g) fun t s' I' => ⟨.int _, H, I', ⟨t, rfl⟩, ?_⟩
      rw [← r.len]
      exact hp.fin (.int _) hs q
  | int =>
    rcases hb with ⟨i, rfl, q⟩ | ⟨k, rfl, q⟩
    · obtain ⟨v, rfl, hx⟩ := drs_one hd
      cases hx
      exact call_int1 pins s σ H _ us R I rx (.inl ⟨i, rfl, hp.fin (.int _) hs q⟩)
    · obtain ⟨v, rfl, hx⟩ := drs_one hd
      cases hx
      exact call_int1 pins s σ H _ us R I rx (.inr ⟨k, rfl, hp.fin (.int _) hs q⟩)
  | bool =>
    rcases hb with ⟨i, rfl, q⟩ | ⟨k, rfl, q⟩
    · obtain ⟨v, rfl, hx⟩ := drs_one hd
      cases hx
      exact call_bool1 pins s σ H _ us R I rx (.inl ⟨i, rfl, hp.fin (.bl _) hs q⟩)
    · obtain ⟨v, rfl, hx⟩ := drs_one hd
      cases hx
      exact call_bool1 pins s σ H _ us R I rx (.inr ⟨k, rfl, hp.fin (.bl _) hs q⟩)
  | abs =>
    obtain ⟨i, rfl, q⟩ := hb
    obtain ⟨v, rfl, hx⟩ := drs_one hd
    cases hx
    exact call_abs pins s σ H _ us R I rx ⟨i, rfl, hp.fin (.int _) hs q⟩
  | max2 =>
    obtain ⟨i, j, rfl, q⟩ := hb
    obtain ⟨v, w, rfl, hx, hy⟩ := drs_two hd
    cases hx
    cases hy
    exact call_max2 c.calm pins s σ H _ us R I rx ⟨i, j, rfl, hp.fin (.int _) hs q⟩
  | min2 =>
    obtain ⟨i, j, rfl, q⟩ := hb
    obtain ⟨v, w, rfl, hx, hy⟩ := drs_two hd
    cases hx
    cases hy
    exact call_min2 c.calm pins s σ H _ us R I rx ⟨i, j, rfl, hp.fin (.int _) hs q⟩
  | repr =>
    obtain ⟨x, p, rfl, e, ok, q⟩ := hb
    obtain ⟨v, rfl, hx⟩ := drs_one hd
    obtain ⟨u, rfl, ru⟩ := vals1 rx
    exact repr_ok c.guards (by have := c.units; omega) I ru (dp_of hs 32 x v p hx e) ok (hp.fin (.str _) hs q)
  | tuple =>
    obtain ⟨x, ys, rfl, e, q⟩ := hb
    obtain ⟨v, rfl, hx⟩ := drs_one hd
    obtain ⟨a, vs, rfl, hq, r⟩ := seqS_of hs hx e
    refine call_tuple_of pins s σ H _ us R I rx ⟨a, vs, rfl, ?_⟩
    rcases hq with hq | hq
    · exact .inl ⟨hq, hp.tup r hs q⟩
    · exact .inr ⟨hq, hp.fin (.tup hq r) hs q⟩
  | list =>
    obtain ⟨x, ys, rfl, e, q⟩ := hb
    obtain ⟨v, rfl, hx⟩ := drs_one hd
    obtain ⟨a, vs, rfl, hq, r⟩ := seqS_of hs hx e
    exact call_list_of pins s σ H _ us R I rx ⟨a, vs, rfl, hq, hp.lst r hs q⟩
  | sum =>
    obtain ⟨x, ys, ns, rfl, e, e2, q⟩ := hb
    obtain ⟨v, rfl, hx⟩ := drs_one hd
    obtain ⟨a, vs, rfl, hq, r⟩ := listS_of hs hx e
    obtain rfl := ints_rel r e2
    exact cr_sum c.calm pins s σ H _ us R I rx ⟨a, ns, rfl, hq, hp.fin (.int _) hs q⟩
  | all =>
    obtain ⟨x, ys, ns, rfl, e, e2, q⟩ := hb
    obtain ⟨v, rfl, hx⟩ := drs_one hd
    obtain ⟨a, vs, rfl, hq, r⟩ := listS_of hs hx e
    obtain rfl := bls_rel r e2
    exact cr_all c.calm pins s σ H _ us R I rx ⟨a, ns, rfl, hq, hp.fin (.bl _) hs q⟩
  | any =>
    obtain ⟨x, ys, ns, rfl, e, e2, q⟩ := hb
    obtain ⟨v, rfl, hx⟩ := drs_one hd
    obtain ⟨a, vs, rfl, hq, r⟩ := listS_of hs hx e
    obtain rfl := bls_rel r e2
    exact cr_any c.calm pins s σ H _ us R I rx ⟨a, ns, rfl, hq, hp.fin (.bl _) hs q⟩
  | max1 =>
    rcases hb with ⟨x, ys, ns, rfl, e, e2, hl, q⟩ | ⟨x, ys, pd, ps, rfl, e, e2, hal, hdp, q⟩
    rotate_left
    · obtain ⟨v, rfl, hx⟩ := drs_one hd
      obtain ⟨a, vs, rfl, hq, r⟩ := listS_of hs hx e
      obtain ⟨its, rv, hl, _⟩ := I.list hq
      obtain ⟨as, hrd⟩ := Dp.readsAll I (pd :: ps) vs its (dpAll_of hs r e2) rv
      rw [Vals.ref1 rx]
      refine PySem.W.max_list_data (I.ok.hd c.calm) hl.isList (by simpa using hrd) hal (by have := c.units; omega) fun i v h' tk bs hv _ hk => ?_
      have hv' : its[i]? = some v := by simpa using hv
      obtain ⟨y, dy, hy, hdy, rvy, rdy⟩ := rel_at r rv hv'
      exact ⟨y, H, I.kept hk, rvy, hp.fin rdy hs (q dy (List.mem_of_getElem? hdy))⟩
    obtain ⟨v, rfl, hx⟩ := drs_one hd
    obtain ⟨a, vs, rfl, hq, r⟩ := listS_of hs hx e
    obtain rfl := ints_rel r e2
    exact cr_max c.calm pins s σ H _ us R I rx ⟨a, ns, rfl, hq, hl, fun m h1 h2 => hp.fin (.int _) hs (q m h1 h2)⟩
  | min1 =>
    rcases hb with ⟨x, ys, ns, rfl, e, e2, hl, q⟩ | ⟨x, ys, pd, ps, rfl, e, e2, hal, hdp, q⟩
    rotate_left
    · obtain ⟨v, rfl, hx⟩ := drs_one hd
      obtain ⟨a, vs, rfl, hq, r⟩ := listS_of hs hx e
      obtain ⟨its, rv, hl, _⟩ := I.list hq
      obtain ⟨as, hrd⟩ := Dp.readsAll I (pd :: ps) vs its (dpAll_of hs r e2) rv
      rw [Vals.ref1 rx]
      refine PySem.W.min_list_data (I.ok.hd c.calm) hl.isList (by simpa using hrd) hal (by have := c.units; omega) fun i v h' tk bs hv _ hk => ?_
      have hv' : its[i]? = some v := by simpa using hv
      obtain ⟨y, dy, hy, hdy, rvy, rdy⟩ := rel_at r rv hv'
      exact ⟨y, H, I.kept hk, rvy, hp.fin rdy hs (q dy (List.mem_of_getElem? hdy))⟩
    obtain ⟨v, rfl, hx⟩ := drs_one hd
    obtain ⟨a, vs, rfl, hq, r⟩ := listS_of hs hx e
    obtain rfl := ints_rel r e2
    exact cr_min c.calm pins s σ H _ us R I rx ⟨a, ns, rfl, hq, hl, fun m h1 h2 => hp.fin (.int _) hs (q m h1 h2)⟩
  | range1 => exact hb.elim
  | range2 => exact hb.elim
/-- the names of the built-in functions that are called -/
def bltT : List (Str × Nat × Blt) := [("len", 1, .len), ("int", 1, .int), ("abs", 1, .abs), ("repr", 1, .repr), ("tuple", 1, .tuple), ("list", 1, .list), ("sum", 1, .sum), ("all", 1, .all), ("any", 1, .any), ("bool", 1, .bool),
  ("max", 1, .max1), ("max", 2, .max2), ("min", 1, .min1), ("min", 2, .min2)]
def bltN (n : Str) (k : Nat) : Option Blt := (bltT.find? fun x => decide (x.1 = n) && decide (x.2.1 = k)).map fun x => x.2.2
theorem bltT_ok : ∀ x ∈ bltT, bootBuiltins x.1 = some (bltV x.2.2) ∧ x.1 ≠ "__name__" ∧ (x.1 == ("__debug__" : Str)) = false := by
  decide +kernel
theorem bltN_boot {n : Str} {k : Nat} {b : Blt} (h : bltN n k = some b) : bootBuiltins n = some (bltV b) ∧ n ≠ "__name__" ∧ (n == ("__debug__" : Str)) = false := by
  unfold bltN at h
  cases e : bltT.find? fun x => decide (x.1 = n) && decide (x.2.1 = k) with
  | none => rw [e] at h; cases h
  | some x =>
    rw [e] at h
    cases h
    have h1 := List.find?_some e
    rw [Bool.and_eq_true] at h1
    have h2 : x.1 = n := of_decide_eq_true h1.1
    have h3 := bltT_ok x (List.mem_of_find?_eq_some e)
    rw [h2] at h3
    exact h3
variable {e : Expr} {es : List Expr} {ca ce : C} {p pos : Pos}
theorem d_blt (cm : Calm X) {b : Blt} {x : Str} (hN : bltN x (es.length + 1) = some b) (hg : Gl X x) (hm : X.mg x = none) (hst : (e :: es).all notStar = true) (ha : PA X (e :: es) (TDA X.K F ca)) : PE X (.Call (.Name x p) (e :: es) [] pos) (TD X.K F (.blt b ca)) := by
  obtain ⟨hv, hn, hdb⟩ := bltN_boot hN
  rw [List.all_cons, Bool.and_eq_true] at hst
  have hs1 := star_cons hst.1 es X.env
  have hs2 := star_any pos X.env es hst.2
  have w : ∀ σ H R, TD X.K F (.blt b ca) σ H R → tCB (TVs X.K (bltS b)) (TDA X.K F ca) σ H R := fun σ H R ⟨ι, ρ, st, Q, e, s, q, p⟩ => .go e s q fun vs H1 ι1 ds st1 h1 k1 e1 d1 s1 q1 => by
    obtain ⟨xs, ex, q2⟩ := q1
    cases ex
    exact ⟨ι1, ds, st1, Q, s1, d1, q2, p.shift h1 k1⟩
  have hc := callB cm b
  cases b <;> first
    | exact (pe_callB hc hg hm hv ha hn hdb hs1 hs2).weak w
    | exact (pe_callTy hc hg hm hv ha hn hdb hs1 hs2).weak w

/-! ### methods of lists -/
theorem mthL (m : Mth) : ∃ id : String, (match m with | .append => id = "list.append" | .pop => id = "list.pop" | .popAt => id = "list.pop" | .extend => id = "list.extend") ∧
    MtR X id (fun x xs H R => ∃ ι d ds st Q, StR X.K ι H st ∧ DR X.K ι H d x ∧ DRs X.K ι H ds xs ∧ mthS m d ds st Q ∧ Post X.K ι H Q R) := by
  cases m with
  | append =>
    refine ⟨_, rfl, ?_⟩
    intro pins s σ H x xs v us R I rx rxs ⟨ι, d, ds, st, Q, hs, hd, hds, hb, hp⟩
    obtain ⟨n, ys, y, rfl, rfl, e, hl, q⟩ := hb
    obtain ⟨w, rfl, hy⟩ := drs_one hds
    cases hd with
    | @ref _ a h1 =>
      obtain ⟨vs, g, r⟩ := cell_lst hs h1 e
      have rr := r.append (.one hy)
      obtain ⟨k, s'⟩ := lst_put hs h1 g rr
      exact mt_append pins s σ H _ _ v us R I rx rxs ⟨a, vs, w, rfl, rfl, g, by rw [← r.len]; exact hl, hp _ _ ι .non _ (List.prefix_refl _) k .non s' q⟩
  | pop =>
    refine ⟨_, rfl, ?_⟩
    intro pins s σ H x xs v us R I rx rxs ⟨ι, d, ds, st, Q, hs, hd, hds, hb, hp⟩
    obtain ⟨n, ys, y, rfl, rfl, e, hl, q⟩ := hb
    cases hds
    cases hd with
    | @ref _ a h1 =>
      obtain ⟨vs, g, r⟩ := cell_lst hs h1 e
      obtain ⟨k, s'⟩ := lst_put hs h1 g r.dropLast
      obtain ⟨w, hw, rw'⟩ := r.get hl
      exact mt_pop pins s σ H _ _ v us R I rx rxs ⟨a, vs, w, rfl, rfl, g, by rw [← r.len]; exact hw, hp _ _ ι y _ (List.prefix_refl _) k (rw'.mono (List.prefix_refl _) k) s' q⟩
  | popAt =>
    refine ⟨_, rfl, ?_⟩
    intro pins s σ H x xs v us R I rx rxs ⟨ι, d, ds, st, Q, hs, hd, hds, hb, hp⟩
    obtain ⟨n, ys, i, j, y, rfl, rfl, e, hi, hj, hl, q⟩ := hb
    obtain ⟨w, rfl, hy⟩ := drs_one hds
    cases hy
    cases hd with
    | @ref _ a h1 =>
      obtain ⟨vs, g, r⟩ := cell_lst hs h1 e
      obtain ⟨k, s'⟩ := lst_put hs h1 g (r.erase j)
      obtain ⟨w, hw, rw'⟩ := r.get hl
      exact mt_popAt pins s σ H _ _ v us R I rx rxs ⟨a, vs, i, j, w, rfl, rfl, g, hi.1, hi.2, by rw [← r.len]; exact hj, hw, hp _ _ ι y _ (List.prefix_refl _) k (rw'.mono (List.prefix_refl _) k) s' q⟩
  | extend =>
    refine ⟨_, rfl, ?_⟩
    intro pins s σ H x xs v us R I rx rxs ⟨ι, d, ds, st, Q, hs, hd, hds, hb, hp⟩
    obtain ⟨n, ys, m, zs, rfl, rfl, e, e2, hl, q⟩ := hb
    obtain ⟨w, rfl, hy⟩ := drs_one hds
    cases hd with
    | @ref _ a h1 =>
      cases hy with
      | @ref _ b h2 =>
        obtain ⟨vs, g, r⟩ := cell_lst hs h1 e
        obtain ⟨ws, g2, r2⟩ := cell_lst hs h2 e2
        obtain ⟨k, s'⟩ := lst_put hs h1 g (r.append r2)
        exact mt_extend pins s σ H _ _ v us R I rx rxs ⟨a, b, vs, ws, rfl, rfl, g, g2, by rw [← r.len, ← r2.len]; exact hl, hp _ _ ι .non _ (List.prefix_refl _) k .non s' q⟩
end
end Cb

namespace Cb
open PySem PySem.Spec PyProof.Rows L2
section
variable {X : Cx} {F : Fm} {o e : Expr} {es : List Expr} {co ca ce : C} {p pos apos cpos : Pos}
/-! ## methods of lists -/
theorem ty_list {K : PySem.W.Frag} {ι : List Addr} {H : Hp} {st : Store} (hs : StR K ι H st) {d : D} {v : V} {xs : List D} (r : DR K ι H d v) (e : listS st d = some xs) : tyV K "list" v H := by
  obtain ⟨a, vs, rfl, h, _⟩ := listS_of hs r e
  exact .inl ⟨rfl, vs, h⟩
theorem d_mth1 {m : Mth} {name : Str} (hm : m = .append ∧ name = "append" ∨ m = .popAt ∧ name = "pop" ∨ m = .extend ∧ name = "extend") (ho : PE X o (TD X.K F co)) (ha : PA X [e] (TDA X.K F ca)) (hb : plainBase o = true) (hl : (apos.endLine == cpos.line) = true) (he : notStar e = true) :
    PE X (.Call (.Attribute o name apos) [e] [] cpos) (TD X.K F (.mth m co ca)) := by
  have hst : ([e] : List Expr).all notStar = true := by simp [he]
  have few : ((backTo cpos (starEach [e] X.env)).all (fun x => !x.1) && (backToKw cpos (keywordEach [] X.env)).all (fun x => x.1.isSome) && decide (([e] : List Expr).length + ([] : List Keyword).length + (if ([] : List Keyword).isEmpty then 0 else 1) < 30)) = true := by
    rw [star_few cpos X.env [e] hst]
    rfl
  have hw : ∀ σ H R, TD X.K F (.mth m co ca) σ H R → tBM X.K "list" (fun x xs H R => ∃ ι d ds st Q, StR X.K ι H st ∧ DR X.K ι H d x ∧ DRs X.K ι H ds xs ∧ mthS m d ds st Q ∧ Post X.K ι H Q R) (TD X.K F co) (TDA X.K F ca) σ H R :=
    fun σ H R ⟨ι, ρ, st, Q, e, s, q, p⟩ => .go e s q fun x H1 ι1 d st1 h1 k1 e1 d1 s1 q1 => by
      obtain ⟨xs, ex, q2⟩ := q1
      exact ⟨ty_list s1 d1 ex, .go e1 s1 q2 fun vs H2 ι2 ds st2 h2 k2 e2 d2 s2 q3 => by
        obtain ⟨ys, ey, q4⟩ := q3
        cases ey
        exact ⟨ι2, d, ds, st2, Q, s2, d1.mono h2 k2, d2, q4, p.shift (h1.trans h2) (k1.trans k2)⟩⟩
  obtain ⟨id, hid, hmt⟩ := mthL (X := X) m
  rcases hm with ⟨rfl, rfl⟩ | ⟨rfl, rfl⟩ | ⟨rfl, rfl⟩
  · simp only at hid
    subst hid
    exact (pe_bm PySem.F.plainAttrs_list PySem.F.slot_list_append PySem.F.type_list_append hmt ho ha (base_ok hb _ _ _) few hl (star_cons he _ _) rfl).weak hw
  · simp only at hid
    subst hid
    exact (pe_bm PySem.F.plainAttrs_list PySem.F.slot_list_pop PySem.F.type_list_pop hmt ho ha (base_ok hb _ _ _) few hl (star_cons he _ _) rfl).weak hw
  · simp only at hid
    subst hid
    exact (pe_bm PySem.F.plainAttrs_list PySem.F.slot_list_extend PySem.F.type_list_extend hmt ho ha (base_ok hb _ _ _) few hl (star_cons he _ _) rfl).weak hw
theorem d_mth0 (ho : PE X o (TD X.K F co)) (hb : plainBase o = true) (hl : (apos.endLine == cpos.line) = true) : PE X (.Call (.Attribute o "pop" apos) [] [] cpos) (TD X.K F (.mth .pop co .nil)) := by
  obtain ⟨id, hid, hmt⟩ := mthL (X := X) .pop
  simp only at hid
  subst hid
  exact (pe_bm0 PySem.F.plainAttrs_list PySem.F.slot_list_pop PySem.F.type_list_pop hmt ho (base_ok hb _ _ _) hl).weak fun σ H R ⟨ι, ρ, st, Q, e, s, q, p⟩ => .go e s q fun x H1 ι1 d st1 h1 k1 e1 d1 s1 q1 => by
    obtain ⟨xs, ex, ys, ey, q2⟩ := q1
    cases ey
    exact ⟨ty_list s1 d1 ex, ι1, d, [], st1, Q, s1, d1, .nil, q2, p.shift h1 k1⟩

/-! ## isinstance -/
def tyStr : Ty → String
  | .non => "NoneType" | .bool => "bool" | .int => "int" | .str => "str" | .list => "list" | .tuple => "tuple" | .dict => "dict"
theorem kit_tab (t u : Ty) : kitB (tyStr t) (tyStr u) = some (isTy t u) := by
  cases t <;> cases u <;> decide +kernel
theorem tyX_of {K : PySem.W.Frag} {ι : List Addr} {H : Hp} {st : Store} (hs : StR K ι H st) {d : D} {v : V} {t : Ty} (r : DR K ι H d v) (e : tyOf st d = some t) : TyX K H v (.type (tyStr t)) := by
  cases r with
  | non => cases e; exact .base .non
  | bl b => cases e; exact .base (.bl b)
  | int b => cases e; exact .base (.int b)
  | str b => cases e; exact .base (.str b)
  | @tup a vs ds h1 h2 =>
    cases e
    rcases h1 with (h1 | ⟨o, h1⟩) | ⟨o, its, n, hk, hc, _⟩
    · exact .base (.tup h1)
    · exact .fTuple h1
    · exact .kTuple hk hc
  | @ref n a h1 =>
    simp only [tyOf] at e
    split at e
    · rename_i e0
      cases e
      obtain ⟨vs, g, r⟩ := hs.at e0 h1
      exact .base (.lst g)
    · rename_i e0
      cases e
      obtain ⟨o, vs, g, r⟩ := hs.at e0 h1
      exact .base (.frz g)
    · rename_i e0
      cases e
      obtain ⟨vs, g, r⟩ := hs.at e0 h1
      exact .base (.dK g)
    · cases e
    · cases e
def tyT : List (Str × Ty) := [("bool", .bool), ("int", .int), ("str", .str), ("list", .list), ("tuple", .tuple), ("dict", .dict)]
def tyN (n : Str) : Option Ty := tyT.lookup n
theorem tyT_ok : ∀ x ∈ tyT, bootBuiltins x.1 = some (.type (tyStr x.2)) ∧ x.1 ≠ "__name__" ∧ (x.1 == ("__debug__" : Str)) = false := by decide +kernel
theorem tyN_boot {n : Str} {t : Ty} (h : tyN n = some t) : bootBuiltins n = some (.type (tyStr t)) ∧ n ≠ "__name__" ∧ (n == ("__debug__" : Str)) = false :=
  tyT_ok (n, t) (PySem.mem_of_lookup h)
theorem d_isi1 {x : Str} {t : Ty} {px : Pos} (hg : Gl X "isinstance") (hm : X.mg "isinstance" = none) (ha : PE X e (TD X.K F ce)) (hx : tyN x = some t) (hgx : Gl X x) (hmx : X.mg x = none) (he : notStar e = true) :
    PE X (.Call (.Name "isinstance" p) [e, .Name x px] [] cpos) (TD X.K F (.isi ce [t])) := by
  obtain ⟨b1, b2, b3⟩ := tyN_boot hx
  refine (pe_callB call_isi hg hm (by decide +kernel) (pa_cons ha (pa_cons (pe_bltn (v := .ty (tyStr t)) hgx hmx b1 rfl b2 b3) pa_nil rfl) (star_cons he _ _)) (by decide +kernel) (by decide +kernel) (star_cons he _ _) rfl).weak fun σ H R ⟨ι, ρ, st, Q, e, s, q, p⟩ => .go e s q fun v H1 ι1 d st1 h1 k1 e1 d1 s1 q1 => ?_
  obtain ⟨t', et, q2⟩ := q1
  exact ⟨v, .ty (tyStr t), _, _, isTy t' t, rfl, .ty _, tyX_of s1 d1 et, kit_ty (kit_tab t' t), (p.shift h1 k1).fin (.bl _) s1 (by simpa using q2)⟩
/-- a tuple of types -/
inductive TyNs (X : Cx) : List Expr → List Ty → Prop
  | nil : TyNs X [] []
  | cons {x : Str} {px : Pos} {t : Ty} {es : List Expr} {ts : List Ty} : tyN x = some t → Gl X x → X.mg x = none → TyNs X es ts → TyNs X (.Name x px :: es) (t :: ts)
theorem tyNs_pa {es : List Expr} {ts : List Ty} (h : TyNs X es ts) : PA X es fun σ H R => R (ts.map fun t => .ty (tyStr t)) H := by
  induction h with
  | nil => exact pa_nil
  | cons h1 h2 h3 _ ih =>
    obtain ⟨b1, b2, b3⟩ := tyN_boot h1
    exact (pa_cons (pe_bltn (v := .ty (tyStr _)) h2 h3 b1 rfl b2 b3) ih rfl).weak fun σ H R q => q
theorem kit_any {K : PySem.W.Frag} (t : Ty) : ∀ ts : List Ty, PySem.W.kitAny K (.type (tyStr t)) (ts.map fun u => .type (tyStr u)) = some (ts.any fun u => isTy t u)
  | [] => kitAny_nil
  | u :: ts => by
    rw [List.map_cons, List.any_cons]
    refine kitAny_cons (kit_ty (kit_tab t u)) (fun hb => ?_) (fun hb => ?_)
    · rw [hb, Bool.false_or]
      exact kit_any t ts
    · rw [hb, Bool.true_or]
theorem cls_all : ∀ ts : List Ty, Paired ClsV (ts.map fun t => V.ty (tyStr t)) (ts.map fun t => Value.type (tyStr t))
  | [] => .nil
  | t :: ts => .cons (.ty _) (cls_all ts)
theorem d_isiT {ts : List Ty} {j : Nat} {px : Pos} (hg : Gl X "isinstance") (hm : X.mg "isinstance" = none) (ha : PE X e (TD X.K F ce)) (ht : TyNs X es ts) (hl : ts.length ≤ 100) (he : notStar e = true) :
    PE X (.Call (.Name "isinstance" p) [e, .Tuple es j px] [] cpos) (TD X.K F (.isi ce ts)) := by
  refine (pe_callB call_isiT hg hm (by decide +kernel) (pa_cons ha (pa_cons (pe_tup (tyNs_pa ht)) pa_nil rfl) (star_cons he _ _)) (by decide +kernel) (by decide +kernel) (star_cons he _ _) rfl).weak fun σ H R ⟨ι, ρ, st, Q, e, s, q, p⟩ => .go e s q fun v H1 ι1 d st1 h1 k1 e1 d1 s1 q1 => ?_
  obtain ⟨t', et, q2⟩ := q1
  refine ⟨by rw [List.length_map, sizeLine_eq]; omega, fun a hp => ?_⟩
  have s2 := s1.newTup (o := .tup (ts.map fun t => .ty (tyStr t))) hp
  have d2 := d1.mono (List.prefix_refl _) (KeepT.new (o := .tup (ts.map fun t => .ty (tyStr t))) hp)
  exact ⟨v, a, _, _, _, _, rfl, upd_same, cls_all ts, tyX_of s2 d2 et, kit_any t' ts, ((p.shift h1 k1).shift (List.prefix_refl _) (.new1 hp)).fin (.bl _) s2 q2⟩

/-! ## a written dict -/
/-- its keys: texts or whole numbers -/
def keyC : Expr → Option Key
  | .Constant (.str s) _ _ => some (.inr s)
  | .Constant (.int i) _ _ => some (.inl i)
  | _ => none
theorem key_pe {k : Expr} {kk : Key} (h : keyC k = some kk) : PE X k (tC (kV kk)) := by
  unfold keyC at h
  split at h <;> cases h
  · exact pe_str
  · exact pe_int
/-- the values' readings beside the keys -/
def TPs (K : PySem.W.Frag) (F : Fm) : List Key → C → List (TE × TE)
  | k :: ks, .cons c cs => (tC (kV k), TD K F c) :: TPs K F ks cs
  | _, _ => []
inductive Dsp (X : Cx) (F : Fm) : List (Option Expr) → List Expr → List Key → C → Prop
  | nil : Dsp X F [] [] [] .nil
  | cons {k v : Expr} {kk : Key} {c cs : C} {ks : List (Option Expr)} {vs : List Expr} {kks : List Key} : keyC k = some kk → PE X v (TD X.K F c) → Dsp X F ks vs kks cs → Dsp X F (some k :: ks) (v :: vs) (kk :: kks) (.cons c cs)
theorem dsp_pps {ks : List (Option Expr)} {vs : List Expr} {kks : List Key} {cs : C} (h : Dsp X F ks vs kks cs) (pos : Pos) : PPs X pos ks vs (TPs X.K F kks cs) := by
  induction h with
  | nil => exact pps_nil
  | cons h1 h2 _ ih => exact pps_cons (key_pe h1) h2 ih
theorem dsp_len {ks : List (Option Expr)} {vs : List Expr} {kks : List Key} {cs : C} (h : Dsp X F ks vs kks cs) : ks.length = kks.length ∧ ks.length = vs.length ∧ ks.all (·.isSome) = true := by
  induction h with
  | nil => exact ⟨rfl, rfl, rfl⟩
  | cons h1 h2 _ ih =>
    obtain ⟨a, b, c⟩ := ih
    refine ⟨by simp [a], by simp [b], by simp [c]⟩
/-- the values, key by key -/
theorem dsp_run {ks : List (Option Expr)} {vs : List Expr} {kks : List Key} {cs : C} (h : Dsp X F ks vs kks cs) : ∀ {ι : List Addr} {ρ : Env1} {st : Store} {σ : L2.St} {H : Hp} {Q : K1} {R : List (V × V) → Hp → Prop}, EnvR X.K ι H σ ρ → StR X.K ι H st → wp F cs ρ st Q →
    (∀ ps H' ι' (ds : List D) st', ι <+: ι' → Keep ι ι' H H' → ds.length = kks.length → (∃ zs : List (Key × V), ps = zs.map (fun kv => (kV kv.1, kv.2)) ∧ DKs X.K ι' H' (kks.zip ds) zs ∧ zs.length = kks.length) → StR X.K ι' H' st' → Q (.tup ds) st' → R ps H') → tPairs (TPs X.K F kks cs) σ H R := by
  induction h with
  | nil =>
    intro ι ρ st σ H Q R e s q k
    exact k [] H ι [] st (List.prefix_refl _) (.refl H) rfl ⟨[], rfl, .nil, rfl⟩ s q
  | @cons k v kk c cs ks vs kks h1 h2 _ ih =>
    intro ι ρ st σ H Q R e s q kont
    exact TD.go e s q fun x H1 ι1 d st1 g1 k1 e1 d1 s1 q1 => ih e1 s1 q1 fun ps H2 ι2 ds st2 g2 k2 hl ⟨zs, ez, rz, lz⟩ s2 q2 => by
      obtain ⟨xs, ex, q3⟩ := q2
      cases ex
      refine kont _ H2 ι2 (d :: ds) st2 (g1.trans g2) (k1.trans k2) (by simp [hl]) ⟨(kk, x) :: zs, by rw [ez]; rfl, .cons (d1.mono g2 k2) rz, by simp [lz]⟩ s2 q3
/-- no key twice -/
def distinct : List Key → Bool
  | [] => true
  | k :: ks => ks.all (fun j => !decide (j = k)) && distinct ks
theorem merge_new : ∀ {more kvs : List (Key × V)}, distinct (more.map (·.1)) = true → (∀ k ∈ more.map (·.1), valV kvs k = none) → mergeK kvs more = kvs ++ more
  | [], kvs, _, _ => by rw [List.append_nil]; rfl
  | p :: more, kvs, hd, hn => by
    have h1 : valV kvs p.1 = none := hn _ (by simp)
    show mergeK (putK kvs p.1 p.2) more = _
    rw [putK_new _ h1]
    rw [List.map_cons] at hd
    unfold distinct at hd
    rw [Bool.and_eq_true] at hd
    rw [merge_new hd.2 fun k hk => ?_]
    · simp
    · rw [valV_snoc _ _ _ _ h1, if_neg]
      · exact hn k (by rw [List.map_cons]; exact List.mem_cons_of_mem _ hk)
      · rintro rfl
        have := List.all_eq_true.mp hd.1 _ hk
        simp at this
theorem dks_keys {K : PySem.W.Frag} {ι : List Addr} {H : Hp} : ∀ {kks : List Key} {ds : List D} {zs : List (Key × V)}, ds.length = kks.length → DKs K ι H (kks.zip ds) zs → zs.map (·.1) = kks
  | [], ds, zs, _, h => by
    rw [List.zip_nil_left] at h
    cases h
    rfl
  | k :: kks, [], zs, hl, _ => by cases hl
  | k :: kks, d :: ds, zs, hl, h => by
    rw [List.zip_cons_cons] at h
    cases h with
    | cons r t => rw [List.map_cons, dks_keys (by simpa using hl) t]
theorem d_dsp {ks : List (Option Expr)} {vs : List Expr} {kks : List Key} {cs : C} (h : Dsp X F ks vs kks cs) (h0 : ks.isEmpty = false) (h15 : ks.length ≤ 15) (hd : distinct kks = true) : PE X (.Dict ks vs pos) (TD X.K F (.dsp kks cs)) := by
  obtain ⟨l1, l2, l3⟩ := dsp_len h
  refine (pe_disp (dsp_pps h pos) l3 l2 (fun e => by rw [e] at h0; cases h0) h15).weak fun σ H R ⟨ι, ρ, st, Q, e, s, q, p⟩ => ?_
  intro a ha
  have k0 : Keep ι ι H (upd H a (.dK [])) := .new1 ha
  refine dsp_run h (e.mono (List.prefix_refl _) k0) (s.newTup ha) q fun ps H' ι' ds st' g1 k1 hl ⟨zs, ez, rz, lz⟩ s' q' => ?_
  obtain ⟨xs, ex, q2⟩ := q'
  cases ex
  have hai : a ∉ ι := fun hm => by
    obtain ⟨n, hn⟩ := List.getElem?_of_mem hm
    obtain ⟨hlt, _⟩ := List.getElem?_eq_some_iff.mp hn
    obtain ⟨o, eo⟩ := (s.cell n _ a (List.getElem?_eq_getElem (by rw [← s.len]; exact hlt)) hn).some
    rw [ha] at eo
    cases eo
  have hH : H' a = some (.dK []) := k1.out a _ upd_same hai
  have hai' : a ∉ ι' := fun hm => by
    rcases k1.new a hm with z | z
    · exact hai z
    · rw [upd_same] at z
      cases z
  have hz := dks_keys hl rz
  refine ⟨hH, zs, ez, by omega, ?_⟩
  rw [merge_new (kvs := []) (by rw [hz]; exact hd) fun _ _ => rfl, List.nil_append]
  have kT : KeepT H' (upd H' a (.dK zs)) := .upd hH (fun _ h => by cases h) fun _ _ h => by cases h
  have hne : ∀ (n : Nat) (b : Addr), ι'[n]? = some b → b ≠ a := fun n b hb z => hai' (by rw [← z]; exact List.mem_of_getElem? hb)
  refine p (.ref a) (upd H' a (.dK zs)) (ι' ++ [a]) (.ref st'.length) _ (g1.trans (List.prefix_append _ _)) ?_ (.last s') ?_ q2
  · refine ⟨fun c x hc => kT.tup c x (k1.tup c x (k0.tup c x hc)), fun c o u hc => kT.frz c o u (k1.frz c o u (k0.frz c o u hc)), fun c o hc hn => ?_, fun c hc => ?_⟩
    · have hca : c ≠ a := ne_of_none hc ha
      rw [upd_ne hca]
      exact k1.out c o (k0.out c o hc hn) hn
    · rcases List.mem_append.mp hc with hc | hc
      · rcases k1.new c hc with z | z
        · exact .inl z
        · right
          by_cases e : c = a
          · rw [e]; exact ha
          · rw [upd_ne e] at z
            exact z
      · right
        rw [List.mem_singleton.mp hc]
        exact ha
  · refine ⟨by rw [List.length_append, List.length_append, s'.len]; rfl, ?_, fun n c b ec hb => ?_⟩
    · refine List.nodup_append.mpr ⟨s'.nd, by simp, fun x hx y hy => ?_⟩
      have : y = a := by simpa using hy
      subst this
      intro z
      subst z
      exact hai' hx
    · by_cases hn : n < st'.length
      · rw [List.getElem?_append_left hn] at ec
        rw [List.getElem?_append_left (by rw [s'.len]; exact hn)] at hb
        exact (s'.cell n c b ec hb).mono (List.prefix_append _ _) kT (upd_ne (hne n b hb))
      · have hln : n < (st' ++ [Cell.dct (kks.zip ds)]).length := (List.getElem?_eq_some_iff.mp ec).1
        have e0 : n = st'.length := by
          rw [List.length_append] at hln
          simp only [List.length_singleton] at hln
          omega
        subst e0
        rw [List.getElem?_append_right (Nat.le_refl _), Nat.sub_self] at ec
        rw [List.getElem?_append_right (by rw [s'.len]; exact Nat.le_refl _), s'.len, Nat.sub_self] at hb
        obtain rfl : _ = c := Option.some.inj ec
        obtain rfl : a = b := Option.some.inj hb
        exact ⟨zs, upd_same, rz.mono (List.prefix_append _ _) kT⟩
end
end Cb

namespace Cb
open PySem PySem.Spec PyProof.Rows L2

/-! ## what is walked -/
/-- HandS's iterator does what ours does, as long as the heap keeps what it kept at its beginning -/
def ItR (K : PySem.W.Frag) (ι0 : List Addr) (H0 : Hp) (J : It) (it : ItD) : Prop :=
  ∀ (ι : List Addr) (H : Hp) (st : Store) (i : Nat), ι0 <+: ι → KeepT H0 H → StR K ι H st →
    (it.step i st = some none → J.stop i H) ∧
    ∀ d, it.step i st = some (some d) → J.go i H ∧ ∀ x H', J.yld i H x H' → Keep ι ι H H' ∧ StR K ι H' st ∧ DR K ι H' d x
def TI' (K : PySem.W.Frag) (F : Fm) (k : Ik) (as : C) : TI := fun σ H R => ∃ (ι : List Addr) (ρ : Env1) (st : Store) (Q : ItD → Store → Prop), EnvR K ι H σ ρ ∧ StR K ι H st ∧ (wp F as ρ st fun y st1 => ∃ xs, y = .tup xs ∧ som (itOf k xs st1) fun it => Q it st1) ∧
  ∀ J H' ι' it st', ι <+: ι' → Keep ι ι' H H' → EnvR K ι' H' σ ρ → StR K ι' H' st' → ItR K ι' H' J it → Q it st' → R J H'
section
variable {X : Cx} {F : Fm} {tg a b e elt : Expr} {es : List Expr} {ca cb ce cc as : C} {p pos : Pos}
/-- a list or a tuple walked -/
theorem pi_seq {l : Expr} {tl : TE} (hl : PE X l tl) : PI X tg l (fun σ H R => tl σ H fun x H1 => ∃ a, x = .ref a ∧ (((∃ xs, SqL X.K H1 a xs) ∧ R (Itl X.K a) H1) ∨ ((∃ xs, SqT X.K H1 a xs) ∧ R (Itt X.K a) H1))) := by
  refine ⟨fun pins s σ H R I h => ?_⟩
  refine thn (hl.run pins s σ H _ I h) fun v s1 ⟨x, H1, I1, r1, q1⟩ => ?_
  obtain ⟨a, e, q1⟩ := q1
  subst e
  cases r1
  have fp : ∀ b ∈ [s1.heap.objs.size], FpOk X pins H1 b := fun b hb => by
    have e : b = s1.heap.objs.size := by simpa using hb
    subst e
    exact I1.fpOk (Nat.le_refl _) (I1.hok.fresh (Nat.le_refl _))
  rcases q1 with ⟨⟨xs, hq⟩, q⟩ | ⟨⟨xs, hq⟩, q⟩
  · obtain ⟨its, rv, pl, hz⟩ := I1.list hq
    refine wpAny_pyIter_list pl.isList ?_
    exact ⟨s1.heap.objs.size, [s1.heap.objs.size], _, _, H1, rfl, I1.kept (t' := s1.toks) fun b o e => Heap.get?_push_of_some _ e, turn_list a _, ⟨_, Heap.get?_push_size _ rfl, rfl, rfl⟩, fp, q⟩
  · obtain ⟨its, rv, pl, hz⟩ := I1.tuple hq
    refine wpAny_pyIter_tuple (show s1.heap.IsTuple a its.toArray from pl) ?_
    exact ⟨s1.heap.objs.size, [s1.heap.objs.size], _, _, H1, rfl, I1.kept (t' := s1.toks) fun b o e => Heap.get?_push_of_some _ e, turn_tuple a _, ⟨_, Heap.get?_push_size _ rfl, rfl, rfl⟩, fp, q⟩
theorem _root_.L2.PI.weak {t t' : TI} (h : PI X tg e t) (w : ∀ σ H Q, t' σ H Q → t σ H Q) : PI X tg e t' := ⟨fun pins s σ H Q I q => h.run pins s σ H Q I (w _ _ _ q)⟩
theorem list_one {K : PySem.W.Frag} {H : Hp} {a : Addr} {vs ws : List V} (h : SqL K H a vs) (g : SqL K H a ws) (hH : ∃ o, H a = some o) : True := trivial
/-- the items of a live list -/
theorem itr_live {K : PySem.W.Frag} {ι0 : List Addr} {H0 : Hp} {n : Nat} {a : Addr} (h : ι0[n]? = some a) : ItR K ι0 H0 (Itl K a) (.src (.live n)) := by
  intro ι H st i hι hk hs
  have hn := pre_get hι h
  have main : ∀ xs vs, SqL K H a vs → DRs K ι H xs vs → (Src.at st (.live n) = some xs) → ((ItD.src (.live n)).step i st = some none → (Itl K a).stop i H) ∧
      ∀ d, (ItD.src (.live n)).step i st = some (some d) → (Itl K a).go i H ∧ ∀ x H', (Itl K a).yld i H x H' → Keep ι ι H H' ∧ StR K ι H' st ∧ DR K ι H' d x := by
    intro xs vs hq r e
    simp only [ItD.step, e, Option.map_some]
    refine ⟨fun e1 => ?_, fun d e1 => ?_⟩
    · have e2 : xs[i]? = none := Option.some.inj e1
      exact ⟨vs, hq, by rw [← r.len]; exact List.getElem?_eq_none_iff.mp e2⟩
    · have e2 : xs[i]? = some d := Option.some.inj e1
      obtain ⟨v, hv, rv⟩ := r.get e2
      refine ⟨⟨vs, v, hq, hv⟩, fun x H' y => ?_⟩
      obtain ⟨rfl, hy⟩ := y
      have e3 : v = x := Option.some.inj (hv.symm.trans (hy vs hq))
      subst e3
      exact ⟨.refl _, hs, rv⟩
  cases e0 : st[n]? with
  | none =>
    refine ⟨fun e1 => ?_, fun d e1 => ?_⟩ <;> (simp only [ItD.step, Src.at, e0] at e1; cases e1)
  | some c =>
    cases c with
    | lst xs =>
      obtain ⟨vs, g, r⟩ := hs.at e0 hn
      exact main xs vs (.inl (.inl g)) r (by simp only [Src.at, e0])
    | frz xs =>
      obtain ⟨o, vs, g, r⟩ := hs.at e0 hn
      exact main xs vs (.inl (.inr ⟨o, g⟩)) r (by simp only [Src.at, e0])
    | dct xs => refine ⟨fun e1 => ?_, fun d e1 => ?_⟩ <;> (simp only [ItD.step, Src.at, e0] at e1; cases e1)
    | ins c xs => refine ⟨fun e1 => ?_, fun d e1 => ?_⟩ <;> (simp only [ItD.step, Src.at, e0] at e1; cases e1)
theorem itr_seq {K : PySem.W.Frag} {ι0 : List Addr} {H0 : Hp} {a : Addr} {xs : List D} {vs : List V} (h : SqT K H0 a vs) (r : DRs K ι0 H0 xs vs) : ItR K ι0 H0 (Itt K a) (.src (.seq xs)) := by
  intro ι H st i hι hk hs
  have hq := hk.seq h
  have r2 := r.mono hι hk
  simp only [ItD.step, Src.at, Option.map_some]
  refine ⟨fun e1 => ?_, fun d e1 => ?_⟩
  · have e2 : xs[i]? = none := Option.some.inj e1
    exact ⟨vs, hq, by rw [← r.len]; exact List.getElem?_eq_none_iff.mp e2⟩
  · have e2 : xs[i]? = some d := Option.some.inj e1
    obtain ⟨v, hv, rv⟩ := r2.get e2
    refine ⟨⟨vs, v, hq, hv⟩, fun x H' y => ?_⟩
    obtain ⟨rfl, hy⟩ := y
    have e3 : v = x := Option.some.inj (hv.symm.trans (hy vs hq))
    subst e3
    exact ⟨.refl _, hs, rv⟩
theorem itr_rng {K : PySem.W.Frag} {ι0 : List Addr} {H0 : Hp} {lo : Int} {n : Nat} : ItR K ι0 H0 (Itr lo n) (.rng lo 1 n) := by
  intro ι H st i hι hk hs
  simp only [ItD.step]
  by_cases hi : i < n
  · rw [if_pos hi]
    refine ⟨fun e1 => (by cases e1), fun d e1 => ⟨hi, fun x H' y => ?_⟩⟩
    cases e1
    obtain ⟨rfl, rfl⟩ := y
    rw [Int.mul_one]
    exact ⟨.refl _, hs, .int _⟩
  · rw [if_neg hi]
    exact ⟨fun _ => Nat.le_of_not_lt hi, fun d e1 => (by cases e1)⟩
theorem i_plain (ha : PE X a (TD X.K F ca)) : PI X tg a (TI' X.K F .plain (.cons ca .nil)) :=
  (pi_seq ha).weak fun σ H R ⟨ι, ρ, st, Q, e, s, q, p⟩ => .go e s q fun x H1 ι1 d st1 h1 k1 e1 d1 s1 q1 => by
    obtain ⟨xs, ex, ys, ey, q2⟩ := q1
    cases ex
    cases ey
    obtain ⟨it, ei, q3⟩ := q2
    cases d1 with
    | @tup a' vs ds g1 g2 =>
      cases ei
      exact ⟨a', rfl, .inr ⟨⟨vs, g1⟩, p _ H1 ι1 _ st1 h1 k1 e1 s1 (itr_seq g1 g2) q3⟩⟩
    | @ref n a' g1 =>
      simp only [itOf, srcOf] at ei
      refine ⟨a', rfl, .inl ?_⟩
      split at ei
      · rename_i e0
        cases ei
        obtain ⟨vs, g, r⟩ := s1.at e0 g1
        exact ⟨⟨vs, .inl (.inl g)⟩, p _ H1 ι1 _ st1 h1 k1 e1 s1 (itr_live g1) q3⟩
      · rename_i e0
        cases ei
        obtain ⟨o, vs, g, r⟩ := s1.at e0 g1
        exact ⟨⟨vs, .inl (.inr ⟨o, g⟩)⟩, p _ H1 ι1 _ st1 h1 k1 e1 s1 (itr_live g1) q3⟩
      · cases ei
    | _ => cases ei
theorem i_range1 (hg : Gl X "range") (hm : X.mg "range" = none) (ha : PA X [a] (TDA X.K F as)) (hs : notStar a = true) : PI X tg (.Call (.Name "range" p) [a] [] pos) (TI' X.K F .range1 as) :=
  (pi_range1 hg hm ha (star_cons hs _ _)).weak fun σ H R ⟨ι, ρ, st, Q, e, s, q, p⟩ => .go e s q fun vs H1 ι1 ds st1 h1 k1 e1 d1 s1 q1 => by
    obtain ⟨xs, ex, it, ei, q2⟩ := q1
    cases ex
    cases d1 with
    | nil => cases ei
    | cons r t =>
      cases t with
      | nil =>
        cases r <;> simp only [itOf] at ei <;> try cases ei
        rename_i j
        split at ei
        · rename_i hj
          cases ei
          exact ⟨j, rfl, hj.1, hj.2, p _ H1 ι1 _ st1 h1 k1 e1 s1 itr_rng q2⟩
        · cases ei
      | cons r2 t2 => cases r <;> cases ei
theorem i_range2 (hg : Gl X "range") (hm : X.mg "range" = none) (ha : PA X [a, b] (TDA X.K F as)) (hs : notStar a = true) (hs2 : notStar b = true) : PI X tg (.Call (.Name "range" p) [a, b] [] pos) (TI' X.K F .range2 as) :=
  (pi_range2 hg hm ha (by rw [star_cons hs, star_cons hs2]; rfl) (star_cons hs2 _ _)).weak fun σ H R ⟨ι, ρ, st, Q, e, s, q, p⟩ => .go e s q fun vs H1 ι1 ds st1 h1 k1 e1 d1 s1 q1 => by
    obtain ⟨xs, ex, it, ei, q2⟩ := q1
    cases ex
    cases d1 with
    | nil => cases ei
    | cons r t =>
      cases t with
      | nil => cases r <;> cases ei
      | cons r2 t2 =>
        cases t2 with
        | nil =>
          cases r <;> cases r2 <;> simp only [itOf] at ei <;> try cases ei
          rename_i i j
          split at ei
          · rename_i hj
            cases ei
            exact ⟨i, j, rfl, ⟨hj.1.1, hj.1.2, hj.2.1, hj.2.2⟩, p _ H1 ι1 _ st1 h1 k1 e1 s1 itr_rng q2⟩
          · cases ei
        | cons r3 t3 => cases r <;> cases r2 <;> cases ei

/-! ## targets -/
/-- but for these places -/
structure Off (vs : List Nat) (σ σ' : L2.St) : Prop where
  len : σ'.length = σ.length
  get : ∀ i, i ∉ vs → σ'[i]? = σ[i]?
theorem Off.refl (vs : List Nat) (σ : L2.St) : Off vs σ σ := ⟨rfl, fun _ _ => rfl⟩
theorem Off.set {i : Nat} {x : Option V} (σ : L2.St) : Off [i] σ (σ.set i x) := ⟨List.length_set, fun j hj => List.getElem?_set_ne fun e => hj (by simp [e])⟩
theorem Off.trans {vs ws : List Nat} {σ σ1 σ2 : L2.St} (a : Off vs σ σ1) (b : Off ws σ1 σ2) : Off (vs ++ ws) σ σ2 := ⟨b.len.trans a.len, fun i hi => by
  rw [List.mem_append, not_or] at hi
  exact (b.get i hi.2).trans (a.get i hi.1)⟩
def TG' (K : PySem.W.Frag) (t : Tg) : TG := fun v σ H R => ∃ ι d ρ ρ' st, EnvR K ι H σ ρ ∧ DR K ι H d v ∧ StR K ι H st ∧ setTg t d ρ = some ρ' ∧ ∀ σ', EnvR K ι H σ' ρ' → Off t.vars σ σ' → R σ' H
def TGs' (K : PySem.W.Frag) (t : Tg) : TGs := fun vs σ H R => ∃ ι ds ρ ρ' st, EnvR K ι H σ ρ ∧ DRs K ι H ds vs ∧ StR K ι H st ∧ setTg t (.tup ds) ρ = some ρ' ∧ ∀ σ', EnvR K ι H σ' ρ' → Off t.vars σ σ' → R σ' H
theorem _root_.L2.PG.weak {t t' : TG} (h : PG X e t) (w : ∀ v σ H Q, t' v σ H Q → t v σ H Q) : PG X e t' := ⟨fun pins s σ H v u Q I r q => h.run pins s σ H v u Q I r (w _ _ _ _ q)⟩
theorem _root_.L2.PGs.weak {t t' : TGs} (h : PGs X es t) (w : ∀ v σ H Q, t' v σ H Q → t v σ H Q) : PGs X es t' := ⟨fun pins s σ H v u Q I r q => h.run pins s σ H v u Q I r (w _ _ _ _ q)⟩
theorem g_name {i : Nat} {x : Str} (hN : X.N.Nodup) (hi : X.N[i]? = some x) (hx : Loc X.env.scope x) (hf : X.fn x = true ∨ X.env.scope.names.lookup x = some .local) : PG X (.Name x pos) (TG' X.K (.name i)) :=
  (pg_name hN hi hx hf).weak fun v σ H R ⟨ι, d, ρ, ρ', st, e, hd, s, es, q⟩ => by
    cases es
    exact q _ (e.set hd i) (Off.set σ)
theorem gs_nil : PGs X [] (TGs' X.K .nil) := pgs_nil.weak fun v σ H R ⟨ι, ds, ρ, ρ', st, e, hd, s, es, q⟩ => by
  cases hd with
  | nil =>
    cases es
    exact ⟨rfl, q _ e (Off.refl _ _)⟩
  | cons _ _ => cases es
/-- a target is a name or a tuple of targets -/
def plainTg : Expr → Bool
  | .Name .. => true
  | .Tuple .. => true
  | _ => false
theorem tg_each {e : Expr} (h : plainTg e = true) (es : List Expr) (env : Env) : (assignEach (e :: es) env).map (·.2) = assign e env :: (assignEach es env).map (·.2) := by
  cases e <;> first | rfl | cases h
theorem gs_cons {t ts : Tg} (h1 : PG X a (TG' X.K t)) (h2 : PGs X es (TGs' X.K ts)) (hp : plainTg a = true) : PGs X (a :: es) (TGs' X.K (.cons t ts)) :=
  (pgs_cons h1 h2 (tg_each hp _ _)).weak fun v σ H R ⟨ι, ds, ρ, ρ', st, e, hd, s, es, q⟩ => by
    cases hd with
    | nil => cases es
    | cons r rr =>
      simp only [setTg] at es
      split at es
      · rename_i ρ1 e1
        exact ⟨_, _, rfl, ι, _, ρ, ρ1, st, e, r, s, e1, fun σ' e' o' => ⟨ι, _, ρ1, ρ', st, e', rr, s, es, fun σ2 e2 o2 => q σ2 e2 (o'.trans o2)⟩⟩
      · cases es
theorem tg_len : ∀ {es : List Expr} (_ : es.all plainTg = true) (env : Env), (assignEach es env).length = es.length ∧ (assignEach es env).findIdx? (·.1) = none
  | [], _, _ => ⟨rfl, rfl⟩
  | e :: es, h, env => by
    rw [List.all_cons, Bool.and_eq_true] at h
    obtain ⟨h1, h2⟩ := tg_len h.2 env
    have e1 : ∃ f, assignEach (e :: es) env = (false, f) :: assignEach es env := by
      cases e <;> first | exact ⟨_, rfl⟩ | cases h.1
    obtain ⟨f, e1⟩ := e1
    rw [e1]
    refine ⟨by simp [h1], ?_⟩
    rw [List.findIdx?_cons]
    simp [h2]
def Tg.size : Tg → Nat
  | .cons _ ts => ts.size + 1
  | _ => 0
/-- a row of targets -/
inductive Row : Tg → List Expr → Prop
  | nil : Row .nil []
  | cons {t ts : Tg} {e : Expr} {es : List Expr} : Row ts es → Row (.cons t ts) (e :: es)
theorem row_len {t : Tg} {es : List Expr} (h : Row t es) : ∀ {ds : List D} {ρ ρ' : Env1}, setTg t (.tup ds) ρ = some ρ' → ds.length = es.length := by
  induction h with
  | nil =>
    intro ds ρ ρ' h
    cases ds with
    | nil => rfl
    | cons d ds => cases h
  | cons _ ih =>
    intro ds ρ ρ' h
    cases ds with
    | nil => cases h
    | cons d ds =>
      simp only [setTg] at h
      split at h
      · simp [ih h]
      · cases h
theorem g_tup {t : Tg} {k : Nat} (hc : X.calm = true) (h : PGs X es (TGs' X.K t)) (hp : es.all plainTg = true) (hr : Row t es) : PG X (.Tuple es k pos) (TG' X.K (.tup t)) :=
  (pg_tup hc h (tg_len hp _).1 (tg_len hp _).2).weak fun v σ H R ⟨ι, d, ρ, ρ', st, e, hd, s, es', q⟩ => by
    cases hd with
    | @tup a vs ds g1 g2 =>
      have es2 : setTg t (.tup ds) ρ = some ρ' := by
        cases t <;> exact es'
      exact ⟨a, vs, rfl, g1, by rw [← g2.len]; exact row_len hr es2, ι, ds, ρ, ρ', st, e, g2, s, es2, q⟩
    | _ => cases t <;> cases es'
end
end Cb

namespace Cb
open PySem PySem.Spec PyProof.Rows L2

/-! ## enumerate and zip -/
/-- enumerate of one argument: it begins where the argument begins -/
theorem meets_enum1 {v0 : Value} {ob : Obj} {H0 : Heap → Prop} (B : Begins v0 ob H0) :
    Meets (Builtin.«enumerate.__new__» ⟨[.type "enumerate", v0], []⟩) (fun _ R s => H0 s.heap ∧
      R (.ok (.ret (.ref (s.heap.push ob).objs.size))) { s with heap := (s.heap.push ob).push { cls := .type "enumerate", data := .fields #[.none, .bool false, .ref s.heap.objs.size, rawInt 0, .none, .none] } }) :=
  .of_wp fun prog w A R s h => by
    obtain ⟨hp, gg, dd, tk, os⟩ := s
    obtain ⟨h1, h⟩ := h
    have hsub := sub_enumerate
    have go : ∀ {A' : Around} {E' : Value → Shared → Prop} {Q' : Value → Shared → Prop}, Q' (.ref hp.objs.size) ⟨hp.push ob, gg, dd, tk, os⟩ → wpAny (model prog w) A' (pyIter v0) Q' E' ⟨hp, gg, dd, tk, os⟩ :=
      fun q => B.iter prog w _ _ ⟨hp, gg, dd, tk, os⟩ _ h1 q
    wp_walk using go
    refine wpAny_stack_any fun sk => wpAny_pure ?_
    split
    · rename_i c _ _ _ _ _
      cases (c == Value.type "enumerate") <;> (wp_walk using go) <;> exact ⟨_, rfl, h⟩
    · wp_walk using go
      exact ⟨_, rfl, h⟩
theorem call_enum1 {prog : Program} {w : World} {A : Around} {E : Value → Shared → Prop} {s : Shared} {v0 : Value} {ob : Obj} {H0 : Heap → Prop} {Q : Value → Shared → Prop} (B : Begins v0 ob H0) (h1 : H0 s.heap)
    (h : ∀ h', IsEnum h' (s.heap.objs.size + 1) s.heap.objs.size 0 .none → h'.get? s.heap.objs.size = some ob → (∀ b o, s.heap.get? b = some o → h'.get? b = some o) → Q (.ref (s.heap.objs.size + 1)) { s with heap := h' }) :
    wpAny (model prog w) A (call (.type "enumerate") [v0]) Q E s := by
  refine callType_new F.called_enumerate (by decide) (F.typeCall_enumerate_1 _) (F.newCall_enumerate_1 _) (fun x => F.args_object_init_2 x _) F.entry_enumerate_new (meets_enum1 B) ⟨h1, ?_⟩
  have sz : (s.heap.push ob).objs.size = s.heap.objs.size + 1 := Heap.size_push ..
  show _ ∧ _
  rw [sz]
  have ie : IsEnum ((s.heap.push ob).push { cls := .type "enumerate", data := .fields #[.none, .bool false, .ref s.heap.objs.size, rawInt 0, .none, .none] }) (s.heap.objs.size + 1) s.heap.objs.size 0 .none := by
    have e := Heap.get?_push_size (s.heap.push ob) (o := { cls := .type "enumerate", data := .fields #[.none, .bool false, .ref s.heap.objs.size, rawInt 0, .none, .none] }) rfl
    rw [sz] at e
    exact e
  exact ⟨⟨_, ie, rfl⟩, h _ ie (Heap.get?_push_of_some _ (Heap.get?_push_size _ B.free)) fun b o x => Heap.get?_push_of_some _ (Heap.get?_push_of_some _ x)⟩
/-- the tuple at a, each item in a new pair -/
def IteT (K : PySem.W.Frag) (a : Addr) : It :=
  ⟨fun i H => ∃ (xs : List V) (x : V), SqT K H a xs ∧ xs[i]? = some x, fun i H v H' => ∃ T x, v = .ref T ∧ H T = none ∧ H' = upd H T (.tup [.int (i : Nat), x]) ∧ ∀ xs, SqT K H a xs → xs[i]? = some x, fun i H => ∃ xs : List V, SqT K H a xs ∧ xs.length ≤ i⟩
theorem turn_enumT {P : Program} {w : World} {K : PySem.W.Frag} {elts : List Expr} {kk : Nat} {tpos : Pos} (a e it : Addr) :
    Turn P w K (.Tuple elts kk tpos) (IteT K a) [e, it] e (fun i h => (∃ old, IsEnum h e it ((i : Nat) : Int) old) ∧ h.IsTupleIter it a i ∧ e ≠ it) where
  mem := by simp
  obj := fun i h st b hb => by
    obtain ⟨⟨old, he⟩, ⟨o, ho, hc, hd⟩, _⟩ := st
    have hb' : b = e ∨ b = it := by simpa using hb
    rcases hb' with rfl | rfl
    · exact ⟨_, he, fun v q => nomatch q⟩
    · exact ⟨o, ho, fun v q => by rw [hd] at q; cases q⟩
  keep := fun i h h' st k => by
    obtain ⟨⟨old, he⟩, hi, hne⟩ := st
    exact ⟨⟨old, k e (by simp) _ he⟩, hi.at fun o q => k it (by simp) o q, hne⟩
  item := by
    intro X hP hw hK hc i pins s σ H E I hf st hg
    subst hP hw hK
    obtain ⟨⟨old, he⟩, hit, hne⟩ := st
    obtain ⟨xs, x, hq, hx⟩ := hg
    obtain ⟨its, rv, p, hz⟩ := I.tuple hq
    obtain ⟨u, hu, ru⟩ := rv.get hx
    have hel : e < s.heap.objs.size := Heap.lt_size he
    have hil : it < s.heap.objs.size := by obtain ⟨_, q, _⟩ := hit; exact Heap.lt_size q
    have hai : a ≠ it := by
      rintro rfl
      obtain ⟨o1, e1, c1, d1⟩ := hit
      obtain ⟨o2, e2, c2, n2, d2⟩ := p
      rw [e1] at e2
      cases e2
      rw [d1] at d2
      cases d2
    have hae : e ∉ [it, a] := fun hm => by
      have hm' : e = it ∨ e = a := by simpa using hm
      rcases hm' with q | q
      · exact hne q
      · obtain ⟨o2, e2, c2, n2, d2⟩ := p
        rw [← q, he] at e2
        cases e2
        cases d2
    have hlt : i < its.toArray.size := by
      obtain ⟨q, _⟩ := List.getElem?_eq_some_iff.mp hu
      simpa using q
    refine wpAny_pyNext_enum_itemD (Draws.tuple (prog := X.prog) (w := X.w) (A := X.A.in1) (show X.A.in1.handled = none from I.ok.hd hc) it a hai its.toArray) he ⟨hit, show s.heap.IsTuple a its.toArray from p⟩ hlt hne hae fun x' h' tk hx' ho st' hT hsz hk => ?_
    have ex : x' = u := by
      have q : its.toArray[i]? = some x' := hx'
      have q2 : its.toArray[i]? = some u := by simpa using hu
      rw [q] at q2
      exact Option.some.inj q2
    subst ex
    refine ⟨_, rfl, wpAny_letOwnedTupleGo_enum (s := { s with heap := h', toks := tk + 1 }) ho fun h'' he' sb => ?_⟩
    have hT2 : h''.get? s.heap.objs.size = some { cls := .type "tuple", data := .seq #[.int i tk, x'] } := (sb.2 _ (Nat.ne_of_gt hel)).trans hT
    have new : ObjOk X.prog X.w (upd H s.heap.objs.size (.tup [.int (i : Nat), x])) h'' s.heap.objs.size (.tup [.int (i : Nat), x]) :=
      ⟨by show 2 ≤ sizeLine; decide, [.int i tk, x'], .cons ⟨_, rfl⟩ (.cons ru .nil), ⟨_, hT2, rfl, _, rfl⟩⟩
    have I1 : Inv X pins σ (upd H s.heap.objs.size (.tup [.int (i : Nat), x])) { s with heap := h'', toks := tk + 1 } :=
      I.turnedNew (ch := [e, it]) (fun b ob hb q => (sb.2 b (fun z => hb (by simp [z]))).trans (hk b ob (fun z => hb (by simp [z])) (fun z => hb (by simp [z])) q)) hf (Nat.le_refl _) new
    refine ⟨.ref s.heap.objs.size, _, I1, rfl, ⟨_, x, rfl, I.hok.fresh (Nat.le_refl _), rfl, fun ys hy => by rw [I.tuple_inj hy hq]; exact hx⟩, ⟨⟨x', ?_⟩, st'.1.at fun o q => (sb.2 it (Ne.symm hne)).trans q, hne⟩, fun b hb => ?_⟩
    · have e1 : ((i + 1 : Nat) : Int) = (i : Int) + 1 := by omega
      rw [e1]
      exact he'
    · have hb' : b < s.heap.objs.size := by
        have hm' : b = e ∨ b = it := by simpa using hb
        rcases hm' with z | z
        · rw [z]; exact hel
        · rw [z]; exact hil
      rw [upd_ne (Nat.ne_of_lt hb')]
      exact (hf b hb).1
  done := by
    intro X hP hw hK hc i pins s σ H E I hf st hg
    subst hP hw hK
    obtain ⟨⟨old, he⟩, hit, hne⟩ := st
    obtain ⟨xs, hq, hx⟩ := hg
    obtain ⟨its, rv, p, hz⟩ := I.tuple hq
    obtain ⟨f0, f1, f2, f3, f4, f5⟩ := hf it (by simp)
    have hl := rv.length
    have hT : s.TypeIs (.ref e) "enumerate" := ⟨_, he, rfl⟩
    unfold pyNext
    refine wpAny_bind (wpAny_attempt (wpAny_callSpecial?_slot (name := Str.ofString "__next__") hT F.slot_enumerate_next
      (wpAny_call_entry F.slot_enumerate_next hT F.entry_enumerate_next ?_ (F.args_enumerate_next_1 _))))
    show wpAny _ _ (field (.ref e) 2 >>= _) _ _ _
    refine wpAny_bind (wpAny_field he rfl (x := .ref it) rfl ?_)
    refine wpAny_bind (wpAny_nextOf_tuple_end (I.ok.hd hc) hit (show s.heap.IsTuple a its.toArray from p) (by simp; omega) fun h' x eb hx' => ?_)
    obtain ⟨o, ho, hcc⟩ := hx'
    refine wpAny_bind (wpAny_isInstance (T := "StopIteration") (b := true) ⟨o, ho, hcc⟩ isSubtype_stop ?_)
    exact wpAny_pure ⟨rfl, I.turned (t' := s.toks) (fun b o hb q => eb b o hb q) f0 f1 f3 f4 f5⟩
  self := fun A i s Q E st h => by
    obtain ⟨⟨_, he⟩, _⟩ := st
    exact wpAny_pyIter_enum he h
section
variable {X : Cx} {F : Fm} {tg a b e elt : Expr} {es elts : List Expr} {ca cb ce cc as : C} {p pos tpos : Pos} {kk : Nat} {ta : TA}
theorem pi_enumS (hg : Gl X "enumerate") (hm : X.mg "enumerate" = none) (ha : PA X [e] ta) (hs : starEach [e] X.env = [(false, eval e X.env)]) :
    PI X (.Tuple elts kk tpos) (.Call (.Name "enumerate" p) [e] [] pos) (fun σ H R => ta σ H fun vs H1 => ∃ a, vs = [.ref a] ∧ ((∃ xs, SqL X.K H1 a xs ∧ R (Ite X.K a) H1) ∨ ∃ xs, SqT X.K H1 a xs ∧ R (IteT X.K a) H1)) := by
  refine ⟨fun pins s σ H R I h => ?_⟩
  refine Call_ (ld_blt I hg hm boot_enumerate (PyProof.Rows.callWith_type1 (thn (ha.run pos pins s σ H _ I h) fun us s1 ⟨vs, H1, I1, r1, q1⟩ => ?_) hs rfl))
  obtain ⟨a, ex, q1⟩ := q1
  subst ex
  have fresh : ∀ b ∈ [s1.heap.objs.size + 1, s1.heap.objs.size], FpOk X pins H1 b := fun b hb => by
    have hm' : b = s1.heap.objs.size + 1 ∨ b = s1.heap.objs.size := by simpa using hb
    have hle : s1.heap.objs.size ≤ b := by rcases hm' with z | z <;> omega
    exact I1.fpOk hle (I1.hok.fresh hle)
  cases r1 with
  | cons r rr =>
    cases rr
    cases r
    rcases q1 with ⟨xs, hq, q⟩ | ⟨xs, hq, q⟩
    · obtain ⟨its, rv, p', hz⟩ := I1.list hq
      refine call_enum1 (begins_list a its.toArray) p'.isList fun h' he hit hk => wpAny_pyIter_enum he ?_
      exact ⟨s1.heap.objs.size + 1, [s1.heap.objs.size + 1, s1.heap.objs.size], _, _, H1, rfl, I1.kept (t' := s1.toks) hk, turn_enum a (s1.heap.objs.size + 1) s1.heap.objs.size, ⟨⟨.none, he⟩, ⟨_, hit, rfl, rfl⟩, Nat.succ_ne_self _⟩, fresh, q⟩
    · obtain ⟨its, rv, p', hz⟩ := I1.tuple hq
      refine call_enum1 (begins_tuple a its.toArray) (show s1.heap.IsTuple a its.toArray from p') fun h' he hit hk => wpAny_pyIter_enum he ?_
      exact ⟨s1.heap.objs.size + 1, [s1.heap.objs.size + 1, s1.heap.objs.size], _, _, H1, rfl, I1.kept (t' := s1.toks) hk, turn_enumT a (s1.heap.objs.size + 1) s1.heap.objs.size, ⟨⟨.none, he⟩, ⟨_, hit, rfl, rfl⟩, Nat.succ_ne_self _⟩, fresh, q⟩
/-- a new pair beside the store -/
theorem new_pair {K : PySem.W.Frag} {ι : List Addr} {H : Hp} {st : Store} {T : Addr} {x y : V} {dx dy : D} (hs : StR K ι H st) (hT : H T = none) (rx : DR K ι H dx x) (ry : DR K ι H dy y) :
    Keep ι ι H (upd H T (.tup [x, y])) ∧ StR K ι (upd H T (.tup [x, y])) st ∧ DR K ι (upd H T (.tup [x, y])) (.tup [dx, dy]) (.ref T) := by
  have k : KeepT H (upd H T (.tup [x, y])) := .new hT
  exact ⟨.new1 hT, hs.newTup hT, .tup (.inl (.inl upd_same)) (.cons (rx.mono (List.prefix_refl _) k) (.cons (ry.mono (List.prefix_refl _) k) .nil))⟩
theorem itr_enumT {K : PySem.W.Frag} {ι0 : List Addr} {H0 : Hp} {a : Addr} {xs : List D} {vs : List V} (h : SqT K H0 a vs) (r : DRs K ι0 H0 xs vs) : ItR K ι0 H0 (IteT K a) (.enum (.seq xs)) := by
  intro ι H st i hι hk hs
  have hq := hk.seq h
  have r2 := r.mono hι hk
  simp only [ItD.step, Src.at, Option.map_some]
  refine ⟨fun e1 => ?_, fun d e1 => ?_⟩
  · have e2 : xs[i]? = none := by
      cases z : xs[i]? with
      | none => rfl
      | some d => rw [z] at e1; cases e1
    exact ⟨vs, hq, by rw [← r.len]; exact List.getElem?_eq_none_iff.mp e2⟩
  · cases e2 : xs[i]? with
    | none => rw [e2] at e1; cases e1
    | some d0 =>
      rw [e2] at e1
      cases e1
      obtain ⟨v, hv, rv⟩ := r2.get e2
      refine ⟨⟨vs, v, hq, hv⟩, fun x H' y => ?_⟩
      obtain ⟨T, x0, rfl, nT, rfl, hy⟩ := y
      have e3 : v = x0 := Option.some.inj (hv.symm.trans (hy vs hq))
      subst e3
      exact new_pair hs nT (.int _) rv
theorem live_cases {K : PySem.W.Frag} {ι : List Addr} {H : Hp} {st : Store} {n : Nat} {a : Addr} (hs : StR K ι H st) (hn : ι[n]? = some a) : (∃ xs vs, (Src.live n).at st = some xs ∧ SqL K H a vs ∧ DRs K ι H xs vs) ∨ (Src.live n).at st = none := by
  cases e0 : st[n]? with
  | none => exact .inr (by simp only [Src.at, e0])
  | some c =>
    cases c with
    | lst xs =>
      obtain ⟨vs, g, r⟩ := hs.at e0 hn
      exact .inl ⟨xs, vs, by simp only [Src.at, e0], .inl (.inl g), r⟩
    | frz xs =>
      obtain ⟨o, vs, g, r⟩ := hs.at e0 hn
      exact .inl ⟨xs, vs, by simp only [Src.at, e0], .inl (.inr ⟨o, g⟩), r⟩
    | dct xs => exact .inr (by simp only [Src.at, e0])
    | ins c xs => exact .inr (by simp only [Src.at, e0])
theorem itr_enumL {K : PySem.W.Frag} {ι0 : List Addr} {H0 : Hp} {n : Nat} {a : Addr} (h : ι0[n]? = some a) : ItR K ι0 H0 (Ite K a) (.enum (.live n)) := by
  intro ι H st i hι hk hs
  rcases live_cases hs (pre_get hι h) with ⟨xs, vs, e, hq, r⟩ | e
  · simp only [ItD.step, e, Option.map_some]
    refine ⟨fun e1 => ?_, fun d e1 => ?_⟩
    · have e2 : xs[i]? = none := by
        cases z : xs[i]? with
        | none => rfl
        | some d => rw [z] at e1; cases e1
      exact ⟨vs, hq, by rw [← r.len]; exact List.getElem?_eq_none_iff.mp e2⟩
    · cases e2 : xs[i]? with
      | none => rw [e2] at e1; cases e1
      | some d0 =>
        rw [e2] at e1
        cases e1
        obtain ⟨v, hv, rv⟩ := r.get e2
        refine ⟨⟨vs, v, hq, hv⟩, fun x H' y => ?_⟩
        obtain ⟨T, x0, rfl, nT, rfl, hy⟩ := y
        have e3 : v = x0 := Option.some.inj (hv.symm.trans (hy vs hq))
        subst e3
        exact new_pair hs nT (.int _) rv
  · simp only [ItD.step, e]
    refine ⟨fun e1 => ?_, fun d e1 => ?_⟩ <;> cases e1
theorem i_enum (hg : Gl X "enumerate") (hm : X.mg "enumerate" = none) (ha : PA X [a] (TDA X.K F as)) (hs : notStar a = true) : PI X (.Tuple elts kk tpos) (.Call (.Name "enumerate" p) [a] [] pos) (TI' X.K F .enum as) :=
  (pi_enumS hg hm ha (star_cons hs _ _)).weak fun σ H R ⟨ι, ρ, st, Q, e, s, q, p⟩ => .go e s q fun vs H1 ι1 ds st1 h1 k1 e1 d1 s1 q1 => by
    obtain ⟨xs, ex, it, ei, q2⟩ := q1
    cases ex
    cases d1 with
    | nil => cases ei
    | cons r t =>
      cases t with
      | nil =>
        cases r with
        | @tup a' vs ds g1 g2 =>
          cases ei
          exact ⟨a', rfl, .inr ⟨vs, g1, p _ H1 ι1 _ st1 h1 k1 e1 s1 (itr_enumT g1 g2) q2⟩⟩
        | @ref n a' g1 =>
          simp only [itOf, srcOf] at ei
          refine ⟨a', rfl, .inl ?_⟩
          split at ei
          · rename_i e0
            cases ei
            obtain ⟨vs, g, r⟩ := s1.at e0 g1
            exact ⟨vs, .inl (.inl g), p _ H1 ι1 _ st1 h1 k1 e1 s1 (itr_enumL g1) q2⟩
          · rename_i e0
            cases ei
            obtain ⟨o, vs, g, r⟩ := s1.at e0 g1
            exact ⟨vs, .inl (.inr ⟨o, g⟩), p _ H1 ι1 _ st1 h1 k1 e1 s1 (itr_enumL g1) q2⟩
          · cases ei
        | _ => cases ei
      | cons r2 t2 => cases r <;> cases ei
theorem zip_step {xs ys : List D} {i : Nat} : (∃ x y, xs[i]? = some x ∧ ys[i]? = some y ∧ zipAt xs ys i = some (D.tup [x, y])) ∨ ((xs.length ≤ i ∨ ys.length ≤ i) ∧ zipAt xs ys i = none) := by
  unfold zipAt
  cases ex : xs[i]? with
  | none => exact .inr ⟨.inl (List.getElem?_eq_none_iff.mp ex), rfl⟩
  | some x =>
    cases ey : ys[i]? with
    | none => exact .inr ⟨.inr (List.getElem?_eq_none_iff.mp ey), rfl⟩
    | some y => exact .inl ⟨x, y, rfl, rfl, rfl⟩
theorem itr_zipT {K : PySem.W.Frag} {ι0 : List Addr} {H0 : Hp} {a b : Addr} {xs ys : List D} {vs ws : List V} (h : SqT K H0 a vs) (r : DRs K ι0 H0 xs vs) (h2 : SqT K H0 b ws) (r2 : DRs K ι0 H0 ys ws) : ItR K ι0 H0 (RZ.ItzT K a b) (.zip (.seq xs) (.seq ys)) := by
  intro ι H st i hι hk hs
  have hq := hk.seq h
  have hq2 := hk.seq h2
  have rr := r.mono hι hk
  have rr2 := r2.mono hι hk
  simp only [ItD.step, Src.at]
  rcases zip_step (xs := xs) (ys := ys) (i := i) with ⟨x, y, ex, ey, e⟩ | ⟨hl, e⟩ <;> rw [e]
  · refine ⟨fun e1 => (by cases e1), fun d e1 => ?_⟩
    cases e1
    obtain ⟨v, hv, rv⟩ := rr.get ex
    obtain ⟨v2, hv2, rv2⟩ := rr2.get ey
    refine ⟨⟨vs, ws, v, v2, hq, hq2, hv, hv2⟩, fun z H' yl => ?_⟩
    obtain ⟨T, x0, y0, rfl, nT, rfl, f1, f2⟩ := yl
    have e3 : v = x0 := Option.some.inj (hv.symm.trans (f1 vs hq))
    have e4 : v2 = y0 := Option.some.inj (hv2.symm.trans (f2 ws hq2))
    subst e3 e4
    exact new_pair hs nT rv rv2
  · refine ⟨fun _ => ⟨vs, ws, hq, hq2, ?_⟩, fun d e1 => (by cases e1)⟩
    rw [← rr.len, ← rr2.len]
    exact hl
theorem itr_zipL {K : PySem.W.Frag} {ι0 : List Addr} {H0 : Hp} {n m : Nat} {a b : Addr} (h : ι0[n]? = some a) (h2 : ι0[m]? = some b) : ItR K ι0 H0 (Itz K a b) (.zip (.live n) (.live m)) := by
  intro ι H st i hι hk hs
  rcases live_cases hs (pre_get hι h) with ⟨xs, vs, e, hq, rr⟩ | e
  · rcases live_cases hs (pre_get hι h2) with ⟨ys, ws, e2, hq2, rr2⟩ | e2
    · simp only [ItD.step, e, e2]
      rcases zip_step (xs := xs) (ys := ys) (i := i) with ⟨x, y, ex, ey, ez⟩ | ⟨hl, ez⟩ <;> rw [ez]
      · refine ⟨fun e1 => (by cases e1), fun d e1 => ?_⟩
        cases e1
        obtain ⟨v, hv, rv⟩ := rr.get ex
        obtain ⟨v2, hv2, rv2⟩ := rr2.get ey
        refine ⟨⟨vs, ws, v, v2, hq, hq2, hv, hv2⟩, fun z H' yl => ?_⟩
        obtain ⟨T, x0, y0, rfl, nT, rfl, f1, f2⟩ := yl
        have e3 : v = x0 := Option.some.inj (hv.symm.trans (f1 vs hq))
        have e4 : v2 = y0 := Option.some.inj (hv2.symm.trans (f2 ws hq2))
        subst e3 e4
        exact new_pair hs nT rv rv2
      · refine ⟨fun _ => ⟨vs, ws, hq, hq2, ?_⟩, fun d e1 => (by cases e1)⟩
        rw [← rr.len, ← rr2.len]
        exact hl
    · simp only [ItD.step, e, e2]
      refine ⟨fun e1 => ?_, fun d e1 => ?_⟩ <;> cases e1
  · simp only [ItD.step, e]
    refine ⟨fun e1 => ?_, fun d e1 => ?_⟩ <;> cases e1
theorem i_zip (hg : Gl X "zip") (hm : X.mg "zip" = none) (ha : PA X [a, b] (TDA X.K F as)) (hs : notStar a = true) (hs2 : notStar b = true) : PI X (.Tuple elts kk tpos) (.Call (.Name "zip" p) [a, b] [] pos) (TI' X.K F .zip as) :=
  (RZ.pi_zipA hg hm ha (star_cons hs _ _) (by rw [star_cons hs2]; rfl)).weak fun σ H R ⟨ι, ρ, st, Q, e, s, q, p⟩ => .go e s q fun vs H1 ι1 ds st1 h1 k1 e1 d1 s1 q1 => by
    obtain ⟨xs, ex, it, ei, q2⟩ := q1
    cases ex
    cases d1 with
    | nil => cases ei
    | cons r t =>
      cases t with
      | nil => cases r <;> cases ei
      | cons r2 t2 =>
        cases t2 with
        | cons r3 t3 => cases r <;> cases r2 <;> cases ei
        | nil =>
          simp only [itOf] at ei
          split at ei
          · rename_i xs ys ex ey
            cases ei
            cases r with
            | @tup a' vs ds g1 g2 =>
              cases ex
              cases r2 with
              | @tup b' ws ds2 g3 g4 =>
                cases ey
                exact ⟨a', b', vs, ws, rfl, .inr ⟨g1, g3, p _ H1 ι1 _ st1 h1 k1 e1 s1 (itr_zipT g1 g2 g3 g4) q2⟩⟩
              | @ref n a' g => simp only [srcOf] at ey; split at ey <;> cases ey
              | _ => cases ey
            | @ref n a' g => simp only [srcOf] at ex; split at ex <;> cases ex
            | _ => cases ex
          · rename_i n m ex ey
            cases ei
            have src : ∀ {d : D} {v : V} {n : Nat}, DR X.K ι1 H1 d v → srcOf st1 d = some (.live n) → ∃ a, v = .ref a ∧ ι1[n]? = some a ∧ ∃ ws, SqL X.K H1 a ws := fun {d v n} r e => by
              cases r with
              | @ref n' a' g =>
                simp only [srcOf] at e
                split at e
                · rename_i e0
                  cases e
                  obtain ⟨vs, g', _⟩ := s1.at e0 g
                  exact ⟨a', rfl, g, vs, .inl (.inl g')⟩
                · rename_i e0
                  cases e
                  obtain ⟨o, vs, g', _⟩ := s1.at e0 g
                  exact ⟨a', rfl, g, vs, .inl (.inr ⟨o, g'⟩)⟩
                · cases e
              | _ => cases e
            obtain ⟨a', rfl, ga, vs, ha'⟩ := src r ex
            obtain ⟨b', rfl, gb, ws, hb'⟩ := src r2 ey
            exact ⟨a', b', vs, ws, rfl, .inl ⟨ha', hb', p _ H1 ι1 _ st1 h1 k1 e1 s1 (itr_zipL ga gb) q2⟩⟩
          · cases ei
end
end Cb

namespace Cb
open PySem PySem.Spec PyProof.Rows L2

/-! ## comprehensions -/
theorem wipe_get {α : Type} (f : List (Option α) → List Nat → List (Option α)) (h0 : ∀ σ, f σ [] = σ) (h1 : ∀ σ v vs, f σ (v :: vs) = (f σ vs).set v none) :
    ∀ (vs : List Nat) (σ : List (Option α)), (f σ vs).length = σ.length ∧ ∀ i, (f σ vs)[i]? = if i ∈ vs then (if i < σ.length then some none else none) else σ[i]?
  | [], σ => by
    rw [h0]
    exact ⟨rfl, fun i => by simp⟩
  | v :: vs, σ => by
    obtain ⟨l, g⟩ := wipe_get f h0 h1 vs σ
    rw [h1]
    refine ⟨by rw [List.length_set, l], fun i => ?_⟩
    by_cases e : v = i
    · subst e
      rw [if_pos List.mem_cons_self]
      by_cases hl : v < σ.length
      · rw [List.getElem?_set_self (by rw [l]; exact hl), if_pos hl]
      · rw [List.getElem?_eq_none (by rw [List.length_set, l]; omega), if_neg hl]
    · rw [List.getElem?_set_ne e, g]
      by_cases hm : i ∈ vs
      · rw [if_pos hm, if_pos (List.mem_cons_of_mem _ hm)]
      · rw [if_neg hm, if_neg (fun z => (List.mem_cons.mp z).elim (fun q => e q.symm) hm)]
theorem wipeV (vs : List Nat) (σ : L2.St) : (wipe σ vs).length = σ.length ∧ ∀ i, (wipe σ vs)[i]? = if i ∈ vs then (if i < σ.length then some none else none) else σ[i]? := wipe_get wipe (fun _ => rfl) (fun _ _ _ => rfl) vs σ
theorem wipeDV (vs : List Nat) (ρ : Env1) : (wipeD ρ vs).length = ρ.length ∧ ∀ i, (wipeD ρ vs)[i]? = if i ∈ vs then (if i < ρ.length then some none else none) else ρ[i]? := wipe_get wipeD (fun _ => rfl) (fun _ _ _ => rfl) vs ρ
theorem wipe_off {vs ws : List Nat} {σ σ2 : L2.St} (o : Off ws (wipe σ vs) σ2) (hs : ∀ i ∈ ws, i ∈ vs) : wipe σ2 vs = wipe σ vs := by
  apply List.ext_getElem?
  intro i
  rw [(wipeV vs σ2).2, (wipeV vs σ).2]
  have hl : σ2.length = σ.length := o.len.trans (wipeV vs σ).1
  by_cases hi : i ∈ vs
  · rw [if_pos hi, if_pos hi, hl]
  · rw [if_neg hi, if_neg hi, o.get i fun z => hi (hs i z), (wipeV vs σ).2, if_neg hi]
section
variable {K : PySem.W.Frag} {ι ι' : List Addr} {H H' : Hp} {st : Store}
theorem EnvR.wipe {σ : L2.St} {ρ : Env1} (e : EnvR K ι H σ ρ) (vs : List Nat) : EnvR K ι H (L2.wipe σ vs) (wipeD ρ vs) := by
  refine ⟨by rw [(wipeV vs σ).1, (wipeDV vs ρ).1]; exact e.len, fun i d h => ?_⟩
  rw [(wipeDV vs ρ).2] at h
  by_cases hi : i ∈ vs
  · rw [if_pos hi] at h
    split at h <;> cases h
  · rw [if_neg hi] at h
    obtain ⟨v, h1, h2⟩ := e.get i d h
    exact ⟨v, by rw [(wipeV vs σ).2, if_neg hi]; exact h1, h2⟩
theorem StR.addr {n : Nat} {a : Addr} (s : StR K ι H st) (h : ι[n]? = some a) : ∃ o, H a = some o := by
  obtain ⟨hn, _⟩ := List.getElem?_eq_some_iff.mp h
  exact (s.cell n _ a (List.getElem?_eq_getElem (by rw [← s.len]; exact hn)) h).some
theorem StR.notMem {a : Addr} (s : StR K ι H st) (h : H a = none) : a ∉ ι := fun hm => by
  obtain ⟨n, hn⟩ := List.getElem?_of_mem hm
  obtain ⟨o, e⟩ := s.addr hn
  rw [h] at e
  cases e
/-- what stands aside stays, and is no place of the store -/
theorem Keep.side (k : Keep ι ι' H H') {a : Addr} {o : HO} (hn : a ∉ ι) (h : H a = some o) : H' a = some o ∧ a ∉ ι' :=
  ⟨k.out a o h hn, fun hm => by
    rcases k.new a hm with z | z
    · exact hn z
    · rw [h] at z
      cases z⟩
/-- a list that stood aside becomes a place of the store -/
theorem StR.adopt {a : Addr} {c : Cell} (s : StR K ι H st) (hn : a ∉ ι) (hc : CellR K (ι ++ [a]) H a c) : StR K (ι ++ [a]) H (st ++ [c]) := by
  refine ⟨by rw [List.length_append, List.length_append, s.len]; rfl, ?_, fun n c' b ec hb => ?_⟩
  · refine List.nodup_append.mpr ⟨s.nd, by simp, fun x hx y hy => ?_⟩
    have : y = a := by simpa using hy
    subst this
    rintro rfl
    exact hn hx
  · by_cases hl : n < st.length
    · rw [List.getElem?_append_left hl] at ec
      rw [List.getElem?_append_left (by rw [s.len]; exact hl)] at hb
      exact (s.cell n c' b ec hb).mono (List.prefix_append _ _) (KeepT.refl H) rfl
    · have hln : n < (st ++ [c]).length := (List.getElem?_eq_some_iff.mp ec).1
      have e0 : n = st.length := by
        rw [List.length_append] at hln
        simp only [List.length_singleton] at hln
        omega
      subst e0
      rw [List.getElem?_append_right (Nat.le_refl _), Nat.sub_self] at ec
      rw [List.getElem?_append_right (by rw [s.len]; exact Nat.le_refl _), s.len, Nat.sub_self] at hb
      obtain rfl : _ = c' := Option.some.inj ec
      obtain rfl : a = b := Option.some.inj hb
      exact hc
/-- a list that stands aside changes -/
theorem StR.aside {a : Addr} {o : HO} {vs : List V} (s : StR K ι H st) (hn : a ∉ ι) (ha : H a = some (.lst vs)) : StR K ι (upd H a o) st ∧ KeepT H (upd H a o) := by
  have k : KeepT H (upd H a o) := .upd ha (fun _ h => by cases h) fun _ _ h => by cases h
  exact ⟨s.grow k fun n b hb => upd_ne fun e => hn (by rw [← e]; exact List.mem_of_getElem? hb), k⟩
end
section
variable {X : Cx} {F : Fm} {tg elt iter : Expr} {ifs : List Expr} {scope : Scope} {pos : Pos} {as c e : C} {t : Tg} {k : Ik} {own : List (Str × Nat)}
/-- the reading of a comprehension from ours -/
theorem lc_read {σ : L2.St} {H : Hp} {R : VK} {vs : List Nat} (hv : ∀ i ∈ t.vars, i ∈ vs) (h : TD X.K F (.lc vs t k as c e) σ H R) : tLc (TI' X.K F k as) (TG' X.K t) (TT' X.K F c) (TD X.K F e) vs σ H R := by
  obtain ⟨ι, ρ, st, Q, he, hs, hw, hp⟩ := h
  refine ⟨ι, ρ, st, fun it st1 => ∃ n, lcLoop it.step (fun d => setTg t d (wipeD ρ vs)) (wp F c) (wp F e) Q n 0 [] st1, he, hs, hw, fun J H1 ι1 it st1 g1 k1 e1 s1 hit ⟨n0, hl0⟩ => ?_⟩
  intro D hD
  have hD1 : D ∉ ι1 := s1.notMem hD
  have hDH : H D = none := by
    cases z : H D with
    | none => rfl
    | some o =>
      have : D ∉ ι := fun hm => hD1 (g1.subset hm)
      rw [k1.out D o z this] at hD
      cases hD
  refine ⟨fun i m Hc => ∃ ι' st' acc ws, ι1 <+: ι' ∧ Keep ι1 ι' H1 Hc ∧ Hc D = some (.lst ws) ∧ D ∉ ι' ∧ DRs X.K ι' Hc acc ws ∧ StR X.K ι' Hc st' ∧ lcLoop it.step (fun d => setTg t d (wipeD ρ vs)) (wp F c) (wp F e) Q m i acc st', ⟨n0, ι1, st1, [], [], List.prefix_refl _, .new1 hD, upd_same, hD1, .nil, s1.newTup hD, hl0⟩, ?_⟩
  rintro i m Hc ⟨ι', st', acc, ws, g2, k2, hDc, hDi, hr, s2, hl⟩
  cases m with
  | zero => exact hl.elim
  | succ m =>
    have hstep := hit ι' Hc st' i g2 k2.t s2
    simp only [lcLoop] at hl
    split at hl
    · exact hl.elim
    · rename_i es
      refine .inl ⟨hstep.1 es, ?_⟩
      have kk := k1.trans k2
      refine hp (.ref D) Hc (ι' ++ [D]) (.ref st'.length) _ ((g1.trans g2).trans (List.prefix_append _ _)) ⟨kk.tup, kk.frz, kk.out, fun a ha => ?_⟩ (.last s2) (s2.adopt hDi (cellR_lst hDc (hr.mono (List.prefix_append _ _) (KeepT.refl _)))) hl
      rcases List.mem_append.mp ha with ha | ha
      · exact kk.new a ha
      · right
        rw [List.mem_singleton.mp ha]
        exact hDH
    · rename_i d es
      obtain ⟨go, hy⟩ := hstep.2 d es
      refine .inr ⟨go, fun Hn => ∃ m', m' < m + 1 ∧ ∃ ι' st' acc ws, ι1 <+: ι' ∧ Keep ι1 ι' H1 Hn ∧ Hn D = some (.lst ws) ∧ D ∉ ι' ∧ DRs X.K ι' Hn acc ws ∧ StR X.K ι' Hn st' ∧ lcLoop it.step (fun d => setTg t d (wipeD ρ vs)) (wp F c) (wp F e) Q m' (i + 1) acc st', fun _ hn => hn, fun x H' y => ?_⟩
      obtain ⟨k3, s3, d3⟩ := hy x H' y
      obtain ⟨ρ1, eb, hl⟩ := hl
      refine ⟨ι', d, wipeD ρ vs, ρ1, st', ((e1.mono g2 k2.t).mono (List.prefix_refl _) k3.t).wipe vs, d3, s3, eb, fun σ' e' o' => ⟨wipe_off o' hv, ?_⟩⟩
      have hD3 := k3.side hDi hDc
      refine TT'.go e' s3 hl fun b H4 ι4 st4 g4 k4 e4 s4 q4 => ?_
      obtain ⟨b', eb', q4⟩ := q4
      cases eb'
      have hD4 := k4.side hDi hD3.1
      cases b with
      | true =>
        refine TD.go e4 s4 q4 fun y H5 ι5 d5 st5 g5 k5 e5 r5 s5 q5 => ?_
        have hD5 := k5.side hD4.2 hD4.1
        obtain ⟨hz, hl5⟩ := q5
        have hr5 := hr.mono (g4.trans g5) (k3.trans (k4.trans k5)).t
        obtain ⟨s6, k6⟩ := s5.aside (o := .lst (ws ++ [y])) hD5.2 hD5.1
        have kk : Keep ι1 ι5 H1 H5 := k2.trans (k3.trans (k4.trans k5))
        refine ⟨ws, hD5.1, by rw [← hr.len]; exact hz, m, Nat.lt_succ_self m, ι5, st5, acc ++ [d5], ws ++ [y], g2.trans (g4.trans g5), ⟨fun a xs h => k6.tup a xs (kk.tup a xs h), fun a o u h => k6.frz a o u (kk.frz a o u h), fun a o h hn => ?_, kk.new⟩, upd_same, hD5.2, (hr5.append (.one r5)).mono (List.prefix_refl _) k6, s6, hl5⟩
        rw [upd_ne (ne_of_none h hD)]
        exact kk.out a o h hn
      | false => exact ⟨m, Nat.lt_succ_self m, ι4, st4, acc, ws, g2.trans g4, k2.trans (k3.trans k4), hD4.1, hD4.2, hr.mono g4 (k3.trans k4).t, s4, q4⟩
/-- the tests of a comprehension: none, one -/
theorem ts_nil : PTs X [] (TT' X.K F (.cst (.bl true))) := ⟨fun pins s σ H Q I ⟨ι, ρ, st, Q', e, hs, q, p⟩ => pts_nil.run pins s σ H Q I (p true H ι st (List.prefix_refl _) (.refl H) hs q)⟩
theorem ts_one {a : Expr} (h : PT X a (TT' X.K F c)) : PTs X [a] (TT' X.K F c) := pts_one h
theorem d_lc (hc : X.calm = true) (hN : X.N.Nodup) (hi : PI X tg iter (TI' X.K F k as)) (ok : BlkOk X.N X.env.scope scope own) (hv : ∀ i ∈ t.vars, i ∈ own.map (·.2))
    (hg : ∀ (s : Shared) (H : Hp) (C : Addr) (cl : List (Str × Addr)) (fp : List Addr), PG (X.blk s H scope (compEnvC scope cl C X.env) fp) tg (TG' X.K t)) (ht : ∀ (s : Shared) (H : Hp) (C : Addr) (cl : List (Str × Addr)) (fp : List Addr), PTs (X.blk s H scope (compEnvC scope cl C X.env) fp) ifs (TT' X.K F c))
    (he : ∀ (s : Shared) (H : Hp) (C : Addr) (cl : List (Str × Addr)) (fp : List Addr), PE (X.blk s H scope (compEnvC scope cl C X.env) fp) elt (TD X.K F e)) (hs : ∀ x, foldedSetIterable iter X.env x = pure x) :
    PE X (.ListComp elt [⟨tg, iter, ifs, 0⟩] scope pos) (TD X.K F (.lc (own.map (·.2)) t k as c e)) :=
  (pe_lc hc hN hi ok hg ht he hs).weak fun σ H R h => lc_read hv h
/-! ### two clauses -/
theorem lc2_read {σ : L2.St} {H : Hp} {R : VK} {vs vs1 : List Nat} {t1 : Tg} {k1 : Ik} {as1 c1 : C} (hv : ∀ i ∈ t.vars, i ∈ vs) (hv1 : ∀ i ∈ t1.vars, i ∈ vs1) (h : TD X.K F (.lc2 vs vs1 t k as c t1 k1 as1 c1 e) σ H R) :
    tLc2 (TI' X.K F k as) (TG' X.K t) (TT' X.K F c) (TI' X.K F k1 as1) (TG' X.K t1) (TT' X.K F c1) (TD X.K F e) vs vs1 σ H R := by
  obtain ⟨ι, ρ, st, Q, he, hs, hw, hp⟩ := h
  generalize hin : (fun (ρ1 : Env1) (acc : List D) (st2 : Store) (K : List D → Store → Prop) => wp F as1 ρ1 st2 fun y st3 => ∃ xs, y = .tup xs ∧ som (itOf k1 xs st3) fun it1 => ∃ n, lcIn it1.step (fun d => setTg t1 d (wipeD ρ1 vs1)) (wp F c1) (wp F e) K n 0 acc st3) = inner
  have hw' : wp F as ρ st fun y st1 => ∃ xs, y = .tup xs ∧ som (itOf k xs st1) fun it => ∃ n, lc2Loop it.step (fun d => setTg t d (wipeD ρ vs)) (wp F c) inner Q n 0 [] st1 := by
    rw [← hin]
    exact hw
  refine ⟨ι, ρ, st, fun it st1 => ∃ n, lc2Loop it.step (fun d => setTg t d (wipeD ρ vs)) (wp F c) inner Q n 0 [] st1, he, hs, hw', fun J H1 ι1 it st1 g1 kk1 e1 s1 hit ⟨n0, hl0⟩ => ?_⟩
  intro D hD
  have hD1 : D ∉ ι1 := s1.notMem hD
  have hDH : H D = none := by
    cases z : H D with
    | none => rfl
    | some o =>
      have : D ∉ ι := fun hm => hD1 (g1.subset hm)
      rw [kk1.out D o z this] at hD
      cases hD
  refine ⟨fun i m Hc => ∃ ι' st' acc ws, ι1 <+: ι' ∧ Keep ι1 ι' H1 Hc ∧ Hc D = some (.lst ws) ∧ D ∉ ι' ∧ DRs X.K ι' Hc acc ws ∧ StR X.K ι' Hc st' ∧ lc2Loop it.step (fun d => setTg t d (wipeD ρ vs)) (wp F c) inner Q m i acc st', ⟨n0, ι1, st1, [], [], List.prefix_refl _, .new1 hD, upd_same, hD1, .nil, s1.newTup hD, hl0⟩, ?_⟩
  rintro i m Hc ⟨ι', st', acc, ws, g2, k2, hDc, hDi, hr, s2, hl⟩
  cases m with
  | zero => exact hl.elim
  | succ m =>
    have hstep := hit ι' Hc st' i g2 k2.t s2
    simp only [lc2Loop] at hl
    split at hl
    · exact hl.elim
    · rename_i es
      refine .inl ⟨hstep.1 es, ?_⟩
      have kk := kk1.trans k2
      refine hp (.ref D) Hc (ι' ++ [D]) (.ref st'.length) _ ((g1.trans g2).trans (List.prefix_append _ _)) ⟨kk.tup, kk.frz, kk.out, fun a ha => ?_⟩ (.last s2) (s2.adopt hDi (cellR_lst hDc (hr.mono (List.prefix_append _ _) (KeepT.refl _)))) hl
      rcases List.mem_append.mp ha with ha | ha
      · exact kk.new a ha
      · right
        rw [List.mem_singleton.mp ha]
        exact hDH
    · rename_i d es
      obtain ⟨go, hy⟩ := hstep.2 d es
      refine .inr ⟨go, fun Hn => ∃ m', m' < m + 1 ∧ ∃ ι' st' acc ws, ι1 <+: ι' ∧ Keep ι1 ι' H1 Hn ∧ Hn D = some (.lst ws) ∧ D ∉ ι' ∧ DRs X.K ι' Hn acc ws ∧ StR X.K ι' Hn st' ∧ lc2Loop it.step (fun d => setTg t d (wipeD ρ vs)) (wp F c) inner Q m' (i + 1) acc st', fun _ hn => hn, fun x H' y => ?_⟩
      obtain ⟨k3, s3, d3⟩ := hy x H' y
      obtain ⟨ρ1, eb, hl⟩ := hl
      refine ⟨ι', d, wipeD ρ vs, ρ1, st', ((e1.mono g2 k2.t).mono (List.prefix_refl _) k3.t).wipe vs, d3, s3, eb, fun σ' e' o' => ⟨wipe_off o' hv, ?_⟩⟩
      have hD3 := k3.side hDi hDc
      refine TT'.go e' s3 hl fun b H4 ι4 st4 g4 k4 e4 s4 q4 => ?_
      obtain ⟨b', eb', q4⟩ := q4
      cases eb'
      have hD4 := k4.side hDi hD3.1
      cases b with
      | false => exact ⟨m, Nat.lt_succ_self m, ι4, st4, acc, ws, g2.trans g4, k2.trans (k3.trans k4), hD4.1, hD4.2, hr.mono g4 (k3.trans k4).t, s4, q4⟩
      | true =>
        simp only [if_true] at q4 ⊢
        rw [← hin] at q4
        refine ⟨ι4, ρ1, st4, fun it1 st5 => ∃ n, lcIn it1.step (fun d => setTg t1 d (wipeD ρ1 vs1)) (wp F c1) (wp F e) (lc2Loop it.step (fun d => setTg t d (wipeD ρ vs)) (wp F c) inner Q m (i + 1)) n 0 acc st5, e4, s4, by rw [← hin]; exact q4, fun J1 H5 ι5 it1 st5 g5 k5 e5 s5 hit1 ⟨n1, hl1⟩ => ?_⟩
        have hD5 := k5.side hD4.2 hD4.1
        have hr5 := hr.mono (g4.trans g5) (k3.trans (k4.trans k5)).t
        have kk5 : Keep ι1 ι5 H1 H5 := k2.trans (k3.trans (k4.trans k5))
        refine ⟨fun j kk Hc => ∃ ι' st' acc ws, ι5 <+: ι' ∧ KeepT H5 Hc ∧ Keep ι1 ι' H1 Hc ∧ Hc D = some (.lst ws) ∧ D ∉ ι' ∧ DRs X.K ι' Hc acc ws ∧ StR X.K ι' Hc st' ∧ lcIn it1.step (fun d => setTg t1 d (wipeD ρ1 vs1)) (wp F c1) (wp F e) (lc2Loop it.step (fun d => setTg t d (wipeD ρ vs)) (wp F c) inner Q m (i + 1)) kk j acc st', ⟨n1, ι5, st5, acc, ws, List.prefix_refl _, .refl _, kk5, hD5.1, hD5.2, hr5, s5, hl1⟩, ?_⟩
        rintro j kn H6 ⟨ι6, st6, acc6, ws6, g6, t6, k6, hD6, hD6', hr6, s6, hl6⟩
        cases kn with
        | zero => exact hl6.elim
        | succ kn =>
          have hstep1 := hit1 ι6 H6 st6 j g6 t6 s6
          simp only [lcIn] at hl6
          split at hl6
          · exact hl6.elim
          · rename_i es1
            exact .inl ⟨hstep1.1 es1, m, Nat.lt_succ_self m, ι6, st6, acc6, ws6, (g2.trans (g4.trans g5)).trans g6, k6, hD6, hD6', hr6, s6, hl6⟩
          · rename_i d1 es1
            obtain ⟨go1, hy1⟩ := hstep1.2 d1 es1
            refine .inr ⟨go1, fun Hn => ∃ k', k' < kn + 1 ∧ ∃ ι' st' acc ws, ι5 <+: ι' ∧ KeepT H5 Hn ∧ Keep ι1 ι' H1 Hn ∧ Hn D = some (.lst ws) ∧ D ∉ ι' ∧ DRs X.K ι' Hn acc ws ∧ StR X.K ι' Hn st' ∧ lcIn it1.step (fun d => setTg t1 d (wipeD ρ1 vs1)) (wp F c1) (wp F e) (lc2Loop it.step (fun d => setTg t d (wipeD ρ vs)) (wp F c) inner Q m (i + 1)) k' (j + 1) acc st', fun _ hn => hn, fun x1 H7 y1 => ?_⟩
            obtain ⟨k7, s7, d7⟩ := hy1 x1 H7 y1
            obtain ⟨ρ2, eb1, hl6⟩ := hl6
            refine ⟨ι6, d1, wipeD ρ1 vs1, ρ2, st6, ((e5.mono g6 t6).mono (List.prefix_refl _) k7.t).wipe vs1, d7, s7, eb1, fun σ3 e7 o7 => ⟨wipe_off o7 hv1, ?_⟩⟩
            have hD7 := k7.side hD6' hD6
            refine TT'.go e7 s7 hl6 fun b1 H8 ι8 st8 g8 k8 e8 s8 q8 => ?_
            obtain ⟨b1', eb1', q8⟩ := q8
            cases eb1'
            have hD8 := k8.side hD6' hD7.1
            cases b1 with
            | true =>
              refine TD.go e8 s8 q8 fun y9 H9 ι9 d9 st9 g9 k9 e9 r9 s9 q9 => ?_
              have hD9 := k9.side hD8.2 hD8.1
              obtain ⟨hz, hl9⟩ := q9
              have hr9 := hr6.mono (g8.trans g9) (k7.trans (k8.trans k9)).t
              obtain ⟨s10, k10⟩ := s9.aside (o := .lst (ws6 ++ [y9])) hD9.2 hD9.1
              have kk : Keep ι1 ι9 H1 H9 := k6.trans (k7.trans (k8.trans k9))
              refine ⟨ws6, hD9.1, by rw [← hr6.len]; exact hz, kn, Nat.lt_succ_self kn, ι9, st9, acc6 ++ [d9], ws6 ++ [y9], g6.trans (g8.trans g9), (t6.trans (k7.trans (k8.trans k9)).t).trans k10, ⟨fun a xs h => k10.tup a xs (kk.tup a xs h), fun a o u h => k10.frz a o u (kk.frz a o u h), fun a o h hn => ?_, kk.new⟩, upd_same, hD9.2, (hr9.append (.one r9)).mono (List.prefix_refl _) k10, s10, hl9⟩
              rw [upd_ne (ne_of_none h hD)]
              exact kk.out a o h hn
            | false => exact ⟨kn, Nat.lt_succ_self kn, ι8, st8, acc6, ws6, g6.trans g8, t6.trans (k7.trans k8).t, k6.trans (k7.trans k8), hD8.1, hD8.2, hr6.mono g8 (k7.trans k8).t, s8, q8⟩
theorem d_lc2 {tg1 iter1 : Expr} {ifs1 : List Expr} {t1 : Tg} {k1 : Ik} {as1 c1 : C} (hc : X.calm = true) (hN : X.N.Nodup) (hi : PI X tg iter (TI' X.K F k as)) (ok : BlkOk X.N X.env.scope scope own) (hv : ∀ i ∈ t.vars, i ∈ own.map (·.2)) (hv1 : ∀ i ∈ t1.vars, i ∈ own.map (·.2))
    (hg : ∀ (s : Shared) (H : Hp) (C : Addr) (cl : List (Str × Addr)) (fp : List Addr), PG (X.blk s H scope (compEnvC scope cl C X.env) fp) tg (TG' X.K t)) (ht : ∀ (s : Shared) (H : Hp) (C : Addr) (cl : List (Str × Addr)) (fp : List Addr), PTs (X.blk s H scope (compEnvC scope cl C X.env) fp) ifs (TT' X.K F c))
    (hi1 : ∀ (s : Shared) (H : Hp) (C : Addr) (cl : List (Str × Addr)) (fp : List Addr), PI (X.blk s H scope (compEnvC scope cl C X.env) fp) tg1 iter1 (TI' X.K F k1 as1))
    (hg1 : ∀ (s : Shared) (H : Hp) (C : Addr) (cl : List (Str × Addr)) (fp : List Addr), PG (X.blk s H scope (compEnvC scope cl C X.env) fp) tg1 (TG' X.K t1)) (ht1 : ∀ (s : Shared) (H : Hp) (C : Addr) (cl : List (Str × Addr)) (fp : List Addr), PTs (X.blk s H scope (compEnvC scope cl C X.env) fp) ifs1 (TT' X.K F c1))
    (he : ∀ (s : Shared) (H : Hp) (C : Addr) (cl : List (Str × Addr)) (fp : List Addr), PE (X.blk s H scope (compEnvC scope cl C X.env) fp) elt (TD X.K F e)) (hs : ∀ x, foldedSetIterable iter X.env x = pure x) (hs1 : ∀ env x, foldedSetIterable iter1 env x = pure x) :
    PE X (.ListComp elt [⟨tg, iter, ifs, 0⟩, ⟨tg1, iter1, ifs1, 0⟩] scope pos) (TD X.K F (.lc2 (own.map (·.2)) t1.vars t k as c t1 k1 as1 c1 e)) :=
  (pe_lc2 hc hN hi ok (vs1 := t1.vars) hv1 hg ht hi1 hg1 ht1 he hs hs1).weak fun σ H R h => lc2_read hv (fun _ h => h) h
end
end Cb

namespace Cb
open PySem PySem.Spec PyProof.Rows L2

/-! ## statements -/
structure PostS (K : PySem.W.Frag) (ι : List Addr) (H : Hp) (E : EndsD) (D : Ends) : Prop where
  nx : ∀ σ' H' ι' ρ' st', ι <+: ι' → Keep ι ι' H H' → EnvR K ι' H' σ' ρ' → StR K ι' H' st' → E.nx ρ' st' → D.nx σ' H'
  rt : Post K ι H E.rt D.rt
  bk : ∀ σ' H' ι' ρ' st', ι <+: ι' → Keep ι ι' H H' → EnvR K ι' H' σ' ρ' → StR K ι' H' st' → E.bk ρ' st' → D.bk σ' H'
  ct : ∀ σ' H' ι' ρ' st', ι <+: ι' → Keep ι ι' H H' → EnvR K ι' H' σ' ρ' → StR K ι' H' st' → E.ct ρ' st' → D.ct σ' H'
def TS' (K : PySem.W.Frag) (F : Fm) (s : S) : TS := fun D σ H => ∃ ι ρ st E, EnvR K ι H σ ρ ∧ StR K ι H st ∧ wps F s ρ st E ∧ PostS K ι H E D
section
variable {K : PySem.W.Frag} {ι ι1 : List Addr} {H H1 : Hp} {E : EndsD} {D : Ends}
theorem PostS.shift (p : PostS K ι H E D) (h : ι <+: ι1) (k : Keep ι ι1 H H1) : PostS K ι1 H1 E D :=
  ⟨fun σ' H' ι' ρ' st' h' k' => p.nx σ' H' ι' ρ' st' (h.trans h') (k.trans k'), p.rt.shift h k, fun σ' H' ι' ρ' st' h' k' => p.bk σ' H' ι' ρ' st' (h.trans h') (k.trans k'), fun σ' H' ι' ρ' st' h' k' => p.ct σ' H' ι' ρ' st' (h.trans h') (k.trans k')⟩
theorem PostS.next (p : PostS K ι H E D) {σ : L2.St} {ρ : Env1} {st : Store} (e : EnvR K ι H σ ρ) (s : StR K ι H st) (q : E.nx ρ st) : D.nx σ H := p.nx σ H ι ρ st (List.prefix_refl _) (.refl H) e s q
end
section
variable {X : Cx} {F : Fm} {e a b o i : Expr} {es : List Expr} {ce ca cb ci cc as : C} {pos : Pos} {st0 : Stmt} {rest : List Stmt} {s r : S}
theorem s_nil : PSs X [] (TS' X.K F .done) := pss_nil.weak fun D σ H ⟨ι, ρ, st, E, e, s, q, p⟩ => p.next e s q
theorem s_cons (h1 : PS X st0 (TS' X.K F s)) (h2 : PSs X rest (TS' X.K F r)) : PSs X (st0 :: rest) (TS' X.K F (.seq s r)) :=
  (pss_cons h1 h2).weak fun D σ H ⟨ι, ρ, st, E, e, s, q, p⟩ => ⟨ι, ρ, st, _, e, s, q, ⟨fun σ' H' ι' ρ' st' h' k' e' s' q' => ⟨ι', ρ', st', E, e', s', q', p.shift h' k'⟩, p.rt, p.bk, p.ct⟩⟩
/-- no comprehension -/
def noComp : Expr → Bool
  | .ListComp .. => false
  | .SetComp .. => false
  | .DictComp .. => false
  | _ => true
theorem sw_no {e : Expr} (h : noComp e = true) (t : Option Expr) (l : Nat) (env : Env) : swapsWith e t l env = pure false := by
  cases e <;> first | rfl | cases h
/-- no tuple stored into a row of targets -/
def noRow : Expr → Expr → Bool
  | .Tuple .., .Tuple .. => false
  | .List .., .Tuple .. => false
  | _, _ => true
theorem row_no {t e : Expr} (h : noRow t e = true) (env : Env) : swappedStores [t] e env = pure none := by
  cases t <;> first | rfl | (cases e <;> first | rfl | cases h)
theorem tg_one {t : Expr} (h : plainTg t = true) (env : Env) : (assignEach [t] env).map (·.2) = [assign t env] := tg_each h [] env
theorem s_asg {tg : Expr} {t : Tg} (he : PE X e (TD X.K F ce)) (hg : PG X tg (TG' X.K t)) (hc : noComp e = true) (hw : swappedStores [tg] e X.env = pure none) (hp : plainTg tg = true) : PS X (.Assign [tg] e pos) (TS' X.K F (.asg t ce)) :=
  (ps_asg he hg (sw_no hc _ _ _) hw (tg_one hp _)).weak fun D σ H ⟨ι, ρ, st, E, e, s, q, p⟩ => .go e s q fun v H1 ι1 d st1 h1 k1 e1 d1 s1 q1 => by
    obtain ⟨ρ1, es, q2⟩ := q1
    exact ⟨ι1, d, ρ, ρ1, st1, e1, d1, s1, es, fun σ' e' _ => p.nx σ' H1 ι1 ρ1 st1 h1 k1 e' s1 q2⟩
/-- y = [..] -/
def swB (sc scope : Scope) (y : Str) (py pos : Pos) : Bool := sc.names.lookup y == some .local && py.line == pos.line && !(scope.names.any fun (n, k) => n == y && (k == .local || k == .cell))
theorem sw_lc {elt : Expr} {gs : List Comprehension} {scope : Scope} {cpos py : Pos} {y : Str} {l : Nat} {env : Env} (hk : env.scope.kind = .function) : swapsWith (.ListComp elt gs scope cpos) (some (.Name y py)) l env = pure (swB env.scope scope y py cpos) := by
  have hb : env.blockKind = .function := by unfold Env.blockKind; rw [hk]; rfl
  unfold swapsWith swB
  simp only [hb, Expr.pos]
  rfl
section
variable {i : Nat} {y : Str} {py spos cpos : Pos} {elt tg iter : Expr} {ifs : List Expr} {scope : Scope} {own : List (Str × Nat)} {k : Ik} {t : Tg} {c ee : C}
theorem s_lcT (hc : X.calm = true) (hN : X.N.Nodup) (hy : X.N[i]? = some y) (hk : X.env.scope.kind = .function) (hsw : swB X.env.scope scope y py cpos = true) (hi : PI X tg iter (TI' X.K F k as)) (ok : BlkOk X.N X.env.scope scope own) (hv : ∀ i ∈ t.vars, i ∈ own.map (·.2))
    (hg : ∀ (s : Shared) (H : Hp) (C : Addr) (cl : List (Str × Addr)) (fp : List Addr), PG (X.blk s H scope (compEnvC scope cl C X.env) fp) tg (TG' X.K t)) (ht : ∀ (s : Shared) (H : Hp) (C : Addr) (cl : List (Str × Addr)) (fp : List Addr), PTs (X.blk s H scope (compEnvC scope cl C X.env) fp) ifs (TT' X.K F c))
    (he : ∀ (s : Shared) (H : Hp) (C : Addr) (cl : List (Str × Addr)) (fp : List Addr), PE (X.blk s H scope (compEnvC scope cl C X.env) fp) elt (TD X.K F ee)) (hs : ∀ x, foldedSetIterable iter X.env x = pure x) :
    PS X (.Assign [.Name y py] (.ListComp elt [⟨tg, iter, ifs, 0⟩] scope cpos) spos) (TS' X.K F (.asg (.name i) (.lc (own.map (·.2)) t k as c ee))) := by
  have h0 : X.env.scope.names.lookup y = some .local := by
    unfold swB at hsw
    rw [Bool.and_eq_true, Bool.and_eq_true] at hsw
    exact eq_of_beq hsw.1.1
  refine (ps_setLc hc hN hy h0 (by rw [sw_lc hk, hsw]) hi ok hg ht he hs).weak fun D σ H ⟨ι, ρ, st, E, e, s, q, p⟩ => ?_
  refine lc_read hv ?_
  exact TD.go e s q fun v H1 ι1 d st1 h1 k1 e1 d1 s1 q1 => by
    obtain ⟨ρ1, es, q2⟩ := q1
    cases es
    exact p.nx _ H1 ι1 _ st1 h1 k1 (e1.set d1 i) s1 q2
theorem s_lcF (hN : X.N.Nodup) (hy : X.N[i]? = some y) (hl : Loc X.env.scope y) (hf : X.fn y = true ∨ X.env.scope.names.lookup y = some .local) (hk : X.env.scope.kind = .function) (hsw : swB X.env.scope scope y py cpos = false) (he : PE X (.ListComp elt [⟨tg, iter, ifs, 0⟩] scope cpos) (TD X.K F ce)) :
    PS X (.Assign [.Name y py] (.ListComp elt [⟨tg, iter, ifs, 0⟩] scope cpos) spos) (TS' X.K F (.asg (.name i) ce)) :=
  (ps_set hN hy hl he (by rw [sw_lc hk, hsw]) hf).weak fun D σ H ⟨ι, ρ, st, E, e, s, q, p⟩ => .go e s q fun v H1 ι1 d st1 h1 k1 e1 d1 s1 q1 => by
    obtain ⟨ρ1, es, q2⟩ := q1
    cases es
    exact p.nx _ H1 ι1 _ st1 h1 k1 (e1.set d1 i) s1 q2
end
/-- two, three names stored beside one another -/
theorem s_par2 {i j : Nat} {x y : Str} {px py pt : Pos} {kt k2 : Nat} {pt2 : Pos} (hc : X.calm = true) (hN : X.N.Nodup) (hi : X.N[i]? = some x) (hj : X.N[j]? = some y) (hij : i ≠ j)
    (hx : X.env.scope.names.lookup x = some .local) (hy : X.env.scope.names.lookup y = some .local) (ha : PA X [a, b] (TDA X.K F as))
    (hw : swappedStores [.Tuple [.Name x px, .Name y py] kt pt] (.Tuple [a, b] k2 pt2) X.env = pure (some [x, y])) :
    PS X (.Assign [.Tuple [.Name x px, .Name y py] kt pt] (.Tuple [a, b] k2 pt2) pos) (TS' X.K F (.par [i, j] as)) :=
  (ps_par hc hN hi hj hij hx hy ha hw rfl).weak fun D σ H ⟨ι, ρ, st, E, e, s, q, p⟩ => .go e s q fun vs H1 ι1 ds st1 h1 k1 e1 d1 s1 q1 => by
    obtain ⟨xs, ex, ρ1, es, q2⟩ := q1
    cases ex
    match ds, vs, d1, es with
    | [d, d'], [v, w], .cons r (.cons r2 .nil), es =>
      cases es
      exact ⟨v, w, rfl, p.nx _ H1 ι1 _ st1 h1 k1 ((e1.set r i).set r2 j) s1 q2⟩
theorem s_par3 {c : Expr} {i j l : Nat} {x y z : Str} {px py pz pt : Pos} {kt k2 : Nat} {pt2 : Pos} (hc : X.calm = true) (hN : X.N.Nodup) (hi : X.N[i]? = some x) (hj : X.N[j]? = some y) (hl : X.N[l]? = some z) (hij : i ≠ j) (hil : i ≠ l) (hjl : j ≠ l)
    (hx : X.env.scope.names.lookup x = some .local) (hy : X.env.scope.names.lookup y = some .local) (hz : X.env.scope.names.lookup z = some .local) (ha : PA X [a, b, c] (TDA X.K F as))
    (hw : swappedStores [.Tuple [.Name x px, .Name y py, .Name z pz] kt pt] (.Tuple [a, b, c] k2 pt2) X.env = pure (some [x, y, z])) :
    PS X (.Assign [.Tuple [.Name x px, .Name y py, .Name z pz] kt pt] (.Tuple [a, b, c] k2 pt2) pos) (TS' X.K F (.par [i, j, l] as)) :=
  (ps_par3 hc hN hi hj hl hij hil hjl hx hy hz ha hw rfl).weak fun D σ H ⟨ι, ρ, st, E, e, s, q, p⟩ => .go e s q fun vs H1 ι1 ds st1 h1 k1 e1 d1 s1 q1 => by
    obtain ⟨xs, ex, ρ1, es, q2⟩ := q1
    cases ex
    match ds, vs, d1, es with
    | [d, d', d2], [v, w, u], .cons r (.cons r2 (.cons r3 .nil)), es =>
      cases es
      exact ⟨v, w, u, rfl, p.nx _ H1 ι1 _ st1 h1 k1 (((e1.set r i).set r2 j).set r3 l) s1 q2⟩
/-! ### a[i] = e -/
def TSt (K : PySem.W.Frag) : TSet := fun o i v H R => ∃ ι x k d st Q, StR K ι H st ∧ DR K ι H x o ∧ DR K ι H k i ∧ DR K ι H d v ∧ stoS x k d st Q ∧ ∀ H' st', Keep ι ι H H' → StR K ι H' st' → Q st' → R H'
theorem set_ok (hu : X.A.units + 1 < cLine) : PSet X (TSt X.K) := by
  intro pins s σ H o i v ov iv u R I r1 r2 r3 ⟨ι, x, k, d, st, Q, hs, hx, hk, hd, h, p⟩
  obtain ⟨n, rfl, h⟩ := h
  cases hx with
  | @ref _ a h1 =>
    rcases h with ⟨xs, j, m, e0, rfl, em, q⟩ | ⟨kvs, kk, e0, ek, hl, q⟩
    · obtain ⟨vs, g, r⟩ := cell_lst hs h1 e0
      cases hk
      obtain ⟨kp, s'⟩ := lst_put hs h1 g (r.set hd m)
      exact set_list pins s σ H _ _ v ov iv u R I r1 r2 r3 ⟨a, vs, j, m, rfl, rfl, g, by rw [← r.len]; exact em, p _ _ kp s' q⟩
    · obtain ⟨vs, g, r⟩ := hs.at e0 h1
      obtain rfl := keyOf_rel hk ek
      cases r1
      have kp : Keep ι ι H (upd H a (.dK (putK vs kk v))) := .upd (List.mem_of_getElem? h1) g (fun _ h => by cases h) fun _ _ h => by cases h
      refine d_setItem hu I (DPut.k (v := v) g (by rw [← r.len]; exact hl)) r2 r3 fun s' I' => ⟨_, I', p _ _ kp (hs.put h1 kp ?_) q⟩
      exact ⟨_, upd_same, (r.put hd).mono (List.prefix_refl _) kp.t⟩
def noSlice : Expr → Bool
  | .Slice .. => false
  | _ => true
theorem s_sto {p2 : Pos} (hu : X.A.units + 1 < cLine) (he : PE X e (TD X.K F ce)) (ho : PE X o (TD X.K F ca)) (hi : PE X i (TD X.K F ci)) (hc : noComp e = true) (hn : noSlice i = true) : PS X (.Assign [.Subscript o i p2] e pos) (TS' X.K F (.sto ce ca ci)) := by
  refine (ps_asg he (pg_sub ho hi (set_ok hu) (fun v => by cases i <;> first | rfl | cases hn)) (by show swapsWith e (some (.Subscript o i p2)) pos.line X.env = pure false; exact sw_no hc _ _ _) (by cases e <;> rfl) rfl).weak fun D σ H ⟨ι, ρ, st, E, e, s, q, p⟩ => ?_
  exact .go e s q fun v H1 ι1 d st1 h1 k1 e1 d1 s1 q1 => .go e1 s1 q1 fun w H2 ι2 d2 st2 h2 k2 e2 r2 s2 q2 => .go e2 s2 q2 fun u H3 ι3 d3 st3 h3 k3 e3 r3 s3 q3 =>
    ⟨ι3, d2, d3, d, st3, _, s3, r2.mono h3 k3, r3, d1.mono (h2.trans h3) (k2.trans k3).t, q3, fun H' st' k' s' q' => p.nx σ H' ι3 ρ st' ((h1.trans h2).trans h3) (((k1.trans k2).trans k3).trans k') (e3.mono (List.prefix_refl _) k'.t) s' q'⟩
/-- a[i], b[j] = e -/
theorem s_sto2 {o2 i2 : Expr} {ca2 ci2 : C} {p2 p3 pt : Pos} {kt : Nat} (hcm : X.calm = true) (hu : X.A.units + 1 < cLine) (he : PE X e (TD X.K F ce)) (ho : PE X o (TD X.K F ca)) (hi : PE X i (TD X.K F ci)) (ho2 : PE X o2 (TD X.K F ca2)) (hi2 : PE X i2 (TD X.K F ci2)) (hc : noComp e = true) (hn : noSlice i = true) (hn2 : noSlice i2 = true)
    (hw : swappedStores [.Tuple [.Subscript o i p2, .Subscript o2 i2 p3] kt pt] e X.env = pure none) : PS X (.Assign [.Tuple [.Subscript o i p2, .Subscript o2 i2 p3] kt pt] e pos) (TS' X.K F (.sto2 ce ca ci ca2 ci2)) := by
  have hg : PG X (.Tuple [.Subscript o i p2, .Subscript o2 i2 p3] kt pt) (gTup X.K 2 (gCons (gSub (TD X.K F ca) (TD X.K F ci) (TSt X.K)) (gCons (gSub (TD X.K F ca2) (TD X.K F ci2) (TSt X.K)) gNil))) :=
    pg_tup hcm (pgs_cons (pg_sub ho hi (set_ok hu) (fun v => by cases i <;> first | rfl | cases hn)) (pgs_cons (pg_sub ho2 hi2 (set_ok hu) (fun v => by cases i2 <;> first | rfl | cases hn2)) pgs_nil)) rfl rfl
  refine (ps_asg he hg (by cases e <;> first | rfl | cases hc) hw rfl).weak fun D σ H ⟨ι, ρ, st, E, e, s, q, p⟩ => ?_
  refine .go e s q fun v H1 ι1 d st1 h1 k1 e1 d1 s1 q1 => ?_
  obtain ⟨w1, w2, ed, q2⟩ := q1
  subst ed
  obtain ⟨a, vs, ev, g1, g2⟩ : ∃ a vs, v = .ref a ∧ SqT X.K H1 a vs ∧ DRs X.K ι1 H1 [w1, w2] vs := by
    cases d1 with
    | @tup a vs ds g1 g2 => exact ⟨a, vs, rfl, g1, g2⟩
  subst ev
  obtain ⟨u1, u2, ev, r1, r2⟩ := drs_two g2
  subst ev
  refine ⟨a, [u1, u2], rfl, g1, rfl, u1, [u2], rfl, ?_⟩
  refine .go e1 s1 q2 fun w H2 ι2 d2 st2 h2 k2 e2 dd2 s2 q2 => .go e2 s2 q2 fun u H3 ι3 d3 st3 h3 k3 e3 r3 s3 q3 => ?_
  refine ⟨ι3, d2, d3, w1, st3, _, s3, dd2.mono h3 k3, r3, r1.mono (h2.trans h3) (k2.trans k3).t, q3, fun H' st' k' s' q' => ?_⟩
  refine ⟨u2, [], rfl, ?_⟩
  refine .go (e3.mono (List.prefix_refl _) k'.t) s' q' fun w H4 ι4 d4 st4 h4 k4 e4 dd4 s4 q4 => .go e4 s4 q4 fun u H5 ι5 d5 st5 h5 k5 e5 r5 s5 q5 => ?_
  have kk := ((k2.trans k3).trans k').trans (k4.trans k5)
  have hh := (h2.trans h3).trans (h4.trans h5)
  refine ⟨ι5, d4, d5, w2, st5, _, s5, dd4.mono h5 k5, r5, r2.mono hh kk.t, q5, fun H'' st'' k'' s'' q'' => ⟨rfl, ?_⟩⟩
  exact p.nx σ H'' ι5 ρ st'' (h1.trans hh) ((k1.trans kk).trans k'') (e5.mono (List.prefix_refl _) k''.t) s'' q''
/-! ### x op= e, of whole numbers -/
theorem iopB (op : Bop) (hop : op ≠ .pow) : OpR X (inplaceOp (opOfB op)) (TV2 X.K fun x y st Q => ∃ a b, x = .int a ∧ y = .int b ∧ binS op x y st Q) := by
  intro pins s σ H x y v u R I rx ry ⟨ι, d, e, st, Q, hs, hd, he, ⟨a, b, ea, eb, hb⟩, hp⟩
  subst ea eb
  cases hd
  cases he
  cases op with
  | add => exact iop_add pins s σ H _ _ v u R I rx ry ⟨_, _, rfl, rfl, hp.fin (.int _) hs hb⟩
  | sub => exact iop_sub pins s σ H _ _ v u R I rx ry ⟨_, _, rfl, rfl, hp.fin (.int _) hs hb⟩
  | mul =>
    refine opI (f := inplaceOp .Mult) (C := IntMulOk) (g := fun i j => i * j) (fun _ _ _ _ _ _ _ hc q => imul_int q hc) pins s σ H _ _ v u R I rx ry ⟨_, _, rfl, rfl, hb.1, hp.fin (.int _) hs hb.2⟩
  | fdiv =>
    refine opI (f := inplaceOp .FloorDiv) (C := DivOk) (g := fun i j => i / j) (fun i j _ _ _ _ _ hc q => ?_) pins s σ H _ _ v u R I rx ry ⟨_, _, rfl, rfl, hb.1, hp.fin (.int _) hs hb.2⟩
    have h1 : (0 : Int) < j := hc.1
    refine ifloordiv_int (by omega) ?_ (.inl hc.2)
    rw [Int.fdiv_eq_ediv_of_nonneg _ (by omega)]
    exact q
  | mod => exact iop_mod pins s σ H _ _ v u R I rx ry ⟨_, _, rfl, rfl, hb.1, hp.fin (.int _) hs hb.2⟩
  | pow => exact absurd rfl hop
  | shl => exact iop_shlW pins s σ H _ _ v u R I rx ry ⟨_, _, rfl, rfl, hb.1, hp.fin (.int _) hs hb.2⟩
  | shr => exact iop_shr pins s σ H _ _ v u R I rx ry ⟨_, _, rfl, rfl, hb.1, hp.fin (.int _) hs hb.2⟩
  | band => exact iop_and pins s σ H _ _ v u R I rx ry ⟨_, _, rfl, rfl, hp.fin (.int _) hs hb⟩
  | bor => exact iop_or pins s σ H _ _ v u R I rx ry ⟨_, _, rfl, rfl, hp.fin (.int _) hs hb⟩
  | bxor => exact iop_xor pins s σ H _ _ v u R I rx ry ⟨_, _, rfl, rfl, hp.fin (.int _) hs hb⟩
theorem s_aug {i : Nat} {x : Str} {px : Pos} (op : Bop) (hop : op ≠ .pow) (hN : X.N.Nodup) (hi : X.N[i]? = some x) (hx : Loc X.env.scope x) (hf : X.fn x = true ∨ X.env.scope.names.lookup x = some .local) (he : PE X e (TD X.K F ce)) : PS X (.AugAssign (.Name x px) (opOfB op) e pos) (TS' X.K F (.aug i op ce)) :=
  (ps_aug hN hi hx he (iopB op hop) hf).weak fun D σ H ⟨ι, ρ, st, E, e, s, ⟨x, hx, q⟩, p⟩ => by
    obtain ⟨v, hv, rv⟩ := e.get i x hx
    exact ⟨v, hv, .go e s q fun w H1 ι1 d st1 h1 k1 e1 d1 s1 q1 => ⟨ι1, x, d, st1, _, s1, rv.mono h1 k1, d1, (by
      obtain ⟨a, b, ea, eb, hb⟩ := q1
      exact ⟨a, b, ea, eb, hb⟩), fun z H2 ι2 d2 st2 h2 k2 r2 s2 q2 => p.nx _ H2 ι2 _ st2 (h1.trans h2) (k1.trans k2) ((e1.mono h2 k2.t).set r2 i) s2 q2⟩⟩
theorem s_expr (he : PE X e (TD X.K F ce)) (hc : noComp e = true) : PS X (.Expr e pos) (TS' X.K F (.expr ce)) :=
  (ps_expr he (sw_no hc _ _ _)).weak fun D σ H ⟨ι, ρ, st, E, e, s, q, p⟩ => .go e s q fun v H1 ι1 d st1 h1 k1 e1 d1 s1 q1 => p.nx σ H1 ι1 ρ st1 h1 k1 e1 s1 q1
theorem s_ret (he : PE X e (TD X.K F ce)) : PS X (.Return (some e) pos) (TS' X.K F (.ret ce)) :=
  (ps_ret he).weak fun D σ H ⟨ι, ρ, st, E, e, s, q, p⟩ => ⟨ι, ρ, st, _, e, s, q, p.rt⟩
theorem s_retN : PS X (.Return none pos) (TS' X.K F .retN) :=
  ps_retN.weak fun D σ H ⟨ι, ρ, st, E, e, s, q, p⟩ => p.rt.fin .non s q
theorem s_pass : PS X (.Pass pos) (TS' X.K F .pass) := ps_pass.weak fun D σ H ⟨ι, ρ, st, E, e, s, q, p⟩ => p.next e s q
theorem s_brk : PS X (.Break pos) (TS' X.K F .brk) := ps_break.weak fun D σ H ⟨ι, ρ, st, E, e, s, q, p⟩ => p.bk σ H ι ρ st (List.prefix_refl _) (.refl H) e s q
theorem s_cont : PS X (.Continue pos) (TS' X.K F .cont) := ps_continue.weak fun D σ H ⟨ι, ρ, st, E, e, s, q, p⟩ => p.ct σ H ι ρ st (List.prefix_refl _) (.refl H) e s q
theorem s_never : PS X st0 (TS' X.K F .never) := ps_never.weak fun D σ H ⟨ι, ρ, st, E, e, s, q, p⟩ => q.elim
theorem s_doc {x : Str} {j : Nat} {p2 : Pos} : PS X (.Expr (.Constant (.str x) j p2) pos) (TS' X.K F .pass) := ps_doc.weak fun D σ H ⟨ι, ρ, st, E, e, s, q, p⟩ => p.next e s q
theorem s_if {c : Expr} {p q : List Stmt} (hc : PT X c (TT' X.K F cc)) (ha : PSs X p (TS' X.K F s)) (hb : PSs X q (TS' X.K F r)) : PS X (.If c p q pos) (TS' X.K F (.ite cc s r)) :=
  (ps_if hc ha hb).weak fun D σ H ⟨ι, ρ, st, E, e, s, q, p⟩ => .go e s q fun t H1 ι1 st1 h1 k1 e1 s1 q1 => by
    obtain ⟨t', et, q2⟩ := q1
    cases et
    cases t with
    | true => exact ⟨ι1, ρ, st1, E, e1, s1, q2, p.shift h1 k1⟩
    | false => exact ⟨ι1, ρ, st1, E, e1, s1, q2, p.shift h1 k1⟩
theorem s_for {tg iter : Expr} {body : List Stmt} {t : Tg} {k : Ik} (hp : PassesOwn (model X.prog X.w) X.A X.env X.xe) (hc : X.calm = true) (hi : PI X tg iter (TI' X.K F k as)) (hg : PG X tg (TG' X.K t)) (hb : PSs X body (TS' X.K F s))
    (hs : ∀ x, foldedSetIterable iter X.env x = pure x) : PS X (.For tg iter body [] pos) (TS' X.K F (.loop t k as s)) := by
  refine (ps_for hp hc hi hg hb hs).weak fun D σ H ⟨ι, ρ, st, E, e, hs, q, p⟩ => ?_
  refine ⟨ι, ρ, st, fun it st1 => ∃ n, forLoop it.step (fun d ρ => setTg t d ρ) (wps F s) E n 0 ρ st1, e, hs, q, fun J H1 ι1 it st1 h1 k1 e1 s1 hit ⟨n0, hl0⟩ => ?_⟩
  refine ⟨fun i m σ' Hc => ∃ ι' ρ' st', ι1 <+: ι' ∧ Keep ι1 ι' H1 Hc ∧ EnvR X.K ι' Hc σ' ρ' ∧ StR X.K ι' Hc st' ∧ forLoop it.step (fun d ρ => setTg t d ρ) (wps F s) E m i ρ' st', ⟨n0, ι1, ρ, st1, List.prefix_refl _, .refl _, e1, s1, hl0⟩, ?_⟩
  rintro i m σ' Hc ⟨ι', ρ', st', g2, k2, e2, s2, hl⟩
  cases m with
  | zero => exact hl.elim
  | succ m =>
    have hstep := hit ι' Hc st' i g2 k2.t s2
    simp only [forLoop] at hl
    split at hl
    · exact hl.elim
    · rename_i es
      exact .inl ⟨hstep.1 es, p.nx σ' Hc ι' ρ' st' (h1.trans g2) (k1.trans k2) e2 s2 hl⟩
    · rename_i d es
      obtain ⟨go, hy⟩ := hstep.2 d es
      refine .inr ⟨go, fun σn Hn => ∃ ι' ρ' st', ι1 <+: ι' ∧ Keep ι1 ι' H1 Hn ∧ EnvR X.K ι' Hn σn ρ' ∧ StR X.K ι' Hn st' ∧ forLoop it.step (fun d ρ => setTg t d ρ) (wps F s) E m (i + 1) ρ' st', fun σn Hn hn => ⟨m, Nat.lt_succ_self m, hn⟩, fun x H' y => ?_⟩
      obtain ⟨k3, s3, d3⟩ := hy x H' y
      obtain ⟨ρ1, eb, hl⟩ := hl
      have kk := k2.trans k3
      refine ⟨ι', d, ρ', ρ1, st', e2.mono (List.prefix_refl _) k3.t, d3, s3, eb, fun σ3 e3 _ => ⟨ι', ρ1, st', _, e3, s3, hl, ⟨?_, ?_, ?_, ?_⟩⟩⟩
      · exact fun σ4 H4 ι4 ρ4 st4 h4 k4 e4 s4 q4 => ⟨ι4, ρ4, st4, g2.trans h4, kk.trans k4, e4, s4, q4⟩
      · exact p.rt.shift (h1.trans g2) (k1.trans kk)
      · exact fun σ4 H4 ι4 ρ4 st4 h4 k4 e4 s4 q4 => p.nx σ4 H4 ι4 ρ4 st4 ((h1.trans g2).trans h4) ((k1.trans kk).trans k4) e4 s4 q4
      · exact fun σ4 H4 ι4 ρ4 st4 h4 k4 e4 s4 q4 => ⟨ι4, ρ4, st4, g2.trans h4, kk.trans k4, e4, s4, q4⟩
theorem s_while {c : Expr} {body : List Stmt} (hp : PassesOwn (model X.prog X.w) X.A X.env X.xe) (hc : PT X c (TT' X.K F cc)) (hb : PSs X body (TS' X.K F s)) : PS X (.While c body [] pos) (TS' X.K F (.whil cc s)) := by
  refine (ps_while hp hc hb).weak fun D σ H ⟨ι, ρ, st, E, e, hs, ⟨n0, hl0⟩, p⟩ => ?_
  refine ⟨fun m σ' Hc => ∃ ι' ρ' st', ι <+: ι' ∧ Keep ι ι' H Hc ∧ EnvR X.K ι' Hc σ' ρ' ∧ StR X.K ι' Hc st' ∧ whileLoop (wp F cc) (wps F s) E m ρ' st', ⟨n0, ι, ρ, st, List.prefix_refl _, .refl _, e, hs, hl0⟩, ?_⟩
  rintro m σ' Hc ⟨ι', ρ', st', g2, k2, e2, s2, hl⟩
  cases m with
  | zero => exact hl.elim
  | succ m =>
    refine TT'.go e2 s2 hl fun t H3 ι3 st3 h3 k3 e3 s3 q3 => ?_
    obtain ⟨t', et, q3⟩ := q3
    cases et
    cases t with
    | false => exact p.nx σ' H3 ι3 ρ' st3 (g2.trans h3) (k2.trans k3) e3 s3 q3
    | true =>
      refine ⟨fun σn Hn => ∃ ι' ρ' st', ι <+: ι' ∧ Keep ι ι' H Hn ∧ EnvR X.K ι' Hn σn ρ' ∧ StR X.K ι' Hn st' ∧ whileLoop (wp F cc) (wps F s) E m ρ' st', fun σn Hn hn => ⟨m, Nat.lt_succ_self m, hn⟩, ι3, ρ', st3, _, e3, s3, q3, ⟨?_, ?_, ?_, ?_⟩⟩
      · exact fun σ4 H4 ι4 ρ4 st4 h4 k4 e4 s4 q4 => ⟨ι4, ρ4, st4, (g2.trans h3).trans h4, (k2.trans k3).trans k4, e4, s4, q4⟩
      · exact p.rt.shift (g2.trans h3) (k2.trans k3)
      · exact fun σ4 H4 ι4 ρ4 st4 h4 k4 e4 s4 q4 => p.nx σ4 H4 ι4 ρ4 st4 ((g2.trans h3).trans h4) ((k2.trans k3).trans k4) e4 s4 q4
      · exact fun σ4 H4 ι4 ρ4 st4 h4 k4 e4 s4 q4 => ⟨ι4, ρ4, st4, (g2.trans h3).trans h4, (k2.trans k3).trans k4, e4, s4, q4⟩
end
end Cb

namespace Cb
open PySem PySem.Spec PyProof.Rows L2

/-! ## calls of the text's own defs -/
/-- room for k calls in one another, each with an instance made -/
structure RoomM (k : Nat) (A : Around) : Prop where
  hd : A.handled = none
  dp : A.depth + 2 * k + 5 < recursionLimit
  un : A.units + 8 * k + 200 < cLine
/-- .. within a body -/
structure RoomB (k : Nat) (A : Around) : Prop where
  hd : A.handled = none
  dp : A.depth + 2 * k + 6 < recursionLimit
  un : A.units + 8 * k + 205 < cLine
theorem RoomM.of {k : Nat} {A : Around} (r : Room k A) : RoomM k A := ⟨r.hd, by have := r.dp; omega, by have := r.un; omega⟩
theorem RoomM.depth {k : Nat} {A : Around} (r : RoomM k A) : A.depth < recursionLimit := by have := r.dp; omega
theorem RoomM.deeper {k : Nat} {A : Around} (r : RoomM (k + 1) A) (env : Env) : RoomB k (A.deeper env) :=
  ⟨r.hd, by have := r.dp; show A.depth + 1 + 2 * k + 6 < _; omega, by have := r.un; show A.units + 3 + 8 * k + 205 < _; omega⟩
theorem RoomB.m {k : Nat} {A : Around} (r : RoomB k A) : RoomM k A := ⟨r.hd, by have := r.dp; omega, by have := r.un; omega⟩
theorem RoomB.make {k : Nat} {A : Around} (r : RoomB k A) (C : Addr) (us : List Value) (kw : List (Str × Value)) : RoomM k (A.under (.builtin "type.__call__" ⟨.ref C :: us, kw⟩)) :=
  ⟨r.hd, by have := r.dp; rw [make_depth]; omega, by have := r.un; rw [make_units]; omega⟩
/-- a def keeps its promise wherever k rooms are left and no repr is under way; nothing is raised -/
structure FnG (P : Program) (w : World) (K : PySem.W.Frag) (mg : Str → Option Value) (base : Heap) (k : Nat) (f : Addr) (fd : FuncData) (ps : List Str) (sp : List V → Hp → VK → Prop) : Prop where
  run : ∀ (A : Around) (outer : List Env) (s : Shared) (H : Hp) (args : Args) (us : List Value) (vs : List V) (Q : VK), RoomM k A → A.guards = some [] →
    Env0 P w K mg base A outer s H → BindsTo s fd args (ps.zip us) → Vals vs us → vs.length = ps.length → sp vs H Q → codeAny (model P w) A (.call (.ref f) args) (CR CX0 outer P w H s Q E0) s
/-- what our semantics promises -/
def spD (K : PySem.W.Frag) (F : Fm) (f : Nat) : List V → Hp → VK → Prop := fun vs H R => ∃ ι ds st Q, DRs K ι H ds vs ∧ StR K ι H st ∧ F f ds st Q ∧ Post K ι H Q R
/-- how a def is called: its name, how many by position, which by name; its number, the arguments' places by the parameters -/
structure Pat where
  name : Str
  npos : Nat
  ks : List Str
  f : Nat
  perm : List Nat
def PatOk (P : Program) (w : World) (K : PySem.W.Frag) (mg : Str → Option Value) (base : Heap) (F : Fm) (k : Nat) (p : Pat) : Prop :=
  ∃ a fd ps, mg p.name = some (.ref a) ∧ PySem.W.keepIn K (.ref a) = true ∧ FnG P w K mg base k a fd ps (spD K F p.f) ∧ p.perm.length = ps.length ∧
    (∀ (s : Shared) (us ws xs : List Value), K.In s.heap → us.length = p.npos → ws.length = p.ks.length → permL (us ++ ws) p.perm = some xs → BindsTo s fd ⟨us, p.ks.zip ws⟩ (ps.zip xs)) ∧ (p.name == ("__debug__" : Str)) = false
theorem permL_len {α : Type} {xs ys : List α} : ∀ {p : List Nat}, permL xs p = some ys → ys.length = p.length := by
  intro p
  induction p generalizing ys with
  | nil => intro h; cases h; rfl
  | cons i r ih =>
    intro h
    unfold permL at h
    split at h
    · cases h
      rename_i e
      simp [ih e]
    · cases h
theorem permL_rel {K : PySem.W.Frag} {ι : List Addr} {H : Hp} {ds es : List D} {vs : List V} {us : List Value} (r : DRs K ι H ds vs) (q : Vals vs us) : ∀ {p : List Nat}, permL ds p = some es → ∃ ws xs, permL us p = some xs ∧ DRs K ι H es ws ∧ Vals ws xs := by
  intro p
  induction p generalizing es with
  | nil => intro h; cases h; exact ⟨[], [], rfl, .nil, .nil⟩
  | cons i p ih =>
    intro h
    unfold permL at h
    split at h
    · rename_i d es' e1 e2
      cases h
      obtain ⟨v, ev, rv⟩ := r.get e1
      obtain ⟨u, eu, ru⟩ := q.get ev
      obtain ⟨ws, xs, h1, h2, h3⟩ := ih e2
      refine ⟨v :: ws, u :: xs, ?_, .cons rv h2, .cons ru h3⟩
      unfold permL
      rw [eu, h1]
    · cases h
section
variable {X : Cx} {F : Fm} {k : Nat} {x : Str} {p pos : Pos} {e : Expr} {es : List Expr} {kws : List Keyword} {ca ck ce cs : C} {kpos : Pos} {nm : Option Str}
/-- keywords -/
theorem k_nil : PK X [] (TDA X.K F .nil) := ⟨fun pos pins s σ H Q I ⟨ι, ρ, st, Q', e, hs, q, p⟩ => pk_nil.run pos pins s σ H Q I (p [] H ι [] st (List.prefix_refl _) (.refl H) .nil hs q)⟩
theorem k_cons (ha : PE X e (TD X.K F ce)) (hr : PK X kws (TDA X.K F cs)) : PK X (⟨nm, e, kpos⟩ :: kws) (TDA X.K F (.cons ce cs)) :=
  ⟨fun pos pins s σ H R I ⟨ι, ρ, st, Q, e, hs, q, p⟩ => (pk_cons ha hr).run pos pins s σ H R I (.go e hs q fun v H1 ι1 d st1 h1 k1 e1 d1 s1 q1 =>
    .go e1 s1 q1 fun vs H2 ι2 ds st2 h2 k2 e2 d2 s2 q2 => by
      obtain ⟨xs, e3, q3⟩ := q2
      cases e3
      exact p (v :: vs) H2 ι2 (d :: ds) st2 (h1.trans h2) (k1.trans k2) (.cons (d1.mono h2 k2) d2) s2 q3)⟩
/-- a keyword has a name -/
def kwNames : List Keyword → Option (List Str)
  | [] => some []
  | ⟨some n, _, _⟩ :: r => match kwNames r with
    | some ns => some (n :: ns)
    | none => none
  | ⟨none, _, _⟩ :: _ => none
theorem kw_ok (pos : Pos) (env : Env) : ∀ {kws : List Keyword} {ns : List Str}, kwNames kws = some ns → (backToKw pos (keywordEach kws env)).all (·.1.isSome) = true ∧ (backToKw pos (keywordEach kws env)).filterMap (·.1) = ns ∧ (backToKw pos (keywordEach kws env)).any (·.1.isNone) = false ∧ kws.length = ns.length
  | [], _, h => by cases h; exact ⟨rfl, rfl, rfl, rfl⟩
  | ⟨some n, v, q⟩ :: r, ns, h => by
    unfold kwNames at h
    split at h
    · rename_i ms e
      cases h
      obtain ⟨h1, h2, h3, h4⟩ := kw_ok pos env e
      refine ⟨?_, ?_, ?_, by simp [h4]⟩
      · show (true && (backToKw pos (keywordEach r env)).all (·.1.isSome)) = true
        rw [h1]
        rfl
      · show n :: (backToKw pos (keywordEach r env)).filterMap (·.1) = n :: ms
        rw [h2]
      · show (false || (backToKw pos (keywordEach r env)).any (·.1.isNone)) = false
        rw [h3]
        rfl
    · cases h
  | ⟨none, v, q⟩ :: r, ns, h => by cases h
/-- the callee runs -/
theorem run_pat {pt : Pat} (hp : PatOk X.prog X.w X.K X.mg X.base F k pt) (hr : RoomM k X.A) (hg : X.A.guards = some []) {pins : List (Addr × Obj)} {σ : L2.St} {s : Shared} {ι : List Addr} {H : Hp} {R : VK} {us ws : List Value} {vs zs : List V} {ds es ys : List D} {st : Store} {Q : K1}
    (I : Inv X pins σ H s) (h1 : DRs X.K ι H ds vs) (h2 : DRs X.K ι H es zs) (r1 : Vals vs us) (r2 : Vals zs ws) (l1 : us.length = pt.npos) (l2 : ws.length = pt.ks.length) (hs : StR X.K ι H st) (hpm : permL (ds ++ es) pt.perm = some ys) (hF : F pt.f ys st Q) (p : Post X.K ι H Q R) (a : Addr) (ha : X.mg pt.name = some (.ref a)) :
    wpAny (model X.prog X.w) X.A (call (.ref a) us (pt.ks.zip ws)) (EP X pins σ R) X.xe s := by
  obtain ⟨a', fd, ps, hm, hk, G, hl, hb, _⟩ := hp
  rw [ha] at hm
  cases hm
  obtain ⟨qs, xs, e1, e2, e3⟩ := permL_rel (h1.append h2) (r1.append r2) hpm
  have hlen : qs.length = ps.length := by rw [← e2.len, permL_len hpm, hl]
  refine wpAny_call (codeAny_mono (G.run X.A X.stack s H ⟨us, pt.ks.zip ws⟩ xs qs R hr hg I.env0 (hb s us ws xs I.kIn l1 l2 e1) e3 hlen ⟨ι, ys, st, Q, e2, hs, hF, p⟩) fun r s' hq => ?_)
  match r, hq with
  | .ok (.ret u), hq => exact I.after hq
  | .ok .next, hq => exact hq.elim
  | .ok .brk, hq => exact hq.elim
  | .ok .cont, hq => exact hq.elim
  | .error _, hq => exact (show False from hq).elim
theorem permN_of {α : Type} {n m : Nat} {xs zs ys : List α} {p : List Nat} (h : permN n m xs zs p = some ys) : xs.length = n ∧ zs.length = m ∧ permL (xs ++ zs) p = some ys := by
  unfold permN at h
  split at h
  · rename_i e
    exact ⟨e.1, e.2, h⟩
  · cases h
/-- f(e, .., k = v, ..) -/
theorem d_call {pt : Pat} (hp : PatOk X.prog X.w X.K X.mg X.base F k pt) (hr : RoomM k X.A) (hg : X.A.guards = some []) (hx : pt.name = x) (hgl : Gl X x) (ha : PA X es (TDA X.K F ca)) (hkw : PK X kws (TDA X.K F ck)) (hst : es.all notStar = true) (hks : kwNames kws = some pt.ks) (hca : es = [] → ca = .nil) :
    PE X (.Call (.Name x p) es kws pos) (TD X.K F (.call pt.f pt.npos pt.ks.length pt.perm ca ck)) := by
  subst hx
  have hp' := hp
  obtain ⟨a, fd, ps, hm, hk, _, _, _, hdb⟩ := hp'
  refine ⟨fun pins s σ H R I ⟨ι, ρ, st, Q, e, hs, q, pp⟩ => ?_⟩
  obtain ⟨k1, k2, k3, k4⟩ := kw_ok pos X.env hks
  refine wpAny_Call_Name_kw (ld_glob I hgl hm ?_ hdb)
  -- the arguments by position, then by name, then the call
  have go : ∀ (s1 : Shared) (H1 : Hp) (vs : List V) (us : List Value), Inv X pins σ H1 s1 → Vals vs us → (∃ ι1 ds st1, ι <+: ι1 ∧ Keep ι ι1 H H1 ∧ EnvR X.K ι1 H1 σ ρ ∧ DRs X.K ι1 H1 ds vs ∧ StR X.K ι1 H1 st1 ∧ wp F ck ρ st1 fun z st2 => ∃ zs, z = .tup zs ∧ som (permN pt.npos pt.ks.length ds zs pt.perm) fun ys => F pt.f ys st2 Q) →
      wpAny (model X.prog X.w) X.A (evalAll ((backToKw pos (keywordEach kws X.env)).map (·.2))) (fun ks s₂ => X.K.In s₂.heap ∧ wpAny (model X.prog X.w) X.A (call (.ref a) us (((backToKw pos (keywordEach kws X.env)).filterMap (·.1)).zip ks)) (EP X pins σ R) X.xe s₂) X.xe s1 := by
    intro s1 H1 vs us I1 r ⟨ι1, ds, st1, g1, kk1, e1, d1, hs1, q1⟩
    refine thn (hkw.run pos pins s1 σ H1 (fun zs H2 => ∃ ι2 es st2, ι <+: ι2 ∧ Keep ι ι2 H H2 ∧ DRs X.K ι2 H2 ds vs ∧ DRs X.K ι2 H2 es zs ∧ StR X.K ι2 H2 st2 ∧ som (permN pt.npos pt.ks.length ds es pt.perm) fun ys => F pt.f ys st2 Q) I1
      (.go e1 hs1 q1 fun zs H2 ι2 es st2 g2 kk2 e2 d2 s2 q2 => ?_)) fun ws s2 ⟨zs, H2, I2, rz, ι2, es', st2, g2, kk2, d1', d2, hs2, ys, hpm, hF⟩ => ⟨I2.kIn, ?_⟩
    · obtain ⟨zs', ez, q3⟩ := q2
      cases ez
      exact ⟨ι2, es, st2, g1.trans g2, kk1.trans kk2, d1.mono g2 kk2, d2, s2, q3⟩
    · rw [k2]
      obtain ⟨l1, l2, hpm⟩ := permN_of hpm
      exact run_pat hp hr hg I2 d1' d2 r rz (by rw [← r.length, ← d1'.len]; exact l1) (by rw [← rz.length, ← d2.len]; exact l2) hs2 hpm hF (pp.shift g2 kk2) a hm
  cases es with
  | cons e0 es =>
    rw [List.all_cons, Bool.and_eq_true] at hst
    refine PySem.W.callWith_KW (h₀ := X.base) I.ok.mod.kin hk k1 (thn (ha.run pos pins s σ H (fun vs H1 => ∃ ι1 ds st1, ι <+: ι1 ∧ Keep ι ι1 H H1 ∧ EnvR X.K ι1 H1 σ ρ ∧ DRs X.K ι1 H1 ds vs ∧ StR X.K ι1 H1 st1 ∧ wp F ck ρ st1 fun z st2 => ∃ zs, z = .tup zs ∧ som (permN pt.npos pt.ks.length ds zs pt.perm) fun ys => F pt.f ys st2 Q) I
      (.go e hs q fun vs H1 ι1 ds st1 g1 kk1 e1 d1 s1 q1 => ?_)) fun us s1 ⟨vs, H1, I1, r, h1⟩ => go s1 H1 vs us I1 r h1) ?_ (star_cons hst.1 _ _)
    · obtain ⟨xs, ex, q2⟩ := q1
      cases ex
      exact ⟨ι1, ds, st1, g1, kk1, e1, d1, s1, q2⟩
    · rw [star_cons hst.1]
      show ((false || (backTo pos (starEach es X.env)).any (·.1)) || _) = false
      rw [star_any pos X.env es hst.2, k3]
      rfl
  | nil =>
    refine PySem.W.callWith_KW0 (h₀ := X.base) I.ok.mod.kin hk k1 ?_ (by rw [k3]; rfl)
    cases hca rfl
    obtain ⟨xs, ex, q2⟩ := q
    cases ex
    exact go s H [] [] I .nil ⟨ι, [], st, List.prefix_refl _, .refl H, e, .nil, hs, q2⟩
end
end Cb

namespace Cb
open PySem PySem.Spec PyProof.Rows L2
/-! ## instances of the text's own classes -/
/-- how a method is called -/
structure MPat where
  cls : Kl
  name : Str
  npos : Nat
  f : Nat
/-- how an instance is made -/
structure CPat where
  cls : Kl
  npos : Nat
  f : Nat
/-- the arguments by position, behind the instance -/
def SelfBinds (K : PySem.W.Frag) (fd : FuncData) (ps : List Str) (n : Nat) : Prop :=
  ps.length = n + 1 ∧ ∀ (s : Shared) (u0 : Value) (us : List Value), K.In s.heap → us.length = n → BindsTo s fd ⟨u0 :: us, []⟩ (ps.zip (u0 :: us))
def MPatOk (P : Program) (w : World) (K : PySem.W.Frag) (mg : Str → Option Value) (base : Heap) (F : Fm) (k : Nat) (p : MPat) : Prop :=
  ∃ C a fd ps, KlOk K p.cls C ∧ Meth K C p.name a ∧ FnG P w K mg base k a fd ps (spD K F p.f) ∧ SelfBinds K fd ps p.npos
def CPatOk (P : Program) (w : World) (K : PySem.W.Frag) (mg : Str → Option Value) (base : Heap) (F : Fm) (k : Nat) (p : CPat) : Prop :=
  ∃ C a fd ps, KlOk K p.cls C ∧ mg p.cls.name = some (.ref C) ∧ Mk K C a ∧ FnG P w K mg base k a fd ps (spD K F p.f) ∧ SelfBinds K fd ps p.npos ∧ (p.cls.name == ("__debug__" : Str)) = false
theorem KlOk.same {K : PySem.W.Frag} {c : Kl} {C C' : Addr} (h : KlOk K c C) (h' : KlOk K c C') : C' = C := by
  have := h.at_.symm.trans h'.at_
  cases this
  rfl
theorem cell_ins {K : PySem.W.Frag} {ι : List Addr} {H : Hp} {st : Store} (hs : StR K ι H st) {n : Nat} {a : Addr} {c : Kl} {fs : List (Str × D)} (h1 : ι[n]? = some a) (e0 : st[n]? = some (.ins c fs)) :
    ∃ C dx vs, KlOk K c C ∧ H a = some (.ins C dx vs) ∧ DFs K ι H fs vs ∧ ∀ p ∈ fs, p.1 ∈ c.names := hs.at e0 h1
theorem lookup_mem {α : Type} {f : Str} {v : α} : ∀ {fs : List (Str × α)}, fs.lookup f = some v → (f, v) ∈ fs
  | [], h => by cases h
  | (g, x) :: r, h => by
    rw [List.lookup_cons] at h
    split at h
    · rename_i e
      cases h
      rw [eq_of_beq e]
      exact List.mem_cons_self
    · exact List.mem_cons_of_mem _ (lookup_mem h)
theorem lookup_no {α : Type} {f : Str} : ∀ {fs : List (Str × α)}, (∀ p ∈ fs, p.1 ≠ f) → fs.lookup f = none
  | [], _ => rfl
  | (g, x) :: r, h => by
    rw [List.lookup_cons, beq_eq_false_iff_ne.mpr (h (g, x) List.mem_cons_self).symm]
    exact lookup_no fun p hp => h p (List.mem_cons_of_mem _ hp)
section
variable {X : Cx} {F : Fm} {k : Nat} {f m : Str} {pos apos cpos pos' tpos : Pos} {e o a value : Expr} {es : List Expr} {ca ce co cs : C}
/-- e.f -/
theorem d_fld (ha : PE X e (TD X.K F ca)) (hb : plainBase e = true) : PE X (.Attribute e f pos) (TD X.K F (.fld ca f)) :=
  (pe_fld ha (base_ok hb _ _ _)).weak fun σ H R ⟨ι, ρ, st, Q, e, s, q, p⟩ => .go e s q fun x H1 ι1 d st1 h1 k1 e1 d1 s1 q1 => by
    obtain ⟨v, ev, q2⟩ := q1
    cases d1 with
    | @ref n a hn =>
      simp only [fldS] at ev
      split at ev
      · rename_i c fs e0
        obtain ⟨C, dx, vs, ok, g, r, hm⟩ := cell_ins s1 hn e0
        obtain ⟨w, el, rw'⟩ := r.get ev
        exact ⟨a, C, dx, vs, w, rfl, g, ok.cls, ok.no f (hm _ (lookup_mem ev)), el, p w H1 ι1 v st1 h1 k1 rw' s1 q2⟩
      · cases ev
    | _ => cases ev
theorem ins_put {K : PySem.W.Frag} {ι : List Addr} {H : Hp} {st : Store} (hs : StR K ι H st) {n : Nat} {a C dx : Addr} {c : Kl} {fs : List (Str × D)} {vs : List (Str × V)} {d : D} {v : V} (hn : ι[n]? = some a) (ok : KlOk K c C) (g : H a = some (.ins C dx vs)) (r : DFs K ι H fs vs) (hm : ∀ p ∈ fs, p.1 ∈ c.names) (hf : f ∈ c.names) (hd : DR K ι H d v) :
    Keep ι ι H (upd H a (.ins C dx (putF f v vs))) ∧ StR K ι (upd H a (.ins C dx (putF f v vs))) (st.set n (.ins c (putFD f d fs))) := by
  have kp : Keep ι ι H (upd H a (.ins C dx (putF f v vs))) := .upd (List.mem_of_getElem? hn) g (fun _ h => by cases h) fun _ _ h => by cases h
  refine ⟨kp, hs.put hn kp ?_⟩
  refine ⟨C, dx, _, ok, upd_same, (DFs.put hd r).mono (List.prefix_refl _) kp.t, fun p hp => ?_⟩
  rcases putFD_sub hp with h | ⟨q, h1, h2⟩
  · rw [h]; exact hf
  · rw [← h2]; exact hm q h1
/-- a.f = e -/
theorem s_sfd (ha : PE X a (TD X.K F ca)) (he : PE X e (TD X.K F ce)) (hc : noComp e = true) : PS X (.Assign [.Attribute a f pos'] e pos) (TS' X.K F (.sfd ce ca f)) :=
  (ps_fld ha he (sw_no hc _ _ _)).weak fun D σ H ⟨ι, ρ, st, E, e, s, q, p⟩ => .go e s q fun v H1 ι1 d st1 h1 k1 e1 d1 s1 q1 =>
    .go e1 s1 q1 fun x H2 ι2 d' st2 h2 k2 e2 d2 s2 q2 => by
      obtain ⟨n, c, fs, rfl, e0, hf, hl, q3⟩ := q2
      cases d2 with
      | @ref _ a hn =>
        obtain ⟨C, dx, vs, ok, g, r, hm⟩ := cell_ins s2 hn e0
        have dv := d1.mono h2 k2.t
        obtain ⟨kp, s3⟩ := ins_put s2 hn ok g r hm hf dv
        exact ⟨a, C, dx, vs, rfl, g, ok.cls, ok.no f hf, by rw [← r.len]; exact hl, p.nx σ _ ι2 ρ _ (h1.trans h2) ((k1.trans k2).trans kp) (e2.mono (List.prefix_refl _) kp.t) s3 q3⟩
/-- a.f op= e -/
theorem s_afd (op : Bop) (hop : op ≠ .pow) (ha : PE X a (TD X.K F ca)) (he : PE X e (TD X.K F ce)) : PS X (.AugAssign (.Attribute a f tpos) (opOfB op) e pos) (TS' X.K F (.afd ca f op ce)) :=
  (ps_fldaug ha he (iopB op hop)).weak fun D σ H ⟨ι, ρ, st, E, e, s, q, p⟩ => .go e s q fun x H1 ι1 d st1 h1 k1 e1 d1 s1 q1 => by
    obtain ⟨n, c, fs, v, rfl, e0, ev, q2⟩ := q1
    cases d1 with
    | @ref _ a hn =>
      obtain ⟨C, dx, vs, ok, g, r, hm⟩ := cell_ins s1 hn e0
      obtain ⟨w, el, rw'⟩ := r.get ev
      refine ⟨a, C, dx, vs, w, rfl, g, ok.cls, ok.no f (hm _ (lookup_mem ev)), el, .go e1 s1 q2 fun y H2 ι2 dy st2 h2 k2 e2 d2 s2 q3 => ?_⟩
      obtain ⟨i, j, ei, ej, hb⟩ := q3
      refine ⟨ι2, v, dy, st2, _, s2, rw'.mono h2 k2, d2, ⟨i, j, ei, ej, hb⟩, fun z H3 ι3 d3 st3 h3 k3 r3 s3 q4 => ?_⟩
      obtain ⟨fs', e0', hf', hl', q5⟩ := q4
      have hn3 := pre_get (h2.trans h3) hn
      obtain ⟨C', dx', vs', ok', g', r', hm'⟩ := cell_ins s3 hn3 e0'
      cases ok.same ok'
      obtain ⟨kp, s4⟩ := ins_put s3 hn3 ok g' r' hm' hf' r3
      exact ⟨dx', vs', g', by rw [← r'.len]; exact hl', p.nx σ _ ι3 ρ _ ((h1.trans h2).trans h3) (((k1.trans k2).trans k3).trans kp) ((e2.mono h3 k3.t).mono (List.prefix_refl _) kp.t) s4 q5⟩
/-- o.m(..) by what the method of the value is -/
theorem wpAny_Call_own {prog : Program} {w : World} {A : Around} {env : Env} {E : Value → Shared → Prop} {s : Shared} {Q : Value → Shared → Prop}
    (hbase : attributeBase o m env (eval o env) = eval o env)
    (hfew : ((backTo pos (starEach es env)).all (fun x => !x.1) && (backToKw pos (keywordEach [] env)).all (fun x => x.1.isSome)
      && decide (es.length + ([] : List Keyword).length + (if ([] : List Keyword).isEmpty then 0 else 1) < 30)) = true)
    (hline : (apos.endLine == pos.line) = true)
    (h : wpAny (model prog w) A (eval o env) (fun ov s₁ => ∀ pl, wpAny (model prog w) A (getMethod ov m pl) (fun fx s2 => wpAny (model prog w) A (callWith pos fx.1 fx.2 (backTo pos (starEach es env)) []) Q E s2) E s₁) E s) :
    wpAny (model prog w) A (eval (.Call (.Attribute o m apos) es [] pos) env) Q E s := by
  rw [arm_eval_Call, hbase]
  refine wpAny_bind (wpAny_mono h (fun ov s₁ h₁ => ?_) fun _ _ e => e)
  refine wpAny_bind (wpAny_standAt ?_)
  have hform : methodCallForm (es.length + ([] : List Keyword).length) (backTo pos (starEach es env)) (backToKw pos (keywordEach [] env)) = true := hfew
  have hpos : methodCallPos true o env apos pos = pure pos := by unfold methodCallPos; simp [hline]
  unfold methodCall
  rw [hform]
  refine wpAny_bind (wpAny_holding (wpAny_mono (h₁ _) (fun fx s2 h2 => ?_) fun _ _ e => e))
  exact wpAny_bind (wpAny_of_eq hpos h2)
/-- the callee runs, behind its instance -/
theorem run_self {g : Addr} {fd : FuncData} {ps : List Str} {n fi : Nat} {A : Around} {stack : List Env} (G : FnG X.prog X.w X.K X.mg X.base k g fd ps (spD X.K F fi)) (hb : SelfBinds X.K fd ps n) (hr : RoomM k A) (hg : A.guards = some []) {s : Shared} {ι : List Addr} {H : Hp} {R : VK} {us : List Value} {vs : List V} {u0 : Value} {v0 : V} {d0 : D} {ds : List D} {st : Store} {Q : K1}
    (I : Env0 X.prog X.w X.K X.mg X.base A stack s H) (hK : X.K.In s.heap) (h0 : DR X.K ι H d0 v0) (h1 : DRs X.K ι H ds vs) (r0 : RelV v0 u0) (r1 : Vals vs us) (l1 : ds.length = n) (hs : StR X.K ι H st) (hF : F fi (d0 :: ds) st Q) (p : Post X.K ι H Q R) :
    codeAny (model X.prog X.w) A (.call (.ref g) ⟨u0 :: us, []⟩) (CR CX0 stack X.prog X.w H s R E0) s := by
  have e1 := h1.len
  have e2 := r1.length
  exact G.run A stack s H ⟨u0 :: us, []⟩ (u0 :: us) (v0 :: vs) R hr hg I (hb.2 s u0 us hK (by omega)) (.cons r0 r1) (by rw [hb.1, List.length_cons]; omega) ⟨ι, d0 :: ds, st, Q, .cons h0 h1, hs, hF, p⟩
/-- o.m(..) -/
theorem d_mcl {pt : MPat} (hp : MPatOk X.prog X.w X.K X.mg X.base F k pt) (hr : RoomM k X.A) (hg : X.A.guards = some []) (hnm : pt.name = m) (ho : PE X o (TD X.K F co)) (ha : PA X es (TDA X.K F ca)) (hst : es.all notStar = true) (hb : plainBase o = true) (hl : (apos.endLine == cpos.line) = true) (h30 : es.length < 30) (hca : es = [] → ca = .nil) :
    PE X (.Call (.Attribute o m apos) es [] cpos) (TD X.K F (.mcl pt.cls m pt.f pt.npos co ca)) := by
  subst hnm
  obtain ⟨C, g, fd, ps, ok, hm, G, hbind⟩ := hp
  refine ⟨fun pins s σ H R I ⟨ι, ρ, st, Q, e, hs, q, pp⟩ => ?_⟩
  have few : ((backTo cpos (starEach es X.env)).all (fun x => !x.1) && (backToKw cpos (keywordEach [] X.env)).all (fun x => x.1.isSome) && decide (es.length + ([] : List Keyword).length + (if ([] : List Keyword).isEmpty then 0 else 1) < 30)) = true := by
    rw [star_few cpos X.env es hst]
    have h1 : decide (es.length + ([] : List Keyword).length + (if ([] : List Keyword).isEmpty then 0 else 1) < 30) = true := decide_eq_true h30
    rw [h1]
    rfl
  refine wpAny_Call_own (base_ok hb _ _ _) few hl (thn (ho.run pins s σ H (fun x H1 => ∃ ι1 i fs a dx vs st1, x = .ref a ∧ ι <+: ι1 ∧ Keep ι ι1 H H1 ∧ EnvR X.K ι1 H1 σ ρ ∧ StR X.K ι1 H1 st1 ∧ DR X.K ι1 H1 (.ref i) (.ref a) ∧ H1 a = some (.ins C dx vs) ∧ vs.lookup pt.name = none ∧ fs = vs ∧
      wp F ca ρ st1 fun y st2 => ∃ xs, y = .tup xs ∧ xs.length = pt.npos ∧ F pt.f (.ref i :: xs) st2 Q) I
    (.go e hs q fun x H1 ι1 d st1 g1 kk1 e1 d1 s1 q1 => ?_)) fun u s1 ⟨x, H1, I1, rx, ι1, i, fs, a, dx, vs, st1, ex, g1, kk1, e1, s1', dref, gins, lno, _, q1⟩ pl => ?_)
  · obtain ⟨⟨i, fs, rfl, e0⟩, q2⟩ := q1
    cases d1 with
    | @ref _ a hn =>
      obtain ⟨C', dx, vs, ok', gi, r, hm'⟩ := cell_ins s1 hn e0
      cases ok.same ok'
      refine ⟨ι1, i, vs, a, dx, vs, st1, rfl, g1, kk1, e1, s1, .ref hn, gi, r.none (lookup_no fun p hp hpn => ?_), rfl, q2⟩
      have n1 := ok.no pt.name (by rw [← hpn]; exact hm' p hp)
      have n2 := hm.at_
      unfold NoAttr at n1
      rw [n1] at n2
      cases n2
  · subst ex
    obtain rfl : u = Value.ref a := rx
    refine getmeth_ok I1 gins ok.cls hm lno ?_
    have fin : ∀ (s2 : Shared) (H2 : Hp) (us : List Value) (ws : List V) (ι2 : List Addr) (ds : List D) (st2 : Store), Inv X pins σ H2 s2 → ι1 <+: ι2 → Keep ι1 ι2 H1 H2 → DRs X.K ι2 H2 ds ws → Vals ws us → StR X.K ι2 H2 st2 → ds.length = pt.npos → F pt.f (.ref i :: ds) st2 Q →
        wpAny (model X.prog X.w) X.A (call (.ref g) (.ref a :: us) []) (EP X pins σ R) X.xe s2 := fun s2 H2 us ws ι2 ds st2 I2 g2 kk2 d2 r2 s2' l2 hF => by
      refine wpAny_call (codeAny_mono (run_self (u0 := .ref a) (v0 := .ref a) G hbind hr hg I2.env0 I2.kIn (dref.mono g2 kk2.t) d2 rfl r2 l2 s2' hF (pp.shift (g1.trans g2) (kk1.trans kk2))) fun r s' hq => ?_)
      match r, hq with
      | .ok (.ret u), hq => exact I2.after hq
      | .ok .next, hq => exact hq.elim
      | .ok .brk, hq => exact hq.elim
      | .ok .cont, hq => exact hq.elim
      | .error _, hq => exact (show False from hq).elim
    cases es with
    | cons e0 es =>
      rw [List.all_cons, Bool.and_eq_true] at hst
      refine PySem.W.callWith_K (first := [.ref a]) (h₀ := X.base) I.ok.mod.kin hm.kp (thn (ha.run cpos pins s1 σ H1 (fun ws H2 => ∃ ι2 ds st2, ι1 <+: ι2 ∧ Keep ι1 ι2 H1 H2 ∧ DRs X.K ι2 H2 ds ws ∧ StR X.K ι2 H2 st2 ∧ ds.length = pt.npos ∧ F pt.f (.ref i :: ds) st2 Q) I1
        (.go e1 s1' q1 fun ws H2 ι2 ds st2 g2 kk2 e2 d2 s2 q2 => ?_)) fun us s2 ⟨ws, H2, I2, r2, ι2, ds, st2, g2, kk2, d2, s2', l2, hF⟩ => ⟨I2.kIn, fin s2 H2 us ws ι2 ds st2 I2 g2 kk2 d2 r2 s2' l2 hF⟩) (star_cons hst.1 _ _) ?_
      · obtain ⟨xs, ex, l2, hF⟩ := q2
        cases ex
        exact ⟨ι2, ds, st2, g2, kk2, d2, s2, l2, hF⟩
      · exact star_any cpos X.env es hst.2
    | nil =>
      cases hca rfl
      obtain ⟨xs, ex, l2, hF⟩ := q1
      cases ex
      exact PySem.W.callWith_K0 (first := [.ref a]) I1.kIn hm.kp (fin s1 H1 [] [] ι1 [] st1 I1 (List.prefix_refl _) (.refl _) .nil .nil s1' l2 hF)
/-- C(..) -/
theorem d_mk {pt : CPat} {x : Str} {p : Pos} (hp : CPatOk X.prog X.w X.K X.mg X.base F k pt) (hr : RoomB k X.A) (hg : X.A.guards = some []) (hx : pt.cls.name = x) (hgl : Gl X x) (ha : PA X es (TDA X.K F ca)) (hst : es.all notStar = true) (hca : es = [] → ca = .nil) :
    PE X (.Call (.Name x p) es [] pos) (TD X.K F (.mk pt.cls pt.f pt.npos ca)) := by
  subst hx
  obtain ⟨C, g, fd, ps, ok, hm, M, G, hbind, hdb⟩ := hp
  refine ⟨fun pins s σ H R I ⟨ι, ρ, st, Q, e, hs, q, pp⟩ => ?_⟩
  refine wpAny_Call_Name_kw (ld_glob I hgl hm ?_ hdb)
  have fin : ∀ (s1 : Shared) (H1 : Hp) (us : List Value) (ws : List V) (ι1 : List Addr) (ds : List D) (st1 : Store), Inv X pins σ H1 s1 → ι <+: ι1 → Keep ι ι1 H H1 → DRs X.K ι1 H1 ds ws → Vals ws us → StR X.K ι1 H1 st1 → ds.length = pt.npos → F pt.f (.ref st1.length :: ds) (st1 ++ [.ins pt.cls []]) (fun v st2 => v = .non ∧ Q (.ref st1.length) st2) →
      wpAny (model X.prog X.w) X.A (call (.ref C) us []) (EP X pins σ R) X.xe s1 := fun s1 H1 us ws ι1 ds st1 I1 g1 kk1 d1 r1 s1' l1 hF => by
    have I2 := Inv.made (C := C) I1
    have f1 : H1 s1.heap.objs.size = none := I1.hok.fresh (Nat.le_refl _)
    have f2 : H1 (s1.heap.objs.size + 1) = none := I1.hok.fresh (Nat.le_succ _)
    have ne : s1.heap.objs.size + 1 ≠ s1.heap.objs.size := by omega
    have f3 : upd H1 (s1.heap.objs.size) (.own (s1.heap.objs.size + 1)) (s1.heap.objs.size + 1) = none := by rw [upd_ne ne]; exact f2
    have kp : Keep ι1 (ι1 ++ [(s1.heap.objs.size + 1)]) H1 (upd (upd H1 (s1.heap.objs.size) (.own (s1.heap.objs.size + 1))) (s1.heap.objs.size + 1) (.ins C s1.heap.objs.size [])) := (Keep.new1 f1).trans (.newC f3)
    have s2' : StR X.K (ι1 ++ [(s1.heap.objs.size + 1)]) (upd (upd H1 (s1.heap.objs.size) (.own (s1.heap.objs.size + 1))) (s1.heap.objs.size + 1) (.ins C s1.heap.objs.size [])) (st1 ++ [.ins pt.cls []]) := (s1'.newTup f1).newCell f3 ⟨C, s1.heap.objs.size, [], ok, upd_same, .nil, by simp⟩
    have dl : DR X.K (ι1 ++ [(s1.heap.objs.size + 1)]) (upd (upd H1 (s1.heap.objs.size) (.own (s1.heap.objs.size + 1))) (s1.heap.objs.size + 1) (.ins C s1.heap.objs.size [])) (.ref st1.length) (.ref (s1.heap.objs.size + 1)) := DR.last s1'
    have d2 := d1.mono (List.prefix_append ι1 [(s1.heap.objs.size + 1)]) kp.t
    refine wpAny_call (make_map (f := g) I1.kIn M.makes M.init (beq_iff_eq.mp M.fn) (codeAny_mono (G.run _ X.stack _ _ ⟨.ref (s1.heap.objs.size + 1) :: us, []⟩ (.ref (s1.heap.objs.size + 1) :: us) (.ref (s1.heap.objs.size + 1) :: ws) (fun v H2 => v = .non ∧ R (.ref (s1.heap.objs.size + 1)) H2) (hr.make C us []) hg (I2.env0.make C us []) (hbind.2 _ _ us I2.kIn (by rw [← r1.length, ← d1.len]; exact l1)) (.cons (rfl) r1) (by rw [hbind.1, List.length_cons, ← d1.len, l1])
      ⟨ι1 ++ [(s1.heap.objs.size + 1)], .ref st1.length :: ds, _, _, .cons dl d2, s2', hF, fun v H' ι' d st' h k rd sd qd => ?_⟩) fun r s' hq' => ?_))
    · obtain ⟨ed, q2⟩ := qd
      subst ed
      cases rd
      exact ⟨rfl, pp _ H' ι' _ st' ((g1.trans (List.prefix_append _ _)).trans h) ((kk1.trans kp).trans k) (dl.mono h k.t) sd q2⟩
    · cases r with
      | error e => exact (show False from hq').elim
      | ok fl =>
        cases fl with
        | ret u =>
          obtain ⟨v, H', I3, rv, ev, q3⟩ := I2.after hq'
          subst ev
          exact ⟨rv, ⟨V.ref (s1.heap.objs.size + 1), H', I3, rfl, q3⟩⟩
        | next => exact False.elim hq'
        | brk => exact False.elim hq'
        | cont => exact False.elim hq'
  cases es with
  | cons e0 es =>
    rw [List.all_cons, Bool.and_eq_true] at hst
    refine PySem.W.callWith_K (h₀ := X.base) I.ok.mod.kin M.kp (thn (ha.run pos pins s σ H (fun ws H2 => ∃ ι2 ds st2, ι <+: ι2 ∧ Keep ι ι2 H H2 ∧ DRs X.K ι2 H2 ds ws ∧ StR X.K ι2 H2 st2 ∧ ds.length = pt.npos ∧ F pt.f (.ref st2.length :: ds) (st2 ++ [.ins pt.cls []]) (fun v st3 => v = .non ∧ Q (.ref st2.length) st3)) I
      (.go e hs q fun ws H2 ι2 ds st2 g2 kk2 e2 d2 s2 q2 => ?_)) fun us s2 ⟨ws, H2, I2, r2, ι2, ds, st2, g2, kk2, d2, s2', l2, hF⟩ => ⟨I2.kIn, fin s2 H2 us ws ι2 ds st2 I2 g2 kk2 d2 r2 s2' l2 hF⟩) (star_cons hst.1 _ _) (star_any pos X.env es hst.2)
    obtain ⟨xs, ex, l2, hF⟩ := q2
    cases ex
    exact ⟨ι2, ds, st2, g2, kk2, d2, s2, l2, hF⟩
  | nil =>
    cases hca rfl
    obtain ⟨xs, ex, l2, hF⟩ := q
    cases ex
    exact PySem.W.callWith_K0 I.kIn M.kp (fin s H [] [] ι [] st I (List.prefix_refl _) (.refl _) .nil .nil hs l2 hF)
end
end Cb

namespace Cb
open PySem PySem.Spec PyProof.Rows L2

/-! ## from the text to codes -/
structure Gam where
  N : List Str
  pats : List Pat
  bl : List Str
  consts : List (Str × D)
  mpats : List MPat := []
  cpats : List CPat := []
def slot (N : List Str) (x : Str) : Option Nat := N.findIdx? fun y => decide (y = x)
theorem slot_ok {N : List Str} {x : Str} {i : Nat} (h : slot N x = some i) : N[i]? = some x := by
  unfold slot at h
  obtain ⟨h1, h2, _⟩ := List.findIdx?_eq_some_iff_getElem.mp h
  rw [List.getElem?_eq_getElem h1, of_decide_eq_true h2]
def visB (sc : Scope) (x : Str) : Bool := match sc.names.lookup x with
  | some .local => true
  | some .cell => true
  | some .free => true
  | _ => false
theorem vis_ok {sc : Scope} {x : Str} (h : visB sc x = true) : Vis sc x := by
  unfold visB at h
  unfold Vis
  cases e : sc.names.lookup x with
  | none => rw [e] at h; cases h
  | some k => cases k <;> first | exact .inl rfl | exact .inr (.inl rfl) | exact .inr (.inr rfl) | (rw [e] at h; cases h)
def glB (sc : Scope) (x : Str) : Bool := decide (sc.names.lookup x = some .globalImplicit)
def plainN (x : Str) : Bool := !(x == ("__debug__" : Str)) && !(x == ("__classdict__" : Str))
theorem plainN_ok {x : Str} (h : plainN x = true) : (x == ("__debug__" : Str)) = false ∧ (x == ("__classdict__" : Str)) = false := by
  unfold plainN at h
  rw [Bool.and_eq_true] at h
  exact ⟨by simpa using h.1, by simpa using h.2⟩
def locB (sc : Scope) (fb : Str → Bool) (x : Str) : Bool := match sc.names.lookup x with
  | some .local => true
  | some .cell => fb x
  | _ => false
theorem loc_ok {sc : Scope} {fb : Str → Bool} {x : Str} (h : locB sc fb x = true) : L2.Loc sc x ∧ (fb x = true ∨ sc.names.lookup x = some .local) := by
  unfold locB at h
  unfold L2.Loc
  cases e : sc.names.lookup x with
  | none => rw [e] at h; cases h
  | some k =>
    rw [e] at h
    cases k with
    | «local» => exact ⟨.inl rfl, .inr rfl⟩
    | cell => exact ⟨.inr rfl, .inl h⟩
    | _ => cases h
structure CtxOk (Γ : Gam) (F : Fm) (k : Nat) (sc : Scope) (fb : Str → Bool) (X : Cx) : Prop where
  N : X.N = Γ.N
  nd : Γ.N.Nodup
  scp : X.env.scope = sc
  kind : sc.kind = ScopeKind.function
  cm : Calm X
  fn : ∀ x, X.fn x = fb x
  bl : ∀ x ∈ Γ.bl, X.mg x = none
  pats : ∀ p ∈ Γ.pats, PatOk X.prog X.w X.K X.mg X.base F k p
  room : RoomB k X.A
  consts : ∀ c ∈ Γ.consts, ∃ v u, X.mg c.1 = some u ∧ RelV v u ∧ (∀ H, DR X.K [] H c.2 v) ∧ (c.1 == ("__debug__" : Str)) = false
  mpats : ∀ p ∈ Γ.mpats, MPatOk X.prog X.w X.K X.mg X.base F k p
  cpats : ∀ p ∈ Γ.cpats, CPatOk X.prog X.w X.K X.mg X.base F k p
def copOf : CmpOp → Cop
  | .Eq => .eq | .NotEq => .ne | .Lt => .lt | .LtE => .le | .Gt => .gt | .GtE => .ge | .Is => .isn | .IsNot => .notn | .In => .ins | .NotIn => .nins
theorem cop_ok (o : CmpOp) : cmpOf (copOf o) = o := by cases o <;> rfl
theorem bop_ok {o : Operator} {b : Bop} (h : bopOf o = some b) : opOfB b = o := by cases o <;> cases h <;> rfl

/-! targets -/
def cTgs (rec : Expr → Option Tg) : List Expr → Option Tg
  | [] => some .nil
  | e :: es => match rec e, cTgs rec es with
    | some t, some ts => if plainTg e = true then some (.cons t ts) else none
    | _, _ => none
def cTg (Γ : Gam) (sc : Scope) (fb : Str → Bool) : Nat → Expr → Option Tg
  | 0, _ => none
  | n + 1, e => match e with
    | .Name x _ => match slot Γ.N x with
      | some i => if locB sc fb x = true then some (.name i) else none
      | none => none
    | .Tuple es _ _ => match cTgs (cTg Γ sc fb n) es with
      | some ts => if es.all plainTg = true then some (.tup ts) else none
      | none => none
    | _ => none
section
variable {Γ : Gam} {F : Fm} {k : Nat} {sc : Scope} {fb : Str → Bool} {X : Cx}
theorem cTgs_row {rec : Expr → Option Tg} : ∀ {es : List Expr} {t : Tg}, cTgs rec es = some t → Row t es
  | [], t, h => by cases h; exact .nil
  | e :: es, t, h => by
    unfold cTgs at h
    split at h
    · rename_i t1 ts e1 e2
      split at h
      · cases h
        exact .cons (cTgs_row e2)
      · cases h
    · cases h
theorem cTgs_ok {rec : Expr → Option Tg} (hr : ∀ e t, rec e = some t → PG X e (TG' X.K t)) : ∀ {es : List Expr} {t : Tg}, cTgs rec es = some t → PGs X es (TGs' X.K t)
  | [], t, h => by cases h; exact gs_nil
  | e :: es, t, h => by
    unfold cTgs at h
    split at h
    · rename_i t1 ts e1 e2
      split at h
      · rename_i hp
        cases h
        exact gs_cons (hr _ _ e1) (cTgs_ok hr e2) hp
      · cases h
    · cases h
theorem cTg_ok (c : CtxOk Γ F k sc fb X) : ∀ (n : Nat) (e : Expr) (t : Tg), cTg Γ sc fb n e = some t → PG X e (TG' X.K t)
  | 0, e, t, h => by cases h
  | n + 1, e, t, h => by
    cases e with
    | Name x p =>
      simp only [cTg] at h
      split at h
      · rename_i i e1
        split at h
        · rename_i hl
          cases h
          obtain ⟨h1, h2⟩ := loc_ok hl
          exact g_name (by rw [c.N]; exact c.nd) (by rw [c.N]; exact slot_ok e1) (by rw [c.scp]; exact h1) (by rw [c.fn, c.scp]; exact h2)
        · cases h
      · cases h
    | Tuple es j p =>
      simp only [cTg] at h
      split at h
      · rename_i ts e1
        split at h
        · rename_i hp
          cases h
          exact g_tup c.cm.calm (cTgs_ok (cTg_ok c n) e1) hp (cTgs_row e1)
        · cases h
      · cases h
    | _ => cases h
theorem cTg_plain {n : Nat} {e : Expr} {t : Tg} (h : cTg Γ sc fb n e = some t) : plainTg e = true := by
  cases n with
  | zero => cases h
  | succ n => cases e <;> first | rfl | cases h
end

/-! expressions -/
def cArgs (rec : Expr → Option C) : List Expr → Option C
  | [] => some .nil
  | e :: es => match rec e, cArgs rec es with
    | some c, some cs => if notStar e = true then some (.cons c cs) else none
    | _, _ => none
def cKws (rec : Expr → Option C) : List Keyword → Option C
  | [] => some .nil
  | ⟨_, e, _⟩ :: r => match rec e, cKws rec r with
    | some c, some cs => some (.cons c cs)
    | _, _ => none
def cBool (f : C → C → C) (rec : Expr → Option C) : List Expr → Option C
  | [] => none
  | [e] => rec e
  | e :: es => match rec e, cBool f rec es with
    | some c, some cs => some (f c cs)
    | _, _ => none
def findPat (ps : List Pat) (x : Str) (n : Nat) (ks : List Str) : Option Pat := ps.find? fun p => decide (p.name = x) && decide (p.npos = n) && decide (p.ks = ks)
def cTys (sc : Scope) (bl : List Str) : List Expr → Option (List Ty)
  | [] => some []
  | .Name x _ :: es => match tyN x, cTys sc bl es with
    | some t, some ts => if (glB sc x && bl.contains x) = true then some (t :: ts) else none
    | _, _ => none
  | _ => none
def cDsp (rec : Expr → Option C) : List (Option Expr) → List Expr → Option (List Key × C)
  | [], [] => some ([], .nil)
  | some k :: ks, v :: vs => match keyC k, rec v, cDsp rec ks vs with
    | some kk, some c, some (kks, cs) => some (kk :: kks, .cons c cs)
    | _, _, _ => none
  | _, _ => none
def ownOf (N : List Str) (scope : Scope) : List (Str × Nat) := scope.names.filterMap fun (n, k) => if (k == .local || k == .cell) = true then (slot N n).map fun i => (n, i) else none
/-- what is walked -/
def noSetD : Expr → Bool
  | .Set .. => false
  | _ => true
def isTupT : Expr → Bool
  | .Tuple .. => true
  | _ => false
def cIt (Γ : Gam) (sc : Scope) (rec : Expr → Option C) (tg e : Expr) : Option (Ik × C) :=
  match e with
  | .Call (.Name x _) [a] [] _ => if x = "range" ∧ (glB sc "range" && Γ.bl.contains "range" && notStar a) = true then (match cArgs rec [a] with
      | some c => some (.range1, c)
      | none => none) else if x = "enumerate" ∧ (isTupT tg && glB sc "enumerate" && Γ.bl.contains "enumerate" && notStar a) = true then (match cArgs rec [a] with
      | some c => some (.enum, c)
      | none => none) else (match rec e with
      | some c => some (.plain, .cons c .nil)
      | none => none)
  | .Call (.Name x _) [a, b] [] _ => if x = "range" ∧ (glB sc "range" && Γ.bl.contains "range" && notStar a && notStar b) = true then (match cArgs rec [a, b] with
      | some c => some (.range2, c)
      | none => none) else if x = "zip" ∧ (isTupT tg && glB sc "zip" && Γ.bl.contains "zip" && notStar a && notStar b) = true then (match cArgs rec [a, b] with
      | some c => some (.zip, c)
      | none => none) else (match rec e with
      | some c => some (.plain, .cons c .nil)
      | none => none)
  | e => if noSetD e = true then (match rec e with
      | some c => some (.plain, .cons c .nil)
      | none => none) else none
def foldOk (e : Expr) : Bool := noSetD e
def cCall (Γ : Gam) (sc : Scope) (rec : Expr → Option C) (x : Str) (es : List Expr) (kws : List Keyword) : Option C :=
  if glB sc x = false then none else
  match kwNames kws with
  | none => none
  | some ks => match findPat Γ.pats x es.length ks with
    | some p => match cArgs rec es, cKws rec kws with
      | some a, some b => some (.call p.f p.npos p.ks.length p.perm a b)
      | _, _ => none
    | none =>
      if Γ.bl.contains x = false then none else
      match kws with
      | _ :: _ => none
      | [] =>
        match es with
        | [e, t] =>
          if x = "isinstance" then
            (if notStar e = false then none else
            match rec e with
            | none => none
            | some c => match t with
              | .Name y _ => match tyN y with
                | some ty => if (glB sc y && Γ.bl.contains y) = true then some (.isi c [ty]) else none
                | none => none
              | .Tuple ts _ _ => match cTys sc Γ.bl ts with
                | some tys => if tys.length ≤ 100 then some (.isi c tys) else none
                | none => none
              | _ => none)
          else (match bltN x 2, cArgs rec [e, t] with
            | some b, some c => some (.blt b c)
            | _, _ => none)
        | e :: es' => match bltN x (es'.length + 1), cArgs rec (e :: es') with
            | some b, some c => some (.blt b c)
            | _, _ => none
        | [] => none
def cMeth (rec : Expr → Option C) (o : Expr) (m : Str) (apos : Pos) (es : List Expr) (cpos : Pos) : Option C :=
  if (plainBase o && (apos.endLine == cpos.line)) = false then none else
  match rec o with
  | none => none
  | some co => match es with
    | [] => if m = "pop" then some (.mth .pop co .nil) else none
    | [e] => match rec e with
      | none => none
      | some c => if notStar e = false then none else if m = "append" then some (.mth .append co (.cons c .nil)) else if m = "pop" then some (.mth .popAt co (.cons c .nil)) else if m = "extend" then some (.mth .extend co (.cons c .nil)) else none
    | _ => none
def cName (Γ : Gam) (sc : Scope) (x : Str) : Option C := if plainN x = false then none else if visB sc x = true then (slot Γ.N x).map .var else if glB sc x = true then (match Γ.consts.find? fun c => decide (c.1 = x) with
      | some c => some (.cst c.2)
      | none => none) else none
def cConst : Const → Option C
  | .int i => some (.cst (.int i))
  | .bool b => some (.cst (.bl b))
  | .none => some (.cst .non)
  | .str s => some (.cst (.str s))
  | _ => none
def cBin (rec : Expr → Option C) (a : Expr) (o : Operator) (b : Expr) : Option C := match bopOf o, rec a, rec b with
  | some o, some ca, some cb => some (.bin o ca cb)
  | _, _, _ => none
def cUn (rec : Expr → Option C) (o : UnaryOp) (a : Expr) : Option C := match o, rec a with
  | .USub, some c => some (.neg c)
  | .Not, some c => some (.tnot (.tval c))
  | _, _ => none
def cBoolE (rec : Expr → Option C) (o : PySem.BoolOp) (es : List Expr) : Option C := match o with
  | .And => cBool .and rec es
  | .Or => cBool .or rec es
def tBoolE (rec : Expr → Option C) (o : PySem.BoolOp) (es : List Expr) : Option C := match o with
  | .And => cBool .tand rec es
  | .Or => cBool .tor rec es
def cCmp (rec : Expr → Option C) (a : Expr) (os : List CmpOp) (bs : List Expr) : Option C := match os, bs with
  | [o], [b] => (match rec a, rec b with
    | some ca, some cb => if behindInMarks o b = false then some (.cmp (copOf o) ca cb) else none
    | _, _ => none)
  | [o, o2], [b, c] => (match rec a, rec b, rec c with
    | some ca, some cb, some cc => if lastMarks [o, o2] [b, c] = false then some (.chain (copOf o) (copOf o2) ca cb cc) else none
    | _, _, _ => none)
  | [o, o2, o3], [b, c, d] => (match rec a, rec b, rec c, rec d with
    | some ca, some cb, some cc, some cd => if lastMarks [o, o2, o3] [b, c, d] = false then some (.chain3 (copOf o) (copOf o2) (copOf o3) ca cb cc cd) else none
    | _, _, _, _ => none)
  | _, _ => none
def cIf (rec recT : Expr → Option C) (c a b : Expr) : Option C := match recT c, rec a, rec b with
  | some cc, some ca, some cb => some (.ite cc ca cb)
  | _, _, _ => none
def cPart (rec : Expr → Option C) : Option Expr → Option (Bool × C)
  | none => some (false, .cst .non)
  | some e => match rec e with
    | some c => some (true, c)
    | none => none
def cSub (rec : Expr → Option C) (a b : Expr) : Option C := match rec a with
  | none => none
  | some ca => match b with
    | .Slice lo hi none _ => (match cPart rec lo, cPart rec hi with
      | some (fl, cl), some (fh, ch) => some (.slc fl fh ca cl ch)
      | _, _ => none)
    | .Slice none none (some (.UnaryOp .USub (.Constant (.int i) _ _) _)) _ => if i = 1 then some (.revL ca) else none
    | b => (match rec b with
      | some cb => if noSlice b = true then some (.idx ca cb) else none
      | none => none)
def findM (ps : List MPat) (x : Str) (n : Nat) : Option MPat := ps.find? fun p => decide (p.name = x) && decide (p.npos = n)
def findC (ps : List CPat) (x : Str) (n : Nat) : Option CPat := ps.find? fun p => decide (p.cls.name = x) && decide (p.npos = n)
def cOwnM (rec : Expr → Option C) (pt : MPat) (o : Expr) (m : Str) (apos : Pos) (es : List Expr) (cpos : Pos) : Option C :=
  if (plainBase o && (apos.endLine == cpos.line)) = true ∧ es.length < 30 then (match rec o, cArgs rec es with
    | some co, some ca => some (.mcl pt.cls m pt.f pt.npos co ca)
    | _, _ => none) else none
def cOwnC (sc : Scope) (rec : Expr → Option C) (pt : CPat) (x : Str) (es : List Expr) : Option C :=
  if glB sc x = true then (match cArgs rec es with
    | some ca => some (.mk pt.cls pt.f pt.npos ca)
    | none => none) else none
def cCallE (Γ : Gam) (sc : Scope) (rec : Expr → Option C) (f : Expr) (es : List Expr) (kws : List Keyword) (cp : Pos) : Option C := match f with
  | .Name x _ => (match kws with
    | [] => (match findC Γ.cpats x es.length with
      | some pt => cOwnC sc rec pt x es
      | none => cCall Γ sc rec x es [])
    | kw :: kws => cCall Γ sc rec x es (kw :: kws))
  | .Attribute o m ap => (match kws with
    | [] => (match findM Γ.mpats m es.length with
      | some pt => cOwnM rec pt o m ap es cp
      | none => cMeth rec o m ap es cp)
    | _ :: _ => none)
  | _ => none
def cLc (Γ : Gam) (sc : Scope) (n : Nat) (rec rec' recT' : Expr → Option C) (elt : Expr) (gs : List Comprehension) (scope : Scope) : Option C := match gs with
  | [⟨tg, it, ifs, 0⟩] =>
    if blkC Γ.N sc scope (ownOf Γ.N scope) = false then none else
    match cIt Γ sc rec tg it, cTg Γ (relS scope sc) (fun x => scope.names.lookup x == some .cell) n tg, rec' elt with
    | some (k, as), some t, some e => if (t.vars.all fun i => ((ownOf Γ.N scope).map (·.2)).contains i) = false then none else (match ifs with
      | [] => some (.lc ((ownOf Γ.N scope).map (·.2)) t k as (.cst (.bl true)) e)
      | [c] => (match recT' c with
        | some cc => some (.lc ((ownOf Γ.N scope).map (·.2)) t k as cc e)
        | none => none)
      | _ => none)
    | _, _, _ => none
  | _ => none
/-- the tests of a clause: none, one -/
def cTest (recT : Expr → Option C) : List Expr → Option C
  | [] => some (.cst (.bl true))
  | [c] => recT c
  | _ => none
def setFree : Expr → Bool := noSetD
def cLc2 (Γ : Gam) (sc : Scope) (n : Nat) (rec rec' recT' : Expr → Option C) (elt : Expr) (gs : List Comprehension) (scope : Scope) : Option C := match gs with
  | [⟨tg, it, ifs, 0⟩, ⟨tg1, it1, ifs1, 0⟩] =>
    if blkC Γ.N sc scope (ownOf Γ.N scope) = false ∨ noSetD it1 = false then none else
    match cIt Γ sc rec tg it, cTg Γ (relS scope sc) (fun x => scope.names.lookup x == some .cell) n tg, cTest recT' ifs, cIt Γ (relS scope sc) rec' tg1 it1, cTg Γ (relS scope sc) (fun x => scope.names.lookup x == some .cell) n tg1, cTest recT' ifs1, rec' elt with
    | some (k, as), some t, some c, some (k1, as1), some t1, some c1, some e =>
      if ((t.vars.all fun i => ((ownOf Γ.N scope).map (·.2)).contains i) && t1.vars.all fun i => ((ownOf Γ.N scope).map (·.2)).contains i) = false then none else some (.lc2 ((ownOf Γ.N scope).map (·.2)) t1.vars t k as c t1 k1 as1 c1 e)
    | _, _, _, _, _, _, _ => none
  | _ => none
def cLcA (Γ : Gam) (sc : Scope) (n : Nat) (rec rec' recT' : Expr → Option C) (elt : Expr) (gs : List Comprehension) (scope : Scope) : Option C := match gs with
  | [g] => cLc Γ sc n rec rec' recT' elt [g] scope
  | gs => cLc2 Γ sc n rec rec' recT' elt gs scope
def cDict (rec : Expr → Option C) (ks : List (Option Expr)) (vs : List Expr) : Option C := match cDsp rec ks vs with
  | some (kks, cs) => if (!ks.isEmpty && decide (ks.length ≤ 15) && distinct kks) = true then some (.dsp kks cs) else none
  | none => none
/-- tst: as a test -/
def cE (Γ : Gam) : Nat → Scope → (Str → Bool) → Bool → Expr → Option C
  | 0, _, _, _, _ => none
  | n + 1, sc, fb, true, e => match e with
    | .UnaryOp .Not a _ => (cE Γ n sc fb true a).map .tnot
    | .UnaryOp _ _ _ => none
    | .BoolOp o es _ => tBoolE (cE Γ n sc fb true) o es
    | .Compare a os bs _ => cCmp (cE Γ n sc fb false) a os bs
    | .IfExp .. => none
    | e => (cE Γ n sc fb false e).map .tval
  | n + 1, sc, fb, false, e => match e with
    | .Name x _ => cName Γ sc x
    | .Constant c _ _ => cConst c
    | .Tuple es _ _ => (cArgs (cE Γ n sc fb false) es).map .tup
    | .List es _ => (cArgs (cE Γ n sc fb false) es).map .lst
    | .BinOp a o b _ => cBin (cE Γ n sc fb false) a o b
    | .UnaryOp o a _ => cUn (cE Γ n sc fb false) o a
    | .BoolOp o es _ => cBoolE (cE Γ n sc fb false) o es
    | .Compare a os bs _ => cCmp (cE Γ n sc fb false) a os bs
    | .IfExp c a b _ => cIf (cE Γ n sc fb false) (cE Γ n sc fb true) c a b
    | .Subscript a b _ => cSub (cE Γ n sc fb false) a b
    | .Call f es kws cp => cCallE Γ sc (cE Γ n sc fb false) f es kws cp
    | .ListComp elt gs scope _ => cLcA Γ sc n (cE Γ n sc fb false) (cE Γ n (relS scope sc) (fun x => scope.names.lookup x == some .cell) false) (cE Γ n (relS scope sc) (fun x => scope.names.lookup x == some .cell) true) elt gs scope
    | .Dict ks vs _ => cDict (cE Γ n sc fb false) ks vs
    | .Attribute e f _ => if plainBase e = true then (cE Γ n sc fb false e).map fun c => .fld c f else none
    | _ => none
end Cb

namespace Cb
open PySem PySem.Spec PyProof.Rows L2
section
variable {Γ : Gam} {F : Fm} {k : Nat} {sc : Scope} {fb : Str → Bool} {X : Cx} {rec recT : Expr → Option C} {pos : Pos}
theorem CtxOk.gl (c : CtxOk Γ F k sc fb X) {x : Str} (h : glB sc x = true) : Gl X x := by
  show X.env.scope.names.lookup x = _
  rw [c.scp]
  exact of_decide_eq_true h
theorem CtxOk.no (c : CtxOk Γ F k sc fb X) {x : Str} (h : Γ.bl.contains x = true) : X.mg x = none := c.bl x (by simpa using h)
theorem CtxOk.u64 (c : CtxOk Γ F k sc fb X) : X.A.units + 64 < cLine := by have := c.cm.units; omega
theorem CtxOk.u1 (c : CtxOk Γ F k sc fb X) : X.A.units + 1 < cLine := by have := c.cm.units; omega
theorem args_ok (ih : ∀ e c, rec e = some c → PE X e (TD X.K F c)) : ∀ {es : List Expr} {c : C}, cArgs rec es = some c → PA X es (TDA X.K F c) ∧ es.all notStar = true
  | [], c, h => by cases h; exact ⟨a_nil, rfl⟩
  | e :: es, c, h => by
    unfold cArgs at h
    split at h
    · rename_i c1 cs e1 e2
      split at h
      · rename_i hn
        cases h
        obtain ⟨h1, h2⟩ := args_ok ih e2
        exact ⟨a_cons (ih _ _ e1) h1 (star_cons hn _ _), by rw [List.all_cons, hn, h2]; rfl⟩
      · cases h
    · cases h
theorem kws_ok (ih : ∀ e c, rec e = some c → PE X e (TD X.K F c)) : ∀ {es : List Keyword} {c : C}, cKws rec es = some c → PK X es (TDA X.K F c)
  | [], c, h => by cases h; exact k_nil
  | ⟨nm, e, p⟩ :: es, c, h => by
    unfold cKws at h
    split at h
    · rename_i c1 cs e1 e2
      cases h
      exact k_cons (ih _ _ e1) (kws_ok ih e2)
    · cases h
theorem name_ok (c : CtxOk Γ F k sc fb X) {x : Str} {co : C} (h : cName Γ sc x = some co) : PE X (.Name x pos) (TD X.K F co) := by
  unfold cName at h
  split at h
  · cases h
  · rename_i hp
    obtain ⟨p1, p2⟩ := plainN_ok (by simpa using hp)
    split at h
    · rename_i hv
      cases e : slot Γ.N x with
      | none => rw [e] at h; cases h
      | some i =>
        rw [e] at h
        cases h
        exact d_var (by rw [c.N]; exact slot_ok e) (by rw [c.scp]; exact vis_ok hv) p1 p2
    · split at h
      · rename_i hg
        split at h
        · rename_i cc e
          cases h
          have h1 := List.find?_some e
          have h2 : cc.1 = x := of_decide_eq_true h1
          obtain ⟨v, u, a1, a2, a3, a4⟩ := c.consts cc (List.mem_of_find?_eq_some e)
          subst h2
          exact d_glob (c.gl hg) a1 a2 a3 a4
        · cases h
      · cases h
theorem const_ok {cc : Const} {j : Nat} {co : C} (h : cConst cc = some co) : PE X (.Constant cc j pos) (TD X.K F co) := by
  cases cc <;> cases h
  · exact d_non
  · exact d_bl
  · exact d_int
  · exact d_str
theorem bin_ok (ih : ∀ e c, rec e = some c → PE X e (TD X.K F c)) {a b : Expr} {o : Operator} {co : C} (h : cBin rec a o b = some co) : PE X (.BinOp a o b pos) (TD X.K F co) := by
  unfold cBin at h
  split at h
  · rename_i o' ca cb e1 e2 e3
    cases h
    rw [← bop_ok e1]
    exact d_bin o' (ih _ _ e2) (ih _ _ e3)
  · cases h
theorem un_ok (ih : ∀ e c, rec e = some c → PE X e (TD X.K F c)) {a : Expr} {o : UnaryOp} {co : C} (h : cUn rec o a = some co) : PE X (.UnaryOp o a pos) (TD X.K F co) := by
  unfold cUn at h
  split at h
  · rename_i c e1
    cases h
    exact d_neg (ih _ _ e1)
  · rename_i c e1
    cases h
    exact d_not (ih _ _ e1)
  · cases h
theorem boolA_ok (ih : ∀ e c, rec e = some c → PE X e (TD X.K F c)) : ∀ {es : List Expr} {co : C}, cBool .and rec es = some co → PE X (.BoolOp .And es pos) (TD X.K F co)
  | [], _, h => by cases h
  | [e], co, h => d_one (ih _ _ h)
  | e :: e2 :: es, co, h => by
    unfold cBool at h
    split at h
    · rename_i c cs h1 h2
      cases h
      exact d_and (ih _ _ h1) (boolA_ok ih h2)
    · cases h
theorem boolO_ok (ih : ∀ e c, rec e = some c → PE X e (TD X.K F c)) : ∀ {es : List Expr} {co : C}, cBool .or rec es = some co → PE X (.BoolOp .Or es pos) (TD X.K F co)
  | [], _, h => by cases h
  | [e], co, h => d_one (ih _ _ h)
  | e :: e2 :: es, co, h => by
    unfold cBool at h
    split at h
    · rename_i c cs h1 h2
      cases h
      exact d_or (ih _ _ h1) (boolO_ok ih h2)
    · cases h
theorem tboolA_ok (ih : ∀ e c, recT e = some c → PT X e (TT' X.K F c)) : ∀ {es : List Expr} {co : C}, cBool .tand recT es = some co → PW X (.BoolOp .And es pos) (TT' X.K F co)
  | [], _, h => by cases h
  | [e], co, h => w_and1 (ih _ _ h)
  | e :: e2 :: es, co, h => by
    unfold cBool at h
    split at h
    · rename_i c cs h1 h2
      cases h
      exact w_and (ih _ _ h1) (tboolA_ok ih h2)
    · cases h
theorem tboolO_ok (ih : ∀ e c, recT e = some c → PT X e (TT' X.K F c)) : ∀ {es : List Expr} {co : C}, cBool .tor recT es = some co → PW X (.BoolOp .Or es pos) (TT' X.K F co)
  | [], _, h => by cases h
  | [e], co, h => w_or1 (ih _ _ h)
  | e :: e2 :: es, co, h => by
    unfold cBool at h
    split at h
    · rename_i c cs h1 h2
      cases h
      exact w_or (ih _ _ h1) (tboolO_ok ih h2)
    · cases h
theorem cmp_ok (c : CtxOk Γ F k sc fb X) (ih : ∀ e c, rec e = some c → PE X e (TD X.K F c)) {a : Expr} {os : List CmpOp} {bs : List Expr} {co : C} (h : cCmp rec a os bs = some co) : PE X (.Compare a os bs pos) (TD X.K F co) ∧ PT X (.Compare a os bs pos) (TT' X.K F co) := by
  unfold cCmp at h
  split at h
  · rename_i o b
    split at h
    · rename_i ca cb e1 e2
      split at h
      · rename_i hm
        cases h
        have e := cop_ok o
        constructor
        · have := d_cmp (pos := pos) c.u64 (copOf o) (ih _ _ e1) (ih _ _ e2) (by rw [e]; exact hm)
          rw [e] at this
          exact this
        · have := t_cmp (pos := pos) c.u64 (copOf o) (ih _ _ e1) (ih _ _ e2) (by rw [e]; exact hm)
          rw [e] at this
          exact this
      · cases h
    · cases h
  · rename_i o o2 b d
    split at h
    · rename_i ca cb cc e1 e2 e3
      split at h
      · rename_i hm
        cases h
        have e := cop_ok o
        have e' := cop_ok o2
        constructor
        · have := d_chain (pos := pos) c.u64 (copOf o) (copOf o2) (ih _ _ e1) (ih _ _ e2) (ih _ _ e3) (by rw [e, e']; exact hm)
          rw [e, e'] at this
          exact this
        · have := t_chain (pos := pos) c.u64 (copOf o) (copOf o2) (ih _ _ e1) (ih _ _ e2) (ih _ _ e3) (by rw [e, e']; exact hm)
          rw [e, e'] at this
          exact this
      · cases h
    · cases h
  · rename_i o o2 o3 b d d2
    split at h
    · rename_i ca cb cc cd e1 e2 e3 e4
      split at h
      · rename_i hm
        cases h
        have e := cop_ok o
        have e' := cop_ok o2
        have e'' := cop_ok o3
        constructor
        · have := d_chain3 (pos := pos) c.u64 (copOf o) (copOf o2) (copOf o3) (ih _ _ e1) (ih _ _ e2) (ih _ _ e3) (ih _ _ e4) (by rw [e, e', e'']; exact hm)
          rw [e, e', e''] at this
          exact this
        · have := t_chain3 (pos := pos) c.u64 (copOf o) (copOf o2) (copOf o3) (ih _ _ e1) (ih _ _ e2) (ih _ _ e3) (ih _ _ e4) (by rw [e, e', e'']; exact hm)
          rw [e, e', e''] at this
          exact this
      · cases h
    · cases h
  · cases h
theorem if_ok (ih : ∀ e c, rec e = some c → PE X e (TD X.K F c)) (ihT : ∀ e c, recT e = some c → PT X e (TT' X.K F c)) {a b d : Expr} {co : C} (h : cIf rec recT d a b = some co) : PE X (.IfExp d a b pos) (TD X.K F co) := by
  unfold cIf at h
  split at h
  · rename_i cc ca cb e1 e2 e3
    cases h
    exact d_ite (ihT _ _ e1) (ih _ _ e2) (ih _ _ e3)
  · cases h
theorem part_ok (ih : ∀ e c, rec e = some c → PE X e (TD X.K F c)) {o : Option Expr} {f : Bool} {co : C} (h : cPart rec o = some (f, co)) : PO X o (TO' X.K F f co) := by
  cases o with
  | none => cases h; exact o_none
  | some e =>
    unfold cPart at h
    simp only at h
    split at h
    · rename_i c e1
      cases h
      exact o_some (ih _ _ e1)
    · cases h
theorem sub_ok (c : CtxOk Γ F k sc fb X) (ih : ∀ e c, rec e = some c → PE X e (TD X.K F c)) {a b : Expr} {co : C} (h : cSub rec a b = some co) : PE X (.Subscript a b pos) (TD X.K F co) := by
  unfold cSub at h
  split at h
  · cases h
  · rename_i ca ea
    split at h
    · split at h
      · rename_i e1 e2
        cases h
        exact d_slc (ih _ _ ea) (part_ok ih e1) (part_ok ih e2)
      · cases h
    · split at h
      · rename_i hi
        cases h
        subst hi
        exact d_revL (ih _ _ ea)
      · cases h
    · split at h
      · rename_i cb eb
        split at h
        · rename_i hn
          cases h
          exact d_idx c.u1 (ih _ _ ea) (ih _ _ eb) (fun o i => by cases b <;> first | rfl | cases hn)
        · cases h
      · cases h
theorem tys_ok (c : CtxOk Γ F k sc fb X) : ∀ {es : List Expr} {ts : List Ty}, cTys sc Γ.bl es = some ts → TyNs X es ts
  | [], ts, h => by cases h; exact .nil
  | e :: es, ts, h => by
    cases e with
    | Name x p =>
      simp only [cTys] at h
      split at h
      · rename_i t ts' e1 e2
        split at h
        · rename_i hb
          cases h
          rw [Bool.and_eq_true] at hb
          exact .cons e1 (c.gl hb.1) (c.no hb.2) (tys_ok c e2)
        · cases h
      · cases h
    | _ => cases h
theorem findPat_ok {ps : List Pat} {x : Str} {n : Nat} {ks : List Str} {p : Pat} (h : findPat ps x n ks = some p) : p ∈ ps ∧ p.name = x ∧ p.npos = n ∧ p.ks = ks := by
  have h1 := List.find?_some h
  rw [Bool.and_eq_true, Bool.and_eq_true] at h1
  exact ⟨List.mem_of_find?_eq_some h, of_decide_eq_true h1.1.1, of_decide_eq_true h1.1.2, of_decide_eq_true h1.2⟩
theorem call_ok (c : CtxOk Γ F k sc fb X) (ih : ∀ e c, rec e = some c → PE X e (TD X.K F c)) {x : Str} {es : List Expr} {kws : List Keyword} {co : C} {p : Pos} (h : cCall Γ sc rec x es kws = some co) : PE X (.Call (.Name x p) es kws pos) (TD X.K F co) := by
  unfold cCall at h
  split at h
  · cases h
  · rename_i hg
    have hgl := c.gl (x := x) (by simpa using hg)
    split at h
    · cases h
    · rename_i ks hks
      split at h
      · rename_i pt hpt
        split at h
        · rename_i ca cb e1 e2
          cases h
          obtain ⟨m1, m2, m3, m4⟩ := findPat_ok hpt
          obtain ⟨a1, a2⟩ := args_ok ih e1
          exact d_call (c.pats pt m1) c.room.m c.cm.guards m2 hgl a1 (kws_ok ih e2) a2 (by rw [m4]; exact hks) (fun e => by subst e; cases e1; rfl)
        · cases h
      · split at h
        · cases h
        · rename_i hb
          have hno := c.no (x := x) (by simpa using hb)
          split at h
          · cases h
          · split at h
            · rename_i e1' t1'
              split at h
              · rename_i hx
                subst hx
                split at h
                · cases h
                · rename_i hs
                  have hs' := (Bool.not_eq_false _).mp hs
                  split at h
                  · cases h
                  · rename_i ce e1
                    split at h
                    · split at h
                      · rename_i ty hty
                        split at h
                        · rename_i hb2
                          cases h
                          rw [Bool.and_eq_true] at hb2
                          exact d_isi1 hgl hno (ih _ _ e1) hty (c.gl hb2.1) (c.no hb2.2) hs'
                        · cases h
                      · cases h
                    · split at h
                      · rename_i tys htys
                        split at h
                        · rename_i hl
                          cases h
                          exact d_isiT hgl hno (ih _ _ e1) (tys_ok c htys) hl hs'
                        · cases h
                      · cases h
                    · cases h
              · split at h
                · rename_i b ca e1 e2
                  cases h
                  obtain ⟨a1, a2⟩ := args_ok ih e2
                  exact d_blt c.cm e1 hgl hno a2 a1
                · cases h
            · rename_i e es' _
              split at h
              · rename_i b ca e1 e2
                cases h
                obtain ⟨a1, a2⟩ := args_ok ih e2
                exact d_blt c.cm e1 hgl hno a2 a1
              · cases h
            · cases h
theorem findM_ok {ps : List MPat} {x : Str} {n : Nat} {p : MPat} (h : findM ps x n = some p) : p ∈ ps ∧ p.name = x := by
  have h1 := List.find?_some h
  rw [Bool.and_eq_true] at h1
  exact ⟨List.mem_of_find?_eq_some h, of_decide_eq_true h1.1⟩
theorem findC_ok {ps : List CPat} {x : Str} {n : Nat} {p : CPat} (h : findC ps x n = some p) : p ∈ ps ∧ p.cls.name = x := by
  have h1 := List.find?_some h
  rw [Bool.and_eq_true] at h1
  exact ⟨List.mem_of_find?_eq_some h, of_decide_eq_true h1.1⟩
theorem ownM_ok (c : CtxOk Γ F k sc fb X) (ih : ∀ e c, rec e = some c → PE X e (TD X.K F c)) {pt : MPat} {o : Expr} {m : Str} {apos cpos : Pos} {es : List Expr} {n : Nat} {co : C} (hf : findM Γ.mpats m n = some pt) (h : cOwnM rec pt o m apos es cpos = some co) : PE X (.Call (.Attribute o m apos) es [] cpos) (TD X.K F co) := by
  obtain ⟨m1, m2⟩ := findM_ok hf
  unfold cOwnM at h
  split at h
  · rename_i hb
    split at h
    · rename_i c1 c2 e1 e2
      cases h
      rw [Bool.and_eq_true] at hb
      obtain ⟨a1, a2⟩ := args_ok ih e2
      exact d_mcl (c.mpats pt m1) c.room.m c.cm.guards m2 (ih _ _ e1) a1 a2 hb.1.1 hb.1.2 hb.2 (fun e => by subst e; cases e2; rfl)
    · cases h
  · cases h
theorem ownC_ok (c : CtxOk Γ F k sc fb X) (ih : ∀ e c, rec e = some c → PE X e (TD X.K F c)) {pt : CPat} {x : Str} {es : List Expr} {n : Nat} {co : C} {p : Pos} (hf : findC Γ.cpats x n = some pt) (h : cOwnC sc rec pt x es = some co) : PE X (.Call (.Name x p) es [] pos) (TD X.K F co) := by
  obtain ⟨m1, m2⟩ := findC_ok hf
  unfold cOwnC at h
  split at h
  · rename_i hb
    split at h
    · rename_i c2 e2
      cases h
      obtain ⟨a1, a2⟩ := args_ok ih e2
      exact d_mk (c.cpats pt m1) c.room c.cm.guards m2 (c.gl hb) a1 a2 (fun e => by subst e; cases e2; rfl)
    · cases h
  · cases h
theorem meth_ok (ih : ∀ e c, rec e = some c → PE X e (TD X.K F c)) {o : Expr} {m : Str} {apos cpos : Pos} {es : List Expr} {co : C} (h : cMeth rec o m apos es cpos = some co) : PE X (.Call (.Attribute o m apos) es [] cpos) (TD X.K F co) := by
  unfold cMeth at h
  split at h
  · cases h
  · rename_i hb
    have hb' : plainBase o = true ∧ (apos.endLine == cpos.line) = true := by
      rw [← Bool.and_eq_true]
      simpa using hb
    split at h
    · cases h
    · rename_i c1 e1
      split at h
      · split at h
        · rename_i hm
          cases h
          subst hm
          exact d_mth0 (ih _ _ e1) hb'.1 hb'.2
        · cases h
      · rename_i e
        split at h
        · cases h
        · rename_i c2 e2
          split at h
          · cases h
          · rename_i hs
            have hs' : notStar e = true := by simpa using hs
            have ha := a_cons (ih _ _ e2) (a_nil (X := X) (F := F)) (star_cons hs' [] X.env)
            split at h
            · rename_i hm
              cases h
              exact d_mth1 (.inl ⟨rfl, hm⟩) (ih _ _ e1) ha hb'.1 hb'.2 hs'
            · split at h
              · rename_i hm
                cases h
                exact d_mth1 (.inr (.inl ⟨rfl, hm⟩)) (ih _ _ e1) ha hb'.1 hb'.2 hs'
              · split at h
                · rename_i hm
                  cases h
                  exact d_mth1 (.inr (.inr ⟨rfl, hm⟩)) (ih _ _ e1) ha hb'.1 hb'.2 hs'
                · cases h
      · cases h
theorem dsp_ok (ih : ∀ e c, rec e = some c → PE X e (TD X.K F c)) : ∀ {ks : List (Option Expr)} {vs : List Expr} {kks : List Key} {cs : C}, cDsp rec ks vs = some (kks, cs) → Dsp X F ks vs kks cs
  | [], [], _, _, h => by cases h; exact .nil
  | [], _ :: _, _, _, h => by cases h
  | none :: _, [], _, _, h => by cases h
  | some _ :: _, [], _, _, h => by cases h
  | none :: _, _ :: _, _, _, h => by cases h
  | some k :: ks, v :: vs, kks, cs, h => by
    unfold cDsp at h
    split at h
    · rename_i kk c kks' cs' e1 e2 e3
      cases h
      exact .cons e1 (ih _ _ e2) (dsp_ok ih e3)
    · cases h
theorem dict_ok (ih : ∀ e c, rec e = some c → PE X e (TD X.K F c)) {ks : List (Option Expr)} {vs : List Expr} {co : C} (h : cDict rec ks vs = some co) : PE X (.Dict ks vs pos) (TD X.K F co) := by
  unfold cDict at h
  split at h
  · rename_i kks cs e1
    split at h
    · rename_i hb
      cases h
      rw [Bool.and_eq_true, Bool.and_eq_true] at hb
      exact d_dsp (dsp_ok ih e1) (by simpa using hb.1.1) (of_decide_eq_true hb.1.2) hb.2
    · cases h
  · cases h
theorem fold_ok {e : Expr} (h : noSetD e = true) (env : Env) : ∀ x, foldedSetIterable e env x = pure x := fun x => by
  cases e <;> first | rfl | cases h
theorem it_ok (c : CtxOk Γ F k sc fb X) (ih : ∀ e c, rec e = some c → PE X e (TD X.K F c)) {e tg : Expr} {ki : Ik} {as : C} (h : cIt Γ sc rec tg e = some (ki, as)) : PI X tg e (TI' X.K F ki as) ∧ ∀ x, foldedSetIterable e X.env x = pure x := by
  unfold cIt at h
  split at h
  · refine ⟨?_, fun x => rfl⟩
    split at h
    · rename_i hx
      obtain ⟨rfl, hb⟩ := hx
      rw [Bool.and_eq_true, Bool.and_eq_true] at hb
      split at h
      · rename_i ca e1
        cases h
        exact i_range1 (c.gl hb.1.1) (c.no hb.1.2) (args_ok ih e1).1 hb.2
      · cases h
    split at h
    · rename_i hx
      obtain ⟨rfl, hb⟩ := hx
      rw [Bool.and_eq_true, Bool.and_eq_true, Bool.and_eq_true] at hb
      split at h
      · rename_i ca e1
        cases h
        cases tg <;> first | exact i_enum (c.gl hb.1.1.2) (c.no hb.1.2) (args_ok ih e1).1 hb.2 | (cases hb.1.1.1)
      · cases h
    · split at h
      · rename_i ca e1
        cases h
        exact i_plain (ih _ _ e1)
      · cases h
  · refine ⟨?_, fun x => rfl⟩
    split at h
    · rename_i hx
      obtain ⟨rfl, hb⟩ := hx
      rw [Bool.and_eq_true, Bool.and_eq_true, Bool.and_eq_true] at hb
      split at h
      · rename_i ca e1
        cases h
        exact i_range2 (c.gl hb.1.1.1) (c.no hb.1.1.2) (args_ok ih e1).1 hb.1.2 hb.2
      · cases h
    split at h
    · rename_i hx
      obtain ⟨rfl, hb⟩ := hx
      rw [Bool.and_eq_true, Bool.and_eq_true, Bool.and_eq_true, Bool.and_eq_true] at hb
      split at h
      · rename_i ca e1
        cases h
        cases tg <;> first | exact i_zip (c.gl hb.1.1.1.2) (c.no hb.1.1.2) (args_ok ih e1).1 hb.1.2 hb.2 | (cases hb.1.1.1.1)
      · cases h
    · split at h
      · rename_i ca e1
        cases h
        exact i_plain (ih _ _ e1)
      · cases h
  · split at h
    · rename_i hn
      refine ⟨?_, fold_ok hn _⟩
      split at h
      · rename_i ca e1
        cases h
        exact i_plain (ih _ _ e1)
      · cases h
    · cases h
/-- within a comprehension -/
theorem CtxOk.blk (c : CtxOk Γ F k sc fb X) {scope : Scope} (hk : scope.kind = ScopeKind.function) (s : Shared) (H : Hp) (C : Addr) (cl : List (Str × Addr)) (fp : List Addr) :
    CtxOk Γ F k (relS scope sc) (fun x => scope.names.lookup x == some .cell) (X.blk s H scope (compEnvC scope cl C X.env) fp) :=
  ⟨c.N, c.nd, by show relabel scope X.env = _; rw [← c.scp]; rfl, hk, ⟨c.cm.calm, c.cm.guards, c.cm.units⟩, fun x => rfl, c.bl, c.pats, c.room, c.consts, c.mpats, c.cpats⟩
theorem ownOf_ok {N : List Str} {scope : Scope} : True := trivial
theorem lc_parts (c : CtxOk Γ F k sc fb X) {n : Nat} {rec' recT' : Expr → Option C} (ih : ∀ e c, rec e = some c → PE X e (TD X.K F c))
    {elt : Expr} {gs : List Comprehension} {scope : Scope} {co : C}
    (ih' : ∀ (X' : Cx), X'.K = X.K → CtxOk Γ F k (relS scope sc) (fun x => scope.names.lookup x == some .cell) X' → (∀ e c, rec' e = some c → PE X' e (TD X'.K F c)) ∧ ∀ e c, recT' e = some c → PT X' e (TT' X'.K F c))
    (h : cLc Γ sc n rec rec' recT' elt gs scope = some co) :
    ∃ tg it ifs t ki as cc e, gs = [⟨tg, it, ifs, 0⟩] ∧ co = .lc ((ownOf Γ.N scope).map (·.2)) t ki as cc e ∧ PI X tg it (TI' X.K F ki as) ∧ BlkOk X.N X.env.scope scope (ownOf Γ.N scope) ∧ (∀ i ∈ t.vars, i ∈ (ownOf Γ.N scope).map (·.2)) ∧
      (∀ (s : Shared) (H : Hp) (C : Addr) (cl : List (Str × Addr)) (fp : List Addr), PG (X.blk s H scope (compEnvC scope cl C X.env) fp) tg (TG' X.K t)) ∧ (∀ (s : Shared) (H : Hp) (C : Addr) (cl : List (Str × Addr)) (fp : List Addr), PTs (X.blk s H scope (compEnvC scope cl C X.env) fp) ifs (TT' X.K F cc)) ∧
      (∀ (s : Shared) (H : Hp) (C : Addr) (cl : List (Str × Addr)) (fp : List Addr), PE (X.blk s H scope (compEnvC scope cl C X.env) fp) elt (TD X.K F e)) ∧ ∀ x, foldedSetIterable it X.env x = pure x := by
  unfold cLc at h
  split at h
  · rename_i tg it ifs
    split at h
    · cases h
    · rename_i hb
      have ok : BlkOk X.N X.env.scope scope (ownOf Γ.N scope) := blkOk_by (by rw [c.N, c.scp]; simpa using hb)
      split at h
      · rename_i ki as t e e1 e2 e3
        split at h
        · cases h
        · rename_i hv
          have hv' : ∀ i ∈ t.vars, i ∈ (ownOf Γ.N scope).map (·.2) := by
            have : (t.vars.all fun i => ((ownOf Γ.N scope).map (·.2)).contains i) = true := by simpa using hv
            intro i hi
            have := List.all_eq_true.mp this i hi
            simpa using this
          obtain ⟨i1, i2⟩ := it_ok c ih (tg := tg) e1
          have hg : ∀ (s : Shared) (H : Hp) (C : Addr) (cl : List (Str × Addr)) (fp : List Addr), PG (X.blk s H scope (compEnvC scope cl C X.env) fp) tg (TG' X.K t) := fun s H C cl fp => cTg_ok (c.blk ok.kind s H C cl fp) n tg t e2
          have he : ∀ (s : Shared) (H : Hp) (C : Addr) (cl : List (Str × Addr)) (fp : List Addr), PE (X.blk s H scope (compEnvC scope cl C X.env) fp) elt (TD X.K F e) := fun s H C cl fp => (ih' (X.blk s H scope (compEnvC scope cl C X.env) fp) rfl (c.blk ok.kind s H C cl fp)).1 _ _ e3
          split at h
          · cases h
            exact ⟨tg, it, [], t, ki, as, _, e, rfl, rfl, i1, ok, hv', hg, fun s H C cl fp => ts_nil, he, i2⟩
          · rename_i c1
            split at h
            · rename_i cc e4
              cases h
              exact ⟨tg, it, [c1], t, ki, as, cc, e, rfl, rfl, i1, ok, hv', hg, fun s H C cl fp => ts_one ((ih' (X.blk s H scope (compEnvC scope cl C X.env) fp) rfl (c.blk ok.kind s H C cl fp)).2 _ _ e4), he, i2⟩
            · cases h
          · cases h
      · cases h
  · cases h
theorem cLcA_cases {Γ : Gam} {sc : Scope} {n : Nat} {rec rec' recT' : Expr → Option C} {elt : Expr} {gs : List Comprehension} {scope : Scope} {c : C} (h : cLcA Γ sc n rec rec' recT' elt gs scope = some c) : cLc Γ sc n rec rec' recT' elt gs scope = some c ∨ cLc2 Γ sc n rec rec' recT' elt gs scope = some c := by
  unfold cLcA at h
  split at h
  · exact .inl h
  · exact .inr h
theorem tests_ok {X : Cx} {F : Fm} {recT : Expr → Option C} (ih : ∀ e c, recT e = some c → PT X e (TT' X.K F c)) : ∀ {ifs : List Expr} {c : C}, cTest recT ifs = some c → PTs X ifs (TT' X.K F c)
  | [], c, h => by cases h; exact ts_nil
  | [e], c, h => ts_one (ih _ _ h)
  | _ :: _ :: _, c, h => by cases h
theorem lc2_ok (c : CtxOk Γ F k sc fb X) {n : Nat} {rec' recT' : Expr → Option C} (ih : ∀ e c, rec e = some c → PE X e (TD X.K F c))
    {elt : Expr} {gs : List Comprehension} {scope : Scope} {co : C}
    (ih' : ∀ (X' : Cx), X'.K = X.K → CtxOk Γ F k (relS scope sc) (fun x => scope.names.lookup x == some .cell) X' → (∀ e c, rec' e = some c → PE X' e (TD X'.K F c)) ∧ ∀ e c, recT' e = some c → PT X' e (TT' X'.K F c))
    (h : cLc2 Γ sc n rec rec' recT' elt gs scope = some co) : PE X (.ListComp elt gs scope pos) (TD X.K F co) := by
  unfold cLc2 at h
  split at h
  · rename_i tg it ifs tg1 it1 ifs1
    split at h
    · cases h
    · rename_i hb
      rw [not_or] at hb
      have ok : BlkOk X.N X.env.scope scope (ownOf Γ.N scope) := blkOk_by (by rw [c.N, c.scp]; simpa using hb.1)
      split at h
      · rename_i ki as t cc ki1 as1 t1 cc1 e e1 e2 e3 e4 e5 e6 e7
        split at h
        · cases h
        · rename_i hv
          cases h
          have hv0 : ((t.vars.all fun i => ((ownOf Γ.N scope).map (·.2)).contains i) && t1.vars.all fun i => ((ownOf Γ.N scope).map (·.2)).contains i) = true := by simpa using hv
          rw [Bool.and_eq_true] at hv0
          have all : ∀ {vs : List Nat}, (vs.all fun i => ((ownOf Γ.N scope).map (·.2)).contains i) = true → ∀ i ∈ vs, i ∈ (ownOf Γ.N scope).map (·.2) := fun h i hi => by
            have := List.all_eq_true.mp h i hi
            simpa using this
          obtain ⟨i1, i2⟩ := it_ok c ih (tg := tg) e1
          exact d_lc2 c.cm.calm (by rw [c.N]; exact c.nd) i1 ok (all hv0.1) (all hv0.2) (fun s H C cl fp => cTg_ok (c.blk ok.kind s H C cl fp) n tg t e2) (fun s H C cl fp => tests_ok (ih' (X.blk s H scope (compEnvC scope cl C X.env) fp) rfl (c.blk ok.kind s H C cl fp)).2 e3)
            (fun s H C cl fp => (it_ok (c.blk ok.kind s H C cl fp) (ih' (X.blk s H scope (compEnvC scope cl C X.env) fp) rfl (c.blk ok.kind s H C cl fp)).1 (tg := tg1) e4).1) (fun s H C cl fp => cTg_ok (c.blk ok.kind s H C cl fp) n tg1 t1 e5) (fun s H C cl fp => tests_ok (ih' (X.blk s H scope (compEnvC scope cl C X.env) fp) rfl (c.blk ok.kind s H C cl fp)).2 e6)
            (fun s H C cl fp => (ih' (X.blk s H scope (compEnvC scope cl C X.env) fp) rfl (c.blk ok.kind s H C cl fp)).1 _ _ e7) i2 (fun env => fold_ok (by simpa using hb.2) env)
      · cases h
  · cases h
theorem plainT {e : Expr} (h : ∀ (o : UnaryOp) a p, e ≠ .UnaryOp o a p) (h2 : ∀ (o : PySem.BoolOp) a p, e ≠ .BoolOp o a p) (h3 : ∀ a b c p, e ≠ .Compare a b c p) (h4 : ∀ a b c p, e ≠ .IfExp a b c p) (env : Env) : ∀ whole, isTrue e env whole = (do let v ← whole; standAt e.pos; holding [v] (truthy v)) := fun whole => by
  cases e <;> first | rfl | exact absurd rfl (h _ _ _) | exact absurd rfl (h2 _ _ _) | exact absurd rfl (h3 _ _ _ _) | exact absurd rfl (h4 _ _ _ _)
end
/-- THE RULE for expressions and tests -/
theorem cE_ok {Γ : Gam} {F : Fm} {k : Nat} : ∀ (n : Nat) (sc : Scope) (fb : Str → Bool) (X : Cx), CtxOk Γ F k sc fb X → (∀ e c, cE Γ n sc fb false e = some c → PE X e (TD X.K F c)) ∧ ∀ e c, cE Γ n sc fb true e = some c → PT X e (TT' X.K F c) := by
  intro n
  induction n with
  | zero =>
    intro sc fb X _
    refine ⟨fun e c h => ?_, fun e c h => ?_⟩ <;> cases h
  | succ n ihn =>
    intro sc fb X cx
    obtain ⟨ih, ihT⟩ := ihn sc fb X cx
    constructor
    · intro e c h
      cases e with
      | Name x p => exact name_ok cx h
      | Constant cc j p => exact const_ok h
      | Tuple es j p =>
        replace h : (cArgs (cE Γ n sc fb false) es).map C.tup = some c := h
        cases e : cArgs (cE Γ n sc fb false) es with
        | none => rw [e] at h; cases h
        | some ca => rw [e] at h; cases h; exact d_tup (args_ok ih e).1
      | List es p =>
        replace h : (cArgs (cE Γ n sc fb false) es).map C.lst = some c := h
        cases e : cArgs (cE Γ n sc fb false) es with
        | none => rw [e] at h; cases h
        | some ca => rw [e] at h; cases h; exact d_lst (args_ok ih e).1
      | BinOp a o b p => exact bin_ok ih h
      | UnaryOp o a p => exact un_ok ih h
      | BoolOp o es p =>
        replace h : cBoolE (cE Γ n sc fb false) o es = some c := h
        cases o with
        | And => exact boolA_ok ih h
        | Or => exact boolO_ok ih h
      | Compare a os bs p => exact (cmp_ok cx ih h).1
      | IfExp d a b p => exact if_ok ih ihT h
      | Subscript a b p => exact sub_ok cx ih h
      | Call f es kws p =>
        replace h : cCallE Γ sc (cE Γ n sc fb false) f es kws p = some c := h
        unfold cCallE at h
        split at h
        · split at h
          · split at h
            · rename_i pt hpt
              exact ownC_ok cx ih hpt h
            · exact call_ok cx ih h
          · exact call_ok cx ih h
        · split at h
          · split at h
            · rename_i pt hpt
              exact ownM_ok cx ih hpt h
            · exact meth_ok ih h
          · cases h
        · cases h
      | ListComp elt gs scope p =>
        rcases cLcA_cases (show cLcA Γ sc n _ _ _ elt gs scope = some c from h) with h | h
        rotate_left
        · exact lc2_ok cx ih (fun X' hK c' => ihn _ _ X' c') h
        obtain ⟨tg, it, ifs, t, ki, as, cc, e, rfl, rfl, h1, h2, h3, h4, h5, h6, h7⟩ := lc_parts cx ih (fun X' hK c' => ihn _ _ X' c') h
        exact d_lc cx.cm.calm (by rw [cx.N]; exact cx.nd) h1 h2 h3 h4 h5 h6 h7
      | Dict ks vs p => exact dict_ok ih h
      | Attribute e0 f p =>
        replace h : (if plainBase e0 = true then (cE Γ n sc fb false e0).map fun c => C.fld c f else none) = some c := h
        split at h
        · rename_i hb
          obtain ⟨ca, e1, e2⟩ := Option.map_eq_some_iff.mp h
          subst e2
          exact d_fld (ih _ _ e1) hb
        · cases h
      | _ => cases h
    · intro e c h
      cases e with
      | UnaryOp o a p =>
        cases o with
        | Not =>
          replace h : (cE Γ n sc fb true a).map C.tnot = some c := h
          cases e : cE Γ n sc fb true a with
          | none => rw [e] at h; cases h
          | some ca => rw [e] at h; cases h; exact t_not (ihT _ _ e)
        | _ => cases h
      | BoolOp o es p =>
        replace h : tBoolE (cE Γ n sc fb true) o es = some c := h
        cases o with
        | And => exact (tboolA_ok ihT h).pt
        | Or => exact (tboolO_ok ihT h).pt
      | Compare a os bs p => exact (cmp_ok cx ih h).2
      | IfExp d a b p => cases h
      | _ =>
        rename_i e0
        first
          | (obtain ⟨ca, e1, e2⟩ := Option.map_eq_some_iff.mp (show (cE Γ n sc fb false _).map C.tval = some c from h)
             subst e2
             exact t_val (ih _ _ e1) (fun _ => rfl))
          | cases h
end Cb

namespace Cb
open PySem PySem.Spec PyProof.Rows L2
/-! ## statements from the text -/
def cBlk (rec : Stmt → Option S) : List Stmt → Option S
  | [] => some .done
  | s :: ss => match rec s, cBlk rec ss with
    | some a, some b => some (.seq a b)
    | _, _ => none
/-- which stores are exchanged: two or three different local names on one line, values that are not all folded -/
def isName (sc : Scope) (line : Nat) : Expr → Option Str
  | .Name x p => if sc.names.lookup x = some .local ∧ (p.line == line) = true then some x else none
  | _ => none
def swapOk (vs : List Expr) : Bool := vs.all notStar && !(vs.all (foldedForSure 8)) && !(vs.all (constantsAlone 8))
theorem any_no {f : Expr → Bool} (hf : ∀ e, notStar e = true → f e = false) {vs : List Expr} (h : vs.all notStar = true) : vs.any f = false := by
  induction vs with
  | nil => rfl
  | cons v vs ih =>
    rw [List.all_cons, Bool.and_eq_true] at h
    rw [List.any_cons, ih h.2, hf v h.1]
    rfl
theorem isName_ok {sc : Scope} {l : Nat} {x y : Str} {p : Pos} (h : isName sc l (.Name x p) = some y) : sc.names.lookup x = some .local ∧ (p.line == l) = true := by
  simp only [isName] at h
  split at h
  · assumption
  · cases h
theorem not_true {b : Bool} (h : (!b) = true) : b = false := by cases b <;> first | rfl | cases h
theorem swap2 {env : Env} (hk : env.scope.kind = ScopeKind.function) {x y : Str} {px py pt pt2 : Pos} {kt k2 : Nat} {a b : Expr} (h1 : isName env.scope px.line (.Name x px) = some x) (h2 : isName env.scope px.line (.Name y py) = some y) (hn : x ≠ y) (hv : swapOk [a, b] = true) :
    swappedStores [.Tuple [.Name x px, .Name y py] kt pt] (.Tuple [a, b] k2 pt2) env = pure (some [x, y]) := by
  have hb : env.blockKind = .function := by unfold Env.blockKind; rw [hk]; rfl
  have k1 : env.kindOf x = some .local := (isName_ok h1).1
  obtain ⟨k2', l2⟩ : env.kindOf y = some .local ∧ _ := isName_ok h2
  unfold swapOk at hv
  rw [Bool.and_eq_true, Bool.and_eq_true] at hv
  have s2 := not_true hv.1.2
  have s3 := not_true hv.2
  have d : [x, y].eraseDups = [x, y] := by
    have : (y == x) = false := beq_eq_false_iff_ne.mpr (Ne.symm hn)
    simp [List.eraseDups_cons, this]
  unfold swappedStores
  simp only [List.length_cons, List.length_nil, hb, s2, s3, List.head?_cons, Option.map_some, Option.getD_some, Expr.pos, k1, k2', l2, List.filterMap_cons, List.filterMap_nil, BEq.rfl, d, Bool.and_self, if_true]
  rw [any_no (fun e he => by cases e <;> first | rfl | cases he) hv.1.1]
  rfl
theorem swap3 {env : Env} (hk : env.scope.kind = ScopeKind.function) {x y z : Str} {px py pz pt pt2 : Pos} {kt k2 : Nat} {a b c : Expr} (h1 : isName env.scope px.line (.Name x px) = some x) (h2 : isName env.scope px.line (.Name y py) = some y) (h3 : isName env.scope px.line (.Name z pz) = some z) (hn : x ≠ y) (hn2 : x ≠ z) (hn3 : y ≠ z) (hv : swapOk [a, b, c] = true) :
    swappedStores [.Tuple [.Name x px, .Name y py, .Name z pz] kt pt] (.Tuple [a, b, c] k2 pt2) env = pure (some [x, y, z]) := by
  have hb : env.blockKind = .function := by unfold Env.blockKind; rw [hk]; rfl
  have k1 : env.kindOf x = some .local := (isName_ok h1).1
  obtain ⟨k2', l2⟩ : env.kindOf y = some .local ∧ _ := isName_ok h2
  obtain ⟨k3', l3⟩ : env.kindOf z = some .local ∧ _ := isName_ok h3
  unfold swapOk at hv
  rw [Bool.and_eq_true, Bool.and_eq_true] at hv
  have s2 := not_true hv.1.2
  have s3 := not_true hv.2
  have d : [x, y, z].eraseDups = [x, y, z] := by
    have a1 : (y == x) = false := beq_eq_false_iff_ne.mpr (Ne.symm hn)
    have a2 : (z == x) = false := beq_eq_false_iff_ne.mpr (Ne.symm hn2)
    have a3 : (z == y) = false := beq_eq_false_iff_ne.mpr (Ne.symm hn3)
    simp [List.eraseDups_cons, a1, a2, a3]
  unfold swappedStores
  simp only [List.length_cons, List.length_nil, hb, s2, s3, List.head?_cons, Option.map_some, Option.getD_some, Expr.pos, k1, k2', k3', l2, l3, List.filterMap_cons, List.filterMap_nil, BEq.rfl, d, Bool.and_self, if_true]
  rw [any_no (fun e he => by cases e <;> first | rfl | cases he) hv.1.1]
  rfl
/-- no stores are exchanged: not two or three, not all local names of the line, or all values folded -/
def rowNames (sc : Scope) (ts : List Expr) : List Str := ts.filterMap fun
  | .Name id pos => if (sc.names.lookup id == some .local && pos.line == (ts.head?.map (·.pos.line)).getD 0) = true then some id else none
  | _ => none
def rowNone (sc : Scope) (ts vs : List Expr) : Bool := vs.all notStar && (!(ts.length == 2 || ts.length == 3) || vs.length != ts.length || (rowNames sc ts).length != ts.length || (rowNames sc ts).eraseDups.length != (rowNames sc ts).length || vs.all (foldedForSure 8))
theorem swapNone {env : Env} (hk : env.scope.kind = ScopeKind.function) {ts vs : List Expr} {kt k2 : Nat} {pt pt2 : Pos} (h : rowNone env.scope ts vs = true) : swappedStores [.Tuple ts kt pt] (.Tuple vs k2 pt2) env = pure none := by
  have hb : env.blockKind = .function := by unfold Env.blockKind; rw [hk]; rfl
  unfold rowNone at h
  rw [Bool.and_eq_true] at h
  have h2 := h.2
  unfold swappedStores
  simp only [hb]
  rw [any_no (fun e he => by cases e <;> first | rfl | cases he) h.1]
  by_cases c1 : (!(ts.length == 2 || ts.length == 3) || vs.length != ts.length) = true
  · rw [if_pos (by rw [c1]; rfl)]
  · have c1' := (Bool.not_eq_true _).mp c1
    rw [c1', Bool.false_or] at h2
    rw [if_neg (by rw [c1']; decide)]
    change (if ((rowNames env.scope ts).length != ts.length || (rowNames env.scope ts).eraseDups.length != (rowNames env.scope ts).length) = true then _ else _) = _
    by_cases c2 : ((rowNames env.scope ts).length != ts.length || (rowNames env.scope ts).eraseDups.length != (rowNames env.scope ts).length) = true
    · rw [if_pos c2]
    · have c2' := (Bool.not_eq_true _).mp c2
      rw [c2', Bool.false_or] at h2
      rw [if_neg c2, if_pos h2]
/-! ## blocks -/
def cSto2 (rec : Expr → Option C) (c : C) (ts : List Expr) : Option S := match ts with
  | [.Subscript o i _, .Subscript o2 i2 _] => (match rec o, rec i, rec o2, rec i2 with
    | some a, some b, some a2, some b2 => if (noSlice i && noSlice i2) = true then some (.sto2 c a b a2 b2) else none
    | _, _, _, _ => none)
  | _ => none
def cAsg (Γ : Gam) (sc : Scope) (fb : Str → Bool) (n : Nat) (rec : Expr → Option C) (tg e : Expr) : Option S :=
  match tg with
  | .Attribute o f _ => (match rec e, rec o with
    | some ce, some co => if noComp e = true then some (.sfd ce co f) else none
    | _, _ => none)
  | .Subscript o i _ => (match rec e, rec o, rec i with
    | some ce, some co, some ci => if (noComp e && noSlice i) = true then some (.sto ce co ci) else none
    | _, _, _ => none)
  | .Name y py => (match slot Γ.N y, rec e with
    | some i, some c => if locB sc fb y = false then none else (match e with
      | .ListComp _ gs scope cpos => if gs.length = 1 then some (.asg (.name i) c) else none
      | .SetComp .. => none
      | .DictComp .. => none
      | _ => some (.asg (.name i) c))
    | _, _ => none)
  | .Tuple ts kt pt => (match e with
    | .Tuple vs _ _ => if rowNone sc ts vs = true then (match cTg Γ sc fb n (.Tuple ts kt pt), rec e with
        | some t, some c => some (.asg t c)
        | _, some c => cSto2 rec c ts
        | _, _ => none) else (match ts, vs with
      | [.Name x px, .Name y py], [a, b] => (match slot Γ.N x, slot Γ.N y, cArgs rec [a, b] with
        | some i, some j, some c => if isName sc px.line (.Name x px) = some x ∧ isName sc px.line (.Name y py) = some y ∧ x ≠ y ∧ swapOk [a, b] = true ∧ i ≠ j then some (.par [i, j] c) else none
        | _, _, _ => none)
      | [.Name x px, .Name y py, .Name z pz], [a, b, d] => (match slot Γ.N x, slot Γ.N y, slot Γ.N z, cArgs rec [a, b, d] with
        | some i, some j, some l, some c => if isName sc px.line (.Name x px) = some x ∧ isName sc px.line (.Name y py) = some y ∧ isName sc px.line (.Name z pz) = some z ∧ x ≠ y ∧ x ≠ z ∧ y ≠ z ∧ swapOk [a, b, d] = true ∧ i ≠ j ∧ i ≠ l ∧ j ≠ l then some (.par [i, j, l] c) else none
        | _, _, _, _ => none)
      | _, _ => none)
    | _ => if noComp e = true then (match cTg Γ sc fb n (.Tuple ts kt pt), rec e with
        | some t, some c => some (.asg t c)
        | _, _ => none) else none)
  | _ => none
def cS (Γ : Gam) (sc : Scope) (fb : Str → Bool) (m : Nat) : Nat → Stmt → Option S
  | 0, _ => none
  | n + 1, s => match s with
    | .Assign [tg] e _ => cAsg Γ sc fb m (cE Γ m sc fb false) tg e
    | .AugAssign (.Name x _) o e _ => match bopOf o, slot Γ.N x, cE Γ m sc fb false e with
      | some b, some i, some c => if locB sc fb x = true ∧ b ≠ .pow then some (.aug i b c) else none
      | _, _, _ => none
    | .AugAssign (.Attribute a f _) o e _ => match bopOf o, cE Γ m sc fb false a, cE Γ m sc fb false e with
      | some b, some ca, some c => if b ≠ .pow then some (.afd ca f b c) else none
      | _, _, _ => none
    | .Expr e _ => match e with
      | .Constant (.str _) _ _ => some .pass
      | e => if noComp e = true then (cE Γ m sc fb false e).map .expr else none
    | .Return (some e) _ => (cE Γ m sc fb false e).map .ret
    | .Return none _ => some .retN
    | .If c a b _ => match cE Γ m sc fb true c, cBlk (cS Γ sc fb m n) a, cBlk (cS Γ sc fb m n) b with
      | some cc, some sa, some sb => some (.ite cc sa sb)
      | _, _, _ => none
    | .For tg it body [] _ => match cTg Γ sc fb m tg, cIt Γ sc (cE Γ m sc fb false) tg it, cBlk (cS Γ sc fb m n) body with
      | some t, some (k, as), some b => some (.loop t k as b)
      | _, _, _ => none
    | .While c body [] _ => match cE Γ m sc fb true c, cBlk (cS Γ sc fb m n) body with
      | some cc, some b => some (.whil cc b)
      | _, _ => none
    | .Break _ => some .brk
    | .Continue _ => some .cont
    | .Pass _ => some .pass
    | .Raise .. => some .never
    | _ => none
section
variable {Γ : Gam} {F : Fm} {k : Nat} {sc : Scope} {fb : Str → Bool} {X : Cx}
theorem blk_ok {rec : Stmt → Option S} (ih : ∀ s c, rec s = some c → PS X s (TS' X.K F c)) : ∀ {ss : List Stmt} {c : S}, cBlk rec ss = some c → PSs X ss (TS' X.K F c)
  | [], c, h => by cases h; exact s_nil
  | s :: ss, c, h => by
    unfold cBlk at h
    split at h
    · rename_i a b e1 e2
      cases h
      exact s_cons (ih _ _ e1) (blk_ok ih e2)
    · cases h
theorem slot_ne {N : List Str} {x y : Str} {i j : Nat} (h1 : slot N x = some i) (h2 : slot N y = some j) (h : x ≠ y) : i ≠ j := by
  rintro rfl
  have a := slot_ok h1
  have b := slot_ok h2
  rw [a] at b
  exact h (Option.some.inj b)
theorem asg_ok (cx : CtxOk Γ F k sc fb X) (n m : Nat) {tg e : Expr} {c : S} {pos : Pos} (h : cAsg Γ sc fb n (cE Γ m sc fb false) tg e = some c) : PS X (.Assign [tg] e pos) (TS' X.K F c) := by
  have ih := (cE_ok (F := F) (k := k) m sc fb X cx).1
  have nd : X.N.Nodup := by rw [cx.N]; exact cx.nd
  have kd : X.env.scope.kind = ScopeKind.function := by rw [cx.scp]; exact cx.kind
  unfold cAsg at h
  split at h
  · split at h
    · rename_i e1 e2
      split at h
      · rename_i hb
        cases h
        exact s_sfd (ih _ _ e2) (ih _ _ e1) hb
      · cases h
    · cases h
  · split at h
    · rename_i e1 e2 e3
      split at h
      · rename_i hb
        cases h
        rw [Bool.and_eq_true] at hb
        exact s_sto cx.u1 (ih _ _ e1) (ih _ _ e2) (ih _ _ e3) hb.1 hb.2
      · cases h
    · cases h
  · rename_i y py
    split at h
    · rename_i i ce e1 e2
      split at h
      · cases h
      · rename_i hl
        obtain ⟨l1, l2⟩ := loc_ok (by simpa using hl)
        have hi : X.N[i]? = some y := by rw [cx.N]; exact slot_ok e1
        have hx : L2.Loc X.env.scope y := by rw [cx.scp]; exact l1
        have hf : X.fn y = true ∨ X.env.scope.names.lookup y = some .local := by rw [cx.fn, cx.scp]; exact l2
        have gen : noComp e = true → PS X (.Assign [.Name y py] e pos) (TS' X.K F (.asg (.name i) ce)) := fun hn => s_asg (ih _ _ e2) (g_name nd hi hx hf) hn rfl rfl
        split at h
        · rename_i elt gs scope cpos
          split at h
          · rename_i hg1
            obtain ⟨g0, rfl⟩ := List.length_eq_one_iff.mp hg1
            cases h
            cases m with
            | zero => cases e2
            | succ m =>
              obtain ⟨tg, it, ifs, t, ki, as, cc, e, eg, rfl, h1, h2, h3, h4, h5, h6, h7⟩ := lc_parts cx (cE_ok (F := F) (k := k) m sc fb X cx).1 (fun X' hK c' => cE_ok m _ _ X' c') (show cLc Γ sc m (cE Γ m sc fb false) _ _ elt [g0] scope = some ce from e2)
              cases eg
              cases hsw : swB X.env.scope scope y py cpos with
              | true => exact s_lcT cx.cm.calm nd hi kd hsw h1 h2 h3 h4 h5 h6 h7
              | false => exact s_lcF nd hi hx hf kd hsw (d_lc cx.cm.calm nd h1 h2 h3 h4 h5 h6 h7)
          · cases h
        · cases h
        · cases h
        · rename_i n1 n2 n3
          cases h
          exact gen (by cases e <;> first | rfl | exact absurd rfl (n1 _ _ _ _) | exact absurd rfl (n2 _ _ _ _) | exact absurd rfl (n3 _ _ _ _ _))
    · cases h
  · rename_i ts kt pt
    split at h
    · rename_i vs k2 p2
      split at h
      · rename_i hr
        split at h
        · rename_i t ce e1 e2
          cases h
          exact s_asg (ih _ _ e2) (cTg_ok cx n _ _ e1) rfl (swapNone kd (by rw [cx.scp]; exact hr)) rfl
        · rename_i ce e2 _
          unfold cSto2 at h
          split at h
          · split at h
            · rename_i a b a2 b2 f1 f2 f3 f4
              split at h
              · rename_i hn
                cases h
                rw [Bool.and_eq_true] at hn
                exact s_sto2 cx.cm.calm cx.u1 (ih _ _ e2) (ih _ _ f1) (ih _ _ f2) (ih _ _ f3) (ih _ _ f4) rfl hn.1 hn.2 (swapNone kd (by rw [cx.scp]; exact hr))
              · cases h
            · cases h
          · cases h
        · cases h
      · split at h
        · rename_i x px y py a b
          split at h
          · rename_i i j ca e1 e2 e3
            split at h
            · rename_i hb
              cases h
              obtain ⟨b1, b2, b3, b4, b5⟩ := hb
              exact s_par2 cx.cm.calm nd (by rw [cx.N]; exact slot_ok e1) (by rw [cx.N]; exact slot_ok e2) b5 (by rw [cx.scp]; exact (isName_ok b1).1) (by rw [cx.scp]; exact (isName_ok b2).1) (args_ok ih e3).1 (swap2 kd (by rw [cx.scp]; exact b1) (by rw [cx.scp]; exact b2) b3 b4)
            · cases h
          · cases h
        · rename_i x px y py z pz a b d
          split at h
          · rename_i i j l ca e1 e2 e3 e4
            split at h
            · rename_i hb
              cases h
              obtain ⟨b1, b2, b3, b4, b5, b6, b7, b8, b9, b10⟩ := hb
              exact s_par3 cx.cm.calm nd (by rw [cx.N]; exact slot_ok e1) (by rw [cx.N]; exact slot_ok e2) (by rw [cx.N]; exact slot_ok e3) b8 b9 b10 (by rw [cx.scp]; exact (isName_ok b1).1) (by rw [cx.scp]; exact (isName_ok b2).1) (by rw [cx.scp]; exact (isName_ok b3).1) (args_ok ih e4).1
                (swap3 kd (by rw [cx.scp]; exact b1) (by rw [cx.scp]; exact b2) (by rw [cx.scp]; exact b3) b4 b5 b6 b7)
            · cases h
          · cases h
        · cases h
    · rename_i hnt
      split at h
      · rename_i hn
        split at h
        · rename_i t ce e1 e2
          cases h
          exact s_asg (ih _ _ e2) (cTg_ok cx n _ _ e1) hn (row_no (by cases e <;> first | rfl | exact absurd rfl (hnt _ _ _)) _) rfl
        · cases h
      · cases h
  · cases h
theorem cS_ok (cx : CtxOk Γ F k sc fb X) (hp : PassesOwn (model X.prog X.w) X.A X.env X.xe) (m : Nat) : ∀ (n : Nat) (s : Stmt) (c : S), cS Γ sc fb m n s = some c → PS X s (TS' X.K F c) := by
  intro n
  induction n with
  | zero => intro s c h; cases h
  | succ n ih =>
    intro s c h
    obtain ⟨ihE, ihT⟩ := cE_ok (F := F) (k := k) m sc fb X cx
    cases s with
    | Assign ts e p =>
      match ts, h with
      | [tg], h => exact asg_ok cx m m (show cAsg Γ sc fb m (cE Γ m sc fb false) tg e = some c from h)
    | AugAssign t o e p =>
      cases t with
      | Name x px =>
        simp only [cS] at h
        split at h
        · rename_i b i ce e1 e2 e3
          split at h
          · rename_i hb
            cases h
            obtain ⟨l1, l2⟩ := loc_ok hb.1
            rw [← bop_ok e1]
            exact s_aug b hb.2 (by rw [cx.N]; exact cx.nd) (by rw [cx.N]; exact slot_ok e2) (by rw [cx.scp]; exact l1) (by rw [cx.fn, cx.scp]; exact l2) (ihE _ _ e3)
          · cases h
        · cases h
      | Attribute a f px =>
        simp only [cS] at h
        split at h
        · rename_i b ca ce e1 e2 e3
          split at h
          · rename_i hb
            cases h
            rw [← bop_ok e1]
            exact s_afd b hb (ihE _ _ e2) (ihE _ _ e3)
          · cases h
        · cases h
      | _ => cases h
    | Expr e p =>
      simp only [cS] at h
      split at h
      · cases h
        exact s_doc
      · split at h
        · rename_i hn
          obtain ⟨ca, e1, e2⟩ := Option.map_eq_some_iff.mp h
          subst e2
          exact s_expr (ihE _ _ e1) hn
        · cases h
    | Return v p =>
      cases v with
      | none => cases h; exact s_retN
      | some e =>
        obtain ⟨ca, e1, e2⟩ := Option.map_eq_some_iff.mp (show (cE Γ m sc fb false e).map S.ret = some c from h)
        subst e2
        exact s_ret (ihE _ _ e1)
    | If d a b p =>
      simp only [cS] at h
      split at h
      · rename_i cc sa sb e1 e2 e3
        cases h
        exact s_if (ihT _ _ e1) (blk_ok ih e2) (blk_ok ih e3)
      · cases h
    | For tg it body orelse p =>
      cases orelse with
      | nil =>
        simp only [cS] at h
        split at h
        · rename_i t ki as b e1 e2 e3
          cases h
          obtain ⟨i1, i2⟩ := it_ok cx ihE (tg := tg) e2
          exact s_for hp cx.cm.calm i1 (cTg_ok cx m _ _ e1) (blk_ok ih e3) i2
        · cases h
      | cons _ _ => cases h
    | While d body orelse p =>
      cases orelse with
      | nil =>
        simp only [cS] at h
        split at h
        · rename_i cc b e1 e2
          cases h
          exact s_while hp (ihT _ _ e1) (blk_ok ih e2)
        · cases h
      | cons _ _ => cases h
    | Break p => cases h; exact s_brk
    | Continue p => cases h; exact s_cont
    | Pass p => cases h; exact s_pass
    | Raise a b p => cases h; exact s_never
    | _ => cases h
end
end Cb

namespace Cb
open PySem PySem.Spec PyProof.Rows L2
/-! ## how arguments bind -/
theorem kw_loop {α : Type} (g : Str × Value → (List (Str × Value) × α) → PySem.Sem (ForInStep (List (Str × Value) × α))) (ok : Str → Prop)
    (hg : ∀ p s, ok p.1 → (s.1.lookup p.1) = none → g p s = pure (ForInStep.yield (s.1 ++ [p], s.2))) :
    ∀ (kw : List (Str × Value)) (s : List (Str × Value) × α), (∀ p ∈ kw, ok p.1) → (kw.map (·.1)).Nodup → (∀ p ∈ kw, s.1.lookup p.1 = none) → forIn kw s g = pure (s.1 ++ kw, s.2)
  | [], s, _, _, _ => by rw [List.forIn_nil, List.append_nil]
  | p :: kw, s, h1, h2, h3 => by
    rw [List.map_cons, List.nodup_cons] at h2
    rw [List.forIn_cons, hg p s (h1 p List.mem_cons_self) (h3 p List.mem_cons_self), pure_bind]
    show forIn kw (s.1 ++ [p], s.2) g = _
    rw [kw_loop g ok hg kw (s.1 ++ [p], s.2) (fun q hq => h1 q (List.mem_cons_of_mem _ hq)) h2.2 fun q hq => ?_]
    · simp
    · show (s.1 ++ [p]).lookup q.1 = none
      rw [List.lookup_append, h3 q (List.mem_cons_of_mem _ hq)]
      have : ¬ q.1 = p.1 := fun e => h2.1 (by rw [← e]; exact List.mem_map_of_mem hq)
      simp only [List.lookup, Option.none_or]
      rw [beq_eq_false_iff_ne.mpr this]
theorem lookup_zip {α : Type} : ∀ {L : List Str} {vs : List α} {j : Nat} {n : Str} {v : α}, L.Nodup → L[j]? = some n → vs[j]? = some v → (L.zip vs).lookup n = some v
  | [], _, _, _, _, _, h, _ => by simp at h
  | _ :: _, [], _, _, _, _, _, h => by simp at h
  | l :: L, w :: vs, 0, n, v, _, h1, h2 => by
    obtain rfl : l = n := by simpa using h1
    obtain rfl : w = v := by simpa using h2
    simp [List.lookup]
  | l :: L, w :: vs, j + 1, n, v, hn, h1, h2 => by
    rw [List.nodup_cons] at hn
    have e : ¬ n = l := fun e => hn.1 (by rw [← e]; exact List.mem_of_getElem? (by simpa using h1))
    rw [List.zip_cons_cons, List.lookup_cons, beq_eq_false_iff_ne.mpr e]
    exact lookup_zip hn.2 (by simpa using h1) (by simpa using h2)
theorem lookup_perm {α : Type} {L : List Str} {vs : List α} (hn : L.Nodup) : ∀ {perm : List Nat} {ps : List Str} {xs : List α}, permL L perm = some ps → permL vs perm = some xs → (ps.filterMap fun n => ((L.zip vs).lookup n).map fun v => (n, v)) = ps.zip xs ∧ ∀ n ∈ ps, ((L.zip vs).lookup n).isSome = true
  | [], ps, xs, h1, h2 => by
    cases h1
    cases h2
    exact ⟨rfl, fun n h => by cases h⟩
  | j :: perm, ps, xs, h1, h2 => by
    unfold permL at h1 h2
    split at h1
    · rename_i n ps' e1 e2
      split at h2
      · rename_i v xs' e3 e4
        cases h1
        cases h2
        obtain ⟨i1, i2⟩ := lookup_perm hn e2 e4
        have hl := lookup_zip hn e1 e3
        refine ⟨?_, fun m hm => ?_⟩
        · rw [List.filterMap_cons, hl, List.zip_cons_cons, ← i1]
          rfl
        · rcases List.mem_cons.mp hm with rfl | hm
          · rw [hl]
            rfl
          · exact i2 m hm
      · cases h2
    · cases h1
theorem lookup_none_of {α : Type} : ∀ {L : List Str} {vs : List α} {n : Str}, n ∉ L → (L.zip vs).lookup n = none
  | [], _, _, _ => rfl
  | _ :: _, [], _, _ => rfl
  | l :: L, v :: vs, n, h => by
    rw [List.mem_cons, not_or] at h
    rw [List.zip_cons_cons, List.lookup_cons, beq_eq_false_iff_ne.mpr h.1]
    exact lookup_none_of h.2
theorem zip_take {α : Type} : ∀ (ps : List Str) (us : List α), ps.zip us = (ps.take us.length).zip us
  | [], _ => by simp
  | _ :: _, [] => by simp
  | p :: ps, u :: us => by simp [zip_take ps us]
/-- plain parameters -/
def plainArgs (as : List Arg) : Arguments := { posonlyargs := [], args := as, vararg := none, kwonlyargs := [], kw_defaults := [], kwarg := none, defaults := [] }
/-- the names and the pattern fit -/
def patFit (ps : List Str) (p : Pat) : Prop := permL (ps.take p.npos ++ p.ks) p.perm = some ps ∧ (ps.take p.npos ++ p.ks).Nodup ∧ (∀ k ∈ p.ks, k ∈ ps) ∧ p.npos ≤ ps.length ∧ (p.name == ("__debug__" : Str)) = false
instance (ps : List Str) (p : Pat) : Decidable (patFit ps p) := inferInstanceAs (Decidable (_ ∧ _))
theorem bind_gen {x qual : Str} {as : List Arg} {body : List Stmt} {scope : Scope} {kV doc pm cdv ct : Value} {an : Option Addr} {ps : List Str} (hps : as.map (·.arg) = ps) {p : Pat} (hp : patFit ps p) {us ws xs : List Value} (hu : us.length = p.npos) (hw : ws.length = p.ks.length) (hx : permL (us ++ ws) p.perm = some xs) :
    bindArgs (PySem.W.fnOf x qual (plainArgs as) body scope .none kV doc pm an cdv ct) ⟨us, p.ks.zip ws⟩ = pure (ps.zip xs) := by
  obtain ⟨p1, p2, p3, p4, _⟩ := hp
  have hz : ps.zip us ++ p.ks.zip ws = (ps.take p.npos ++ p.ks).zip (us ++ ws) := by
    rw [zip_take, hu, List.zip_append (by rw [List.length_take, hu]; omega)]
  obtain ⟨r1, r2⟩ := lookup_perm (vs := us ++ ws) p2 p1 hx
  have hmem : ∀ q ∈ p.ks.zip ws, q.1 ∈ p.ks := fun q hq => (List.of_mem_zip (a := q.1) (b := q.2) hq).1
  have hkeys : (p.ks.zip ws).map (·.1) = p.ks := by
    rw [List.map_fst_zip]
    omega
  unfold bindArgs PySem.W.fnOf plainArgs
  simp only [List.map_nil, List.nil_append, List.append_nil, Option.isSome_none, Option.isNone_none, hps]
  rw [kw_loop _ (fun k => k ∈ ps) (fun q s hq hl => ?_) _ _ (fun q hq => p3 _ (hmem q hq)) (by rw [hkeys]; exact (List.nodup_append.mp p2).2.1) (fun q hq => ?_)]
  · rw [pure_bind]
    have e0 : seqItems? Value.none = pure none := rfl
    rw [e0, pure_bind]
    have e1 : (decide (us.length > ps.length) && true) = false := by
      rw [Bool.and_true]
      exact decide_eq_false (by omega)
    simp only [e1, Bool.false_eq_true, if_false, hz]
    have e2 : (List.filter (fun n => (((ps.take p.npos ++ p.ks).zip (us ++ ws)).lookup n).isNone) (ps.take (ps.length - 0))).isEmpty = true := by
      rw [List.isEmpty_iff, List.filter_eq_nil_iff]
      intro n hn
      have := r2 n (List.mem_of_mem_take hn)
      cases e : ((ps.take p.npos ++ p.ks).zip (us ++ ws)).lookup n with
      | none => rw [e] at this; cases this
      | some v => simp
    have e3 : (none : Option (Array Value)).getD #[] = #[] := rfl
    simp only [e3, List.drop_nil, List.length_nil, Nat.sub_zero] at e2 ⊢
    simp only [e2, Bool.not_true, Bool.false_eq_true, if_false]
    simp only [List.zip_nil_right, List.forIn_nil, pure_bind, List.isEmpty_nil, Bool.not_true, Bool.false_eq_true, if_false]
    rw [← r1]
  · have h1 : (ps.contains q.1 || ([] : List Str).contains q.1) = true := by
      rw [Bool.or_eq_true]
      left
      simpa using hq
    simp only [h1, if_true, hl, Option.isSome_none, Bool.false_eq_true, if_false]
  · show (ps.zip us).lookup q.1 = none
    rw [zip_take, hu]
    refine lookup_none_of fun hm => ?_
    exact (List.nodup_append.mp p2).2.2 _ hm _ (hmem q hq) rfl
end Cb

namespace Cb
open PySem PySem.Spec PyProof.Rows L2
section
variable {P : Program} {w : World} {K : PySem.W.Frag} {mg : Str → Option Value} {base : Heap} {F : Fm} {k : Nat}
theorem start_env {ι : List Addr} {H : Hp} {N : List Str} {ds : List D} {vs : List V} (r : DRs K ι H ds vs) (hl : vs.length ≤ N.length) : EnvR K ι H (L2.start N vs) (startD N.length ds) := by
  have e := r.len
  refine ⟨?_, fun i d h => ?_⟩
  · unfold L2.start startD
    simp only [List.length_append, List.length_map, List.length_replicate]
    omega
  · unfold startD at h
    unfold L2.start
    by_cases hi : i < ds.length
    · rw [List.getElem?_append_left (by simpa using hi), List.getElem?_map] at h
      cases ed : ds[i]? with
      | none => rw [ed] at h; cases h
      | some d' =>
        rw [ed] at h
        cases h
        obtain ⟨v, ev, rv⟩ := r.get ed
        exact ⟨v, by rw [List.getElem?_append_left (by rw [List.length_map]; omega), List.getElem?_map, ev]; rfl, rv⟩
    · rw [List.getElem?_append_right (by simpa using hi), List.getElem?_replicate] at h
      split at h <;> cases h
/-- a def by the code of its body -/
theorem fn_body {x qual : Str} {st : Stmt} {f : Addr} {fd : FuncData} {Γ : Gam} {ps : List Str} {c : S} {m n : Nat} (Fu : Fun K x qual st f fd) (S : FnScope Γ.N ps (defScope st)) (hc : cBlk (cS Γ (defScope st) (fun _ => true) m n) (defBody st) = some c)
    (hbl : ∀ x ∈ Γ.bl, mg x = none) (hpat : ∀ p ∈ Γ.pats, PatOk P w K mg base F k p) (hcon : ∀ c ∈ Γ.consts, ∃ v u, mg c.1 = some u ∧ RelV v u ∧ (∀ H, DR K [] H c.2 v) ∧ (c.1 == ("__debug__" : Str)) = false)
    (hmp : ∀ p ∈ Γ.mpats, MPatOk P w K mg base F k p) (hcp : ∀ p ∈ Γ.cpats, CPatOk P w K mg base F k p) :
    FnG P w K mg base (k + 1) f fd ps (fun vs H R => ∃ ι ds st0 Q, DRs K ι H ds vs ∧ StR K ι H st0 ∧ wps F c (startD Γ.N.length ds) st0 { nx := fun _ st1 => Q .non st1, rt := Q } ∧ Post K ι H Q R) := by
  obtain ⟨oc, od, kV, doc, pm, an, cdv, ct, osl, rfl, lk, hcd⟩ := Fu.ex
  refine ⟨fun A outer s H args us vs R hr hgd e0 hb r hl ⟨ι, ds, st0, Q, rd, rs, hw, hp⟩ => ?_⟩
  have KX : K.In s.heap := e0.mod.kin.keeps fun b o e => (e0.bs b o e).1
  have lim : s.heap.NoLimit := e0.mod.nolimit.keeps fun b o e => (e0.bs b o e).1
  have hps : ps.length ≤ Γ.N.length := by
    have h1 := congrArg List.length S.pre
    rw [List.length_take] at h1
    omega
  refine codeAny_call_function hr.depth (KX _ _ lk) rfl S.co S.gen rfl (PySem.W.codeRec_of KX hcd) (hb _ _ _ _ ?_)
  refine wpAny_newFunctionEnv_cells S.kind (fun ⟨n, v⟩ hy => ?_) fun env he s1 xin => ?_
  · rcases S.par n (List.of_mem_zip hy).1 with q | q
    · exact .inl q
    · exact .inr ⟨q, PySem.W.cellsFrom_some _ _ _ (.inl q)⟩
  subst he
  refine ⟨lim.keeps xin.toInCall.keep, codeAny_func ?_⟩
  have I0 : Inv (cxOf CX0 P w K mg base Γ.N qual (defScope st) f cdv A outer s H E0) [] (L2.start Γ.N vs) H s1 := inv_start S hr.hd e0 hl r xin
  have hr' := hr.deeper (envOfC qual (defScope st) s.heap.objs.size f cdv)
  have cx : CtxOk Γ F k (defScope st) (fun _ => true) (cxOf CX0 P w K mg base Γ.N qual (defScope st) f cdv A outer s H E0).nox :=
    ⟨rfl, S.nd, rfl, S.kind, ⟨rfl, hgd, by have := hr'.un; show (A.deeper _).units + 66 < cLine; omega⟩, fun _ => rfl, hbl, hpat, hr', hcon, hmp, hcp⟩
  have hbody := (blk_ok (cS_ok (F := F) (k := k) cx PassesOwn.never m n) hc).nox
  refine wpAny_mono (hbody.run [] s1 (L2.start Γ.N vs) H { nx := fun _ H' => R .non H', rt := R } I0 ⟨ι, _, st0, _, start_env rd (by omega), rs, hw, ⟨fun σ' H' ι' ρ' st' h1 h2 h3 h4 q => hp .non H' ι' .non st' h1 h2 .non h4 q, hp, fun _ _ _ _ _ _ _ _ _ q => q.elim, fun _ _ _ _ _ _ _ _ _ q => q.elim⟩⟩) (fun fl s' hs => ?_) fun e s' hs => hs
  have fin : ∀ {σ' : L2.St} {H' : Hp} {v : V} {u : Value}, Inv (cxOf CX0 P w K mg base Γ.N qual (defScope st) f cdv A outer s H E0) [] σ' H' s' → RelV v u → R v H' → CE outer P w H s R u s' :=
    fun {σ' H' v u} J rv q => ⟨v, H', J.os, J.bare, J.base, J.hok, rv, q⟩
  match fl, hs with
  | .ret u, ⟨v, σ', H', J, rv, q⟩ => exact fin J rv q
  | .next, ⟨σ', H', J, q⟩ => exact fin (v := V.non) (u := Value.none) J rfl q
  | .brk, ⟨_, _, _, q⟩ => exact q.elim
  | .cont, ⟨_, _, _, q⟩ => exact q.elim
end

/-! ## a whole program -/
structure Def where
  name : Str
  st : Stmt
  N : List Str
  ps : List Str
  body : S
  cls : Option Str := none
  qual : Str := name
structure Prg where
  defs : List Def
  pats : List Pat
  bl : List Str
  consts : List (Str × D)
  mpats : List MPat := []
  cpats : List CPat := []
  klass : List Kl := []
def Prg.T (p : Prg) (f : Nat) : Option Fd := (p.defs[f]?).map fun d => ⟨d.ps.length, d.N.length, d.body⟩
def Prg.gam (p : Prg) (d : Def) : Gam := ⟨d.N, p.pats, p.bl, p.consts, p.mpats, p.cpats⟩
/-- what the kernel checks of a def -/
structure DefOk (p : Prg) (d : Def) : Prop where
  sc : FnScope d.N d.ps (defScope d.st)
  code : cBlk (cS (p.gam d) (defScope d.st) (fun _ => true) 40 40) (defBody d.st) = some d.body
  args : ∃ as : List Arg, defArgs d.st = plainArgs as ∧ as.map (·.arg) = d.ps
structure PrgOk (p : Prg) : Prop where
  defs : ∀ d ∈ p.defs, DefOk p d
  pats : ∀ q ∈ p.pats, ∃ d, p.defs[q.f]? = some d ∧ d.name = q.name ∧ d.cls = none ∧ patFit d.ps q
  mpats : ∀ q ∈ p.mpats, q.cls ∈ p.klass ∧ ∃ d, p.defs[q.f]? = some d ∧ d.name = q.name ∧ d.cls = some q.cls.name ∧ patFit d.ps ⟨q.name, q.npos + 1, [], q.f, List.range (q.npos + 1)⟩
  cpats : ∀ q ∈ p.cpats, q.cls ∈ p.klass ∧ ∃ d, p.defs[q.f]? = some d ∧ d.name = "__init__" ∧ d.cls = some q.cls.name ∧ (q.cls.name == ("__debug__" : Str)) = false ∧ patFit d.ps ⟨"__init__", q.npos + 1, [], q.f, List.range (q.npos + 1)⟩
/-- where a def stands: in the module, in a class -/
def DefAt (K : PySem.W.Frag) (mg : Str → Option Value) (d : Def) (a : Addr) : Prop := match d.cls with
  | none => mg d.name = some (.ref a)
  | some c => ∃ C, PySem.W.nsIn K mainGlobals c = some (some (.ref C)) ∧ Meth K C d.name a
/-- what the top has left -/
structure Left (p : Prg) (K : PySem.W.Frag) (mg : Str → Option Value) : Prop where
  fns : ∀ d ∈ p.defs, ∃ a fd, DefAt K mg d a ∧ Fun K d.name d.qual d.st a fd
  bl : ∀ x ∈ p.bl, mg x = none
  consts : ∀ c ∈ p.consts, ∃ v u, mg c.1 = some u ∧ RelV v u ∧ (∀ H, DR K [] H c.2 v) ∧ (c.1 == ("__debug__" : Str)) = false
  kls : ∀ c ∈ p.klass, ∃ C, KlOk K c C ∧ mg c.name = some (.ref C)
  mks : ∀ q ∈ p.cpats, ∃ C, PySem.W.nsIn K mainGlobals q.cls.name = some (some (.ref C)) ∧ PySem.W.makesIn K C = true ∧ PySem.W.keepIn K (.ref C) = true
theorem permL_range' {α : Type} : ∀ (xs pre : List α), permL (pre ++ xs) (List.range' pre.length xs.length) = some xs
  | [], _ => rfl
  | x :: xs, pre => by
    have ih := permL_range' xs (pre ++ [x])
    rw [List.append_assoc, List.length_append] at ih
    rw [List.length_cons, List.range'_succ]
    unfold permL
    have e : (pre ++ x :: xs)[pre.length]? = some x := by simp
    rw [e]
    have ih' : permL (pre ++ x :: xs) (List.range' (pre.length + 1) xs.length) = some xs := ih
    rw [ih']
theorem permL_range {α : Type} (xs : List α) : permL xs (List.range xs.length) = some xs := by
  have := permL_range' xs []
  rw [List.range_eq_range']
  exact this
theorem run_ok {p : Prg} (ok : PrgOk p) {P : Program} {w : World} {K : PySem.W.Frag} {mg : Str → Option Value} {base : Heap} (L : Left p K mg) : ∀ (k f : Nat) (d : Def), p.defs[f]? = some d → ∃ a fd, DefAt K mg d a ∧ Fun K d.name d.qual d.st a fd ∧ FnG P w K mg base k a fd d.ps (spD K (Run p.T k) f)
  | 0, f, d, hd => by
    obtain ⟨a, fd, h1, h2⟩ := L.fns d (List.mem_of_getElem? hd)
    exact ⟨a, fd, h1, h2, ⟨fun A outer s H args us vs R hr hgd e0 hb r hl ⟨ι, ds, st0, Q, rd, rs, hw, hp⟩ => (show False from hw).elim⟩⟩
  | k + 1, f, d, hd => by
    obtain ⟨a, fd, h1, h2⟩ := L.fns d (List.mem_of_getElem? hd)
    have D := ok.defs d (List.mem_of_getElem? hd)
    have hpat : ∀ q ∈ p.pats, PatOk P w K mg base (Run p.T k) k q := fun q hq => by
      obtain ⟨d', hd', hn, hc, hfit⟩ := ok.pats q hq
      obtain ⟨a', fd', g1, g2, g3⟩ := run_ok ok (P := P) (w := w) (base := base) L k q.f d' hd'
      obtain ⟨as, ea, eps⟩ := (ok.defs d' (List.mem_of_getElem? hd')).args
      have g1' : mg d'.name = some (.ref a') := by
        unfold DefAt at g1
        rw [hc] at g1
        exact g1
      obtain ⟨oc, od, kV, doc, pm, an, cdv, ct, osl, efd, lk, hcd⟩ := g2.ex
      refine ⟨a', fd', d'.ps, by rw [← hn]; exact g1', g2.kp, g3, (permL_len hfit.1).symm, fun s us ws xs _ l1 l2 hx => ?_, hfit.2.2.2.2⟩
      rw [efd, ea]
      exact .of_eq (bind_gen eps hfit l1 l2 hx)
    have self : ∀ (d' : Def) (a' : Addr) (fd' : FuncData) (x : Str) (n j : Nat), d' ∈ p.defs → Fun K d'.name d'.qual d'.st a' fd' → patFit d'.ps ⟨x, n + 1, [], j, List.range (n + 1)⟩ → SelfBinds K fd' d'.ps n := fun d' a' fd' x n j hm g2 hfit => by
      obtain ⟨as, ea, eps⟩ := (ok.defs d' hm).args
      obtain ⟨oc, od, kV, doc, pm, an, cdv, ct, osl, efd, lk, hcd⟩ := g2.ex
      refine ⟨by have := permL_len hfit.1; simpa using this, fun s u0 us _ hl => ?_⟩
      rw [efd, ea]
      have hx : permL ((u0 :: us) ++ []) (List.range (n + 1)) = some (u0 :: us) := by
        have := permL_range (u0 :: us)
        rw [List.length_cons, hl] at this
        rw [List.append_nil]
        exact this
      exact .of_eq (bind_gen (p := ⟨x, n + 1, [], j, List.range (n + 1)⟩) eps hfit (us := u0 :: us) (ws := []) (by simp [hl]) rfl hx)
    have hmp : ∀ q ∈ p.mpats, MPatOk P w K mg base (Run p.T k) k q := fun q hq => by
      obtain ⟨hk, d', hd', hn, hc, hfit⟩ := ok.mpats q hq
      obtain ⟨C, hC, _⟩ := L.kls q.cls hk
      obtain ⟨a', fd', g1, g2, g3⟩ := run_ok ok (P := P) (w := w) (base := base) L k q.f d' hd'
      unfold DefAt at g1
      rw [hc] at g1
      obtain ⟨C', e1, e2⟩ := g1
      have e3 := hC.at_.symm.trans e1
      cases e3
      exact ⟨C, a', fd', d'.ps, hC, by rw [← hn]; exact e2, g3, self d' a' fd' _ _ _ (List.mem_of_getElem? hd') g2 hfit⟩
    have hcp : ∀ q ∈ p.cpats, CPatOk P w K mg base (Run p.T k) k q := fun q hq => by
      obtain ⟨hk, d', hd', hn, hc, hdb, hfit⟩ := ok.cpats q hq
      obtain ⟨C, hC, hmC⟩ := L.kls q.cls hk
      obtain ⟨C2, k1, k2, k3⟩ := L.mks q hq
      obtain ⟨a', fd', g1, g2, g3⟩ := run_ok ok (P := P) (w := w) (base := base) L k q.f d' hd'
      unfold DefAt at g1
      rw [hc] at g1
      obtain ⟨C', e1, e2⟩ := g1
      have e3 := hC.at_.symm.trans e1
      cases e3
      have e4 := hC.at_.symm.trans k1
      cases e4
      have e5 : Meth K C "__init__" a' := by rw [← hn]; exact e2
      exact ⟨C, a', fd', d'.ps, hC, hmC, ⟨k2, e5.at_, e5.fn, k3⟩, g3, self d' a' fd' _ _ _ (List.mem_of_getElem? hd') g2 hfit, hdb⟩
    have G := fn_body (P := P) (w := w) (base := base) (Γ := p.gam d) h2 D.sc D.code L.bl hpat L.consts hmp hcp
    refine ⟨a, fd, h1, h2, ⟨fun A outer s H args us vs R hr hgd e0 hb r hl ⟨ι, ds, st0, Q, rd, rs, hw, hp⟩ => G.run A outer s H args us vs R hr hgd e0 hb r hl ⟨ι, ds, st0, Q, rd, rs, ?_, hp⟩⟩⟩
    obtain ⟨fd', ef, hlen, hw⟩ := hw
    unfold Prg.T at ef
    rw [hd] at ef
    cases ef
    exact hw
end Cb

namespace Cb
open PySem PySem.Spec PyProof.Rows L2
/-! ## the end: from the semantics' promise to the row -/
/-- no list stands among the module's own objects (so the script is none of them) -/
def noLst (K : PySem.W.Frag) : Bool := K.all fun p => match p.2.data with
  | .seq _ _ => !(p.2.cls == .type "list")
  | _ => true
theorem mem_of_lookup {α : Type} : ∀ {K : List (Addr × α)} {a : Addr} {o : α}, K.lookup a = some o → (a, o) ∈ K
  | [], _, _, h => by cases h
  | (b, u) :: K, a, o, h => by
    rw [List.lookup_cons] at h
    split at h
    · rename_i e
      obtain rfl : a = b := by simpa using e
      cases h
      exact List.mem_cons_self
    · exact List.mem_cons_of_mem _ (mem_of_lookup h)
theorem noLst_ok {K : PySem.W.Frag} (h : noLst K = true) {a : Addr} {its : Array Value} (e : K.lookup a = some { cls := .type "list", data := .seq its }) : False := by
  have h1 := List.all_eq_true.mp h _ (mem_of_lookup e)
  have h2 : (!((Value.type "list" : Value) == .type "list")) = true := h1
  simp at h2
theorem drs_ints {K : PySem.W.Frag} {ι : List Addr} {H : Hp} : ∀ (ns : List Int), DRs K ι H (ns.map D.int) (ns.map V.int)
  | [] => .nil
  | n :: ns => .cons (.int n) (drs_ints ns)
theorem law_run {P : Program} {w : World} {K : PySem.W.Frag} {mg mb : Str → Option Value} {p : Prg} {k ix : Nat} {dd : Def} {x : Str} {fa a : Addr} {s₁ : Shared} {vs : List Value} {ns : List Int}
    (ok : PrgOk p) (L : Left p K mg) (hd : p.defs[ix]? = some dd) (hps : dd.ps = [x]) (hcl : dd.cls = none) (hfa : mg dd.name = some (.ref fa)) (nl : noLst K = true)
    (KX : K.In s₁.heap) (hns : s₁.heap.Ns mainGlobals mg) (hb : s₁.heap.Ns builtinsNs mb) (hbb : ∀ x : Str, x ≠ "__name__" → mb x = bootBuiltins x) (hlim : s₁.heap.NoLimit) (hg : s₁.gens = #[])
    (ha : s₁.heap.get? a = some { cls := .type "list", data := .seq vs.toArray }) (hi : IntsAre vs ns) (hl : ns.length ≤ sizeLine) (hr : RoomM k callerA)
    (hsp : Run p.T k ix [.ref 0] [.frz (ns.map D.int)] fun d _ => d = .bl true) :
    codeAny (model P w) callerA (.call (.ref fa) ⟨[.ref a], []⟩) (fun r s' => r = .ok (.ret (.bool true)) ∧ OldK s₁.heap s'.heap ∧ s'.os = s₁.os ∧ AllBare s'.gens) s₁ := by
  have rv := vals_ints hi
  have hKa : K.lookup a = none := by
    cases e : K.lookup a with
    | none => rfl
    | some o =>
      have := KX _ _ e
      rw [ha] at this
      cases this
      exact (noLst_ok nl e).elim
  let H : Hp := fun b => if b = a then some (.frz { cls := .type "list", data := .seq vs.toArray } (.lst (ns.map V.int))) else none
  have Ha : H a = some (.frz { cls := .type "list", data := .seq vs.toArray } (.lst (ns.map V.int))) := if_pos rfl
  have Hn : ∀ {b : Addr}, b ≠ a → H b = none := fun h => if_neg h
  have noA : ∀ {b : Addr} {o : Obj} {es : Array DictEntry} {ep : Nat}, s₁.heap.get? b = some o → o.data = .dict es ep → H b = none := fun {b o es ep} e d => Hn fun q => by
    subst q
    rw [ha] at e
    cases e
    have d' : Data.seq vs.toArray _ = Data.dict es ep := d
    cases d'
  have nsK : ∀ {b : Addr} {m : Str → Option Value}, s₁.heap.Ns b m → (hidT s₁.heap H).Ns b m := fun {b m} ⟨o, es, ep, e, d, r⟩ => ⟨o, es, ep, hidT_get e (noA e d), d, r⟩
  have hKb : K.In (hidT s₁.heap H) := fun b o e => hidT_get (KX b o e) (Hn fun q => by subst q; rw [hKa] at e; cases e)
  have hM : Mod K mg (hidT s₁.heap H) := ⟨hKb, nsK hns, ⟨mb, nsK hb, hbb⟩, let ⟨mc, h1, h2⟩ := hlim; ⟨mc, nsK h1, h2⟩⟩
  have hok : HOk P w H s₁.heap := fun b u z => by
    by_cases q : b = a
    · subst q
      have z' := Ha.symm.trans z
      cases z'
      exact ⟨ha, by rw [List.length_map]; exact hl, vs, _, rv, ha⟩
    · rw [Hn q] at z
      cases z
  have e0 : Env0 P w K mg (hidT s₁.heap H) callerA [] s₁ H := ⟨rfl, hM, fun b o e => of_hidT e, Nat.le_of_eq (hidT_size _ _), trivial, fun b hb => absurd (show b ∈ ([] : List Addr) from hb) (by simp), hok, .of_eq hg⟩
  obtain ⟨a', fd, g1, g2, G⟩ := run_ok (P := P) (w := w) (base := hidT s₁.heap H) ok L k ix dd hd
  have g1' : mg dd.name = some (.ref a') := by
    unfold DefAt at g1
    rw [hcl] at g1
    exact g1
  rw [g1'] at hfa
  cases hfa
  have hbind : BindsTo s₁ fd ⟨[.ref a], []⟩ (dd.ps.zip [Value.ref a]) := by
    obtain ⟨as, ea, eps⟩ := (ok.defs dd (List.mem_of_getElem? hd)).args
    obtain ⟨oc, od, kV, doc, pm, an, cdv, ct, osl, efd, lk, hcd⟩ := g2.ex
    rw [efd, ea]
    exact .of_eq (bind_gen (p := ⟨"f", 1, [], 0, [0]⟩) eps (by rw [hps]; exact ⟨rfl, by simp, by simp, by simp, rfl⟩) (us := [.ref a]) (ws := []) rfl rfl rfl)
  have hsp' : spD K (Run p.T k) ix [.ref a] H (fun v _ => v = .bl true) := by
    refine ⟨[a], [.ref 0], [.frz (ns.map D.int)], _, .cons (.ref rfl) .nil, ⟨rfl, by simp, fun n c b hc hb => ?_⟩, hsp, fun v H' ι' d st' _ _ rd _ q => ?_⟩
    · match n, hc, hb with
      | 0, hc, hb =>
        cases hc
        cases hb
        exact ⟨_, _, Ha, drs_ints ns⟩
      | n + 1, hc, _ => simp at hc
    · have q' : d = .bl true := q
      subst q'
      cases rd
      rfl
  refine codeAny_mono (G.run callerA [] s₁ H ⟨[.ref a], []⟩ [.ref a] [.ref a] _ hr rfl e0 hbind (.cons rfl .nil) (by rw [hps]; rfl) hsp') fun r s' h => ?_
  cases r with
  | error e => exact False.elim h
  | ok fl =>
    cases fl with
    | next => exact False.elim h
    | brk => exact False.elim h
    | cont => exact False.elim h
    | ret u =>
      obtain ⟨v, H', os, bare, un, hok', r', q⟩ := h
      have q' : v = .bl true := q
      subst q'
      obtain rfl : u = Value.bool true := r'
      refine ⟨rfl, OldK.of_keep fun b o e => ?_, os, bare⟩
      by_cases q : b = a
      · subst q
        have z2 := un.frzs b _ _ Ha
        obtain ⟨e1, _⟩ := hok b _ Ha
        obtain ⟨e2, _⟩ := hok' b _ z2
        rw [e] at e1
        cases e1
        exact e2
      · exact un.keep b o e (Hn q) (by intro z; exact absurd (show b ∈ ([] : List Addr) from z) (by simp)) (by simp)
theorem walk_prg {l : PySem.W.OpenLaw} {n k ix : Nat} {q : Program} {loose : List Str} {XP : (Str → Option Value) → Heap → Prop} {YP : World → Heap → Prop} {d : DefRec} {K : Params → PySem.W.Frag} {p : Prg} {dd : Def} {x : Str}
    (hn : l.most = some n) (hn2 : n ≤ sizeLine) (hdf : d.params.defaults = []) (hr : RoomM k callerA)
    (hY : ∀ (w : World) (h : Heap), YP w h → (K w.params).In h) (nl : ∀ w : World, noLst (K w.params) = true)
    (ok : PrgOk p) (hd : p.defs[ix]? = some dd) (hps : dd.ps = [x]) (hname : d.name = dd.name) (hcl : dd.cls = none)
    (F : ∀ (w : World) (mg : Str → Option Value) (h : Heap), (K w.params).In h → h.Ns mainGlobals mg → Left p (K w.params) mg)
    (hsp : ∀ ns : List Int, ns.length ≤ n → Run p.T k ix [.ref 0] [.frz (ns.map D.int)] fun d _ => d = .bl true) :
    PySem.W.WalkO q loose XP YP l.row.toRowW d [] (fun f vs => PySem.call f vs) := by
  refine Att.attach_call hn hdf fun w s₀ s₁ mg mb fa o pm cd doc a vs ns G Y ho hd' hcd hmg hobj hints hlen hg => ?_
  have KX := hY w _ Y
  exact law_run ok (F w mg _ KX G.T.g) hd hps hcl (by rw [← hname]; exact hmg) (nl w) KX G.T.g G.T.b G.T.builtins G.T.nolimit hg hobj hints (Nat.le_trans hlen hn2) hr (hsp ns hlen)
/-- where a def stands -/
def AtD (K : PySem.W.Frag) (d : Def) (f : Addr) : Prop := match d.cls with
  | none => PySem.W.nsIn K mainGlobals d.name = some (some (.ref f))
  | some c => ∃ C, PySem.W.nsIn K mainGlobals c = some (some (.ref C)) ∧ PySem.W.findIn K (.ref C) d.name = some (some (.ref f)) ∧ PySem.W.isFn K (.ref f) = true
/-- one def of those that the top has left -/
structure LeftD (K : PySem.W.Frag) (d : Def) : Prop where
  ex : ∃ (f : Addr) (oc : Value) (od an : Option Addr) (osl : Array (Option Value)) (kV doc pm cdv ct : Value), AtD K d f ∧ K.lookup f = some ⟨oc, od, .func (PySem.W.fnOf d.name d.qual (defArgs d.st) (defBody d.st) (defScope d.st) .none kV doc pm an cdv ct), osl⟩ ∧ PySem.W.codeIn K cdv d.qual = true ∧ PySem.W.keepIn K (.ref f) = true
theorem LeftD.mk' {K : PySem.W.Frag} {x : Str} {st : Stmt} {N ps : List Str} {c : S} {f : Addr} {oc : Value} {od an : Option Addr} {osl : Array (Option Value)} {kV doc pm cdv ct : Value} (h1 : PySem.W.nsIn K mainGlobals x = some (some (.ref f)))
    (h2 : K.lookup f = some ⟨oc, od, .func (PySem.W.fnOf x x (defArgs st) (defBody st) (defScope st) .none kV doc pm an cdv ct), osl⟩) (h3 : PySem.W.codeIn K cdv x = true) (h4 : PySem.W.keepIn K (.ref f) = true) : LeftD K ⟨x, st, N, ps, c, none, x⟩ :=
  ⟨f, oc, od, an, osl, kV, doc, pm, cdv, ct, h1, h2, h3, h4⟩
theorem LeftD.mkM {K : PySem.W.Frag} {x cn q : Str} {st : Stmt} {N ps : List Str} {c : S} {f C : Addr} {oc : Value} {od an : Option Addr} {osl : Array (Option Value)} {kV doc pm cdv ct : Value} (h0 : PySem.W.nsIn K mainGlobals cn = some (some (.ref C))) (h1 : PySem.W.findIn K (.ref C) x = some (some (.ref f)))
    (h2 : K.lookup f = some ⟨oc, od, .func (PySem.W.fnOf x q (defArgs st) (defBody st) (defScope st) .none kV doc pm an cdv ct), osl⟩) (h3 : PySem.W.codeIn K cdv q = true) (h4 : PySem.W.keepIn K (.ref f) = true) (h5 : PySem.W.isFn K (.ref f) = true) : LeftD K ⟨x, st, N, ps, c, some cn, q⟩ :=
  ⟨f, oc, od, an, osl, kV, doc, pm, cdv, ct, ⟨C, h0, h1, h5⟩, h2, h3, h4⟩
/-- no class of it has the name -/
def noB : Option (Option Value) → Bool
  | some none => true
  | _ => false
structure LeftK (K : PySem.W.Frag) (c : Kl) : Prop where
  ex : ∃ C, PySem.W.nsIn K mainGlobals c.name = some (some (.ref C)) ∧ Cls K C ∧ (c.names.all fun f => noB (PySem.W.findIn K (.ref C) f)) = true
theorem LeftK.mk' {K : PySem.W.Frag} {c : Kl} {C : Addr} (h1 : PySem.W.nsIn K mainGlobals c.name = some (some (.ref C))) (h2 : PySem.W.plainGet K C Str.empty = true) (h3 : PySem.W.hasDictIn K C = true) (h4 : PySem.W.plainOver K C = true)
    (h5 : PySem.W.findIn K (.ref C) "__setattr__" = some (some (.builtin "object.__setattr__"))) (h6 : (c.names.all fun f => noB (PySem.W.findIn K (.ref C) f)) = true) : LeftK K c := ⟨C, h1, ⟨h2, h3, h4, h5⟩, h6⟩
structure LeftP (K : PySem.W.Frag) (q : CPat) : Prop where
  ex : ∃ C, PySem.W.nsIn K mainGlobals q.cls.name = some (some (.ref C)) ∧ PySem.W.makesIn K C = true ∧ PySem.W.keepIn K (.ref C) = true
theorem LeftP.mk' {K : PySem.W.Frag} {q : CPat} {C : Addr} (h1 : PySem.W.nsIn K mainGlobals q.cls.name = some (some (.ref C))) (h2 : PySem.W.makesIn K C = true) (h3 : PySem.W.keepIn K (.ref C) = true) : LeftP K q := ⟨C, h1, h2, h3⟩
/-- a constant of the top -/
def litD : Value → Option D
  | .int i _ => some (.int i)
  | .str s _ => some (.str s)
  | .bool b => some (.bl b)
  | .none => some .non
  | _ => none
theorem litD_ok {u : Value} {d : D} (h : litD u = some d) : ∃ v, RelV v u ∧ ∀ (K : PySem.W.Frag) (H : Hp), DR K [] H d v := by
  cases u <;> cases h
  · exact ⟨.non, rfl, fun _ _ => .non⟩
  · exact ⟨.bl _, rfl, fun _ _ => .bl _⟩
  · exact ⟨.int _, ⟨_, rfl⟩, fun _ _ => .int _⟩
  · exact ⟨.str _, ⟨_, rfl⟩, fun _ _ => .str _⟩
/-- .. or a tuple of such -/
def datK (K : PySem.W.Frag) : Nat → Value → Option D
  | 0, u => litD u
  | n + 1, u => match u with
    | .ref a => match K.lookup a with
      | some o => if (o.cls == .type "tuple") = true then (match o.data with
        | .seq its _ => if its.size ≤ sizeLine then (mapO (datK K n) its.toList).map .tup else none
        | _ => none) else none
      | none => none
    | u => litD u
theorem datAll_ok {K : PySem.W.Frag} {f : Value → Option D} (hf : ∀ u d, f u = some d → ∃ v, RelV v u ∧ ∀ H : Hp, DR K [] H d v) : ∀ {us : List Value} {ds : List D}, mapO f us = some ds → ∃ vs, Vals vs us ∧ ∀ H : Hp, DRs K [] H ds vs
  | [], ds, h => by
    cases h
    exact ⟨[], .nil, fun _ => .nil⟩
  | u :: us, ds, h => by
    simp only [mapO] at h
    split at h
    · rename_i y ys e1 e2
      cases h
      obtain ⟨v, r, rd⟩ := hf u y e1
      obtain ⟨vs, rs, rds⟩ := datAll_ok hf e2
      exact ⟨v :: vs, .cons r rs, fun H => .cons (rd H) (rds H)⟩
    · cases h
theorem datK_ok {K : PySem.W.Frag} : ∀ (n : Nat) (u : Value) (d : D), datK K n u = some d → ∃ v, RelV v u ∧ ∀ H : Hp, DR K [] H d v
  | 0, u, d, h => by
    obtain ⟨v, r, rd⟩ := litD_ok h
    exact ⟨v, r, rd K⟩
  | n + 1, u, d, h => by
    cases u with
    | ref a =>
      simp only [datK] at h
      split at h
      · rename_i o e
        split at h
        · rename_i hc
          split at h
          · rename_i its k hd
            split at h
            · rename_i hz
              obtain ⟨ds, e2, e3⟩ := Option.map_eq_some_iff.mp h
              subst e3
              obtain ⟨vs, rs, rds⟩ := datAll_ok (datK_ok n) e2
              exact ⟨.ref a, rfl, fun H => .tup (.inr ⟨o, its, k, e, eq_of_beq hc, hd, hz, rs⟩) (rds H)⟩
            · cases h
          · cases h
        · cases h
      · cases h
    | _ =>
      simp only [datK] at h
      obtain ⟨v, r, rd⟩ := litD_ok h
      exact ⟨v, r, rd K⟩
structure LeftC (K : PySem.W.Frag) (c : Str × D) : Prop where
  ex : ∃ u, PySem.W.nsIn K mainGlobals c.1 = some (some u) ∧ datK K 6 u = some c.2 ∧ (c.1 == ("__debug__" : Str)) = false
theorem LeftC.mk' {K : PySem.W.Frag} {c : Str × D} {u : Value} (h1 : PySem.W.nsIn K mainGlobals c.1 = some (some u)) (h2 : datK K 6 u = some c.2) (h3 : (c.1 == ("__debug__" : Str)) = false) : LeftC K c := ⟨u, h1, h2, h3⟩
theorem left_of {p : Prg} {K : PySem.W.Frag} {mg : Str → Option Value} {h : Heap} (KX : K.In h) (G : h.Ns mainGlobals mg) (hd : ∀ d ∈ p.defs, LeftD K d) (hb : ∀ x ∈ p.bl, PySem.W.nsIn K mainGlobals x = some none) (hc : ∀ c ∈ p.consts, LeftC K c) (hk : ∀ c ∈ p.klass, LeftK K c := by (intro c hc; cases hc)) (hq : ∀ q ∈ p.cpats, LeftP K q := by (intro c hc; cases hc)) : Left p K mg := by
  refine ⟨fun d hm => ?_, fun x hm => PySem.W.mg_none_of KX G (hb x hm), fun c hm => ?_, fun c hm => ?_, fun q hm => ?_⟩
  · obtain ⟨f, oc, od, an, osl, kV, doc, pm, cdv, ct, h1, h2, h3, h4⟩ := (hd d hm).ex
    refine ⟨f, _, ?_, fun_mk h2 h3 h4⟩
    unfold AtD at h1
    unfold DefAt
    split
    · rename_i e
      rw [e] at h1
      exact PySem.W.mg_of KX G h1
    · rename_i c e
      rw [e] at h1
      obtain ⟨C, g1, g2, g3⟩ := h1
      exact ⟨C, g1, g2, g3, h4⟩
  · obtain ⟨u, h1, h2, h3⟩ := (hc c hm).ex
    obtain ⟨v, r, rd⟩ := datK_ok 6 u _ h2
    exact ⟨v, u, PySem.W.mg_of KX G h1, r, rd, h3⟩
  · obtain ⟨C, h1, h2, h3⟩ := (hk c hm).ex
    refine ⟨C, ⟨h1, h2, fun f hf => ?_⟩, PySem.W.mg_of KX G h1⟩
    have := List.all_eq_true.mp h3 f hf
    unfold NoAttr
    cases e : PySem.W.findIn K (.ref C) f with
    | none => rw [e] at this; cases this
    | some o =>
      cases o with
      | none => rfl
      | some u => rw [e] at this; cases this
  · exact (hq q hm).ex
end Cb

namespace Cb
open PySem PySem.Spec PyProof.Rows L2
/-! ## tools for the plain part: how codes are read -/
/-- a test's two ways -/
def Br (x : D) (A B : Prop) : Prop := ∃ t, x = .bl t ∧ if t = true then A else B
theorem Br.dec {p : Prop} [Decidable p] {A B : Prop} (h1 : p → A) (h2 : ¬ p → B) : Br (.bl (decide p)) A B := by
  by_cases h : p
  · exact ⟨_, rfl, by rw [if_pos (decide_eq_true h)]; exact h1 h⟩
  · exact ⟨_, rfl, by rw [if_neg (by simpa using h)]; exact h2 h⟩
theorem Br.b {b : Bool} {A B : Prop} (h1 : b = true → A) (h2 : b = false → B) : Br (.bl b) A B := by
  cases b
  · exact ⟨_, rfl, h2 rfl⟩
  · exact ⟨_, rfl, h1 rfl⟩
@[simp] theorem br_t {A B : Prop} : Br (.bl true) A B ↔ A := by simp [Br]
@[simp] theorem br_f {A B : Prop} : Br (.bl false) A B ↔ B := by simp [Br]
/-- the rest stays folded -/
theorem seq_i {F : Fm} {a r : S} {ρ : Env1} {st : Store} {E : EndsD} (h : ∀ X : Env1 → Store → Prop, (∀ ρ st, wps F r ρ st E → X ρ st) → wps F a ρ st ⟨X, E.rt, E.bk, E.ct⟩) : wps F (.seq a r) ρ st E := h _ fun _ _ h => h
theorem ite_i {F : Fm} {c : C} {a r : S} {ρ : Env1} {st : Store} {E : EndsD} (h : ∀ A B : Store → Prop, (∀ st, wps F a ρ st E → A st) → (∀ st, wps F r ρ st E → B st) → wp F c ρ st fun x st1 => Br x (A st1) (B st1)) : wps F (.ite c a r) ρ st E := h _ _ (fun _ h => h) fun _ h => h
section
variable {F : Fm} {ρ : Env1} {st : Store} {Q : K1} {E : EndsD} {a b c : C} {as kw : C} {i : Nat} {x y : D}
@[simp] theorem wp_var : wp F (.var i) ρ st Q ↔ ∃ d, ρ[i]? = some (some d) ∧ Q d st := Iff.rfl
@[simp] theorem wp_cst : wp F (.cst x) ρ st Q ↔ Q x st := Iff.rfl
@[simp] theorem wp_nil : wp F .nil ρ st Q ↔ Q (.tup []) st := Iff.rfl
@[simp] theorem wp_cons : wp F (.cons a as) ρ st Q ↔ wp F a ρ st fun x st1 => wp F as ρ st1 fun y st2 => ∃ xs, y = .tup xs ∧ Q (.tup (x :: xs)) st2 := Iff.rfl
@[simp] theorem wp_tup : wp F (.tup as) ρ st Q ↔ wp F as ρ st fun y st1 => ∃ xs, y = .tup xs ∧ xs.length ≤ sizeLine ∧ Q (.tup xs) st1 := Iff.rfl
@[simp] theorem wp_lst : wp F (.lst as) ρ st Q ↔ wp F as ρ st fun y st1 => ∃ xs, y = .tup xs ∧ xs.length ≤ sizeLine ∧ Q (.ref st1.length) (st1 ++ [.lst xs]) := Iff.rfl
@[simp] theorem wp_bin {o : Bop} : wp F (.bin o a b) ρ st Q ↔ wp F a ρ st fun x st1 => wp F b ρ st1 fun y st2 => binS o x y st2 Q := Iff.rfl
@[simp] theorem wp_neg : wp F (.neg a) ρ st Q ↔ wp F a ρ st fun x st1 => ∃ i, x = .int i ∧ Q (.int (-i)) st1 := Iff.rfl
@[simp] theorem wp_cmp {o : Cop} : wp F (.cmp o a b) ρ st Q ↔ wp F a ρ st fun x st1 => wp F b ρ st1 fun y st2 => cmpS o x y st2 Q := Iff.rfl
@[simp] theorem wp_chain {o o2 : Cop} : wp F (.chain o o2 a b c) ρ st Q ↔ wp F a ρ st fun x st1 => wp F b ρ st1 fun y st2 => cmpS o x y st2 fun z st3 => Br z (wp F c ρ st3 fun w st4 => cmpS o2 y w st4 Q) (Q (.bl false) st3) := Iff.rfl
@[simp] theorem wp_chain3 {o o2 o3 : Cop} {d : C} : wp F (.chain3 o o2 o3 a b c d) ρ st Q ↔ wp F a ρ st fun x st1 => wp F b ρ st1 fun y st2 => cmpS o x y st2 fun z st3 => Br z (wp F c ρ st3 fun w st4 => cmpS o2 y w st4 fun z st5 => Br z (wp F d ρ st5 fun v st6 => cmpS o3 w v st6 Q) (Q (.bl false) st5)) (Q (.bl false) st3) := Iff.rfl
@[simp] theorem wp_and : wp F (.and a b) ρ st Q ↔ wp F a ρ st fun x st1 => som (truS st1 x) fun t => if t = true then wp F b ρ st1 Q else Q x st1 := Iff.rfl
@[simp] theorem wp_or : wp F (.or a b) ρ st Q ↔ wp F a ρ st fun x st1 => som (truS st1 x) fun t => if t = true then Q x st1 else wp F b ρ st1 Q := Iff.rfl
@[simp] theorem wp_tval : wp F (.tval a) ρ st Q ↔ wp F a ρ st fun x st1 => som (truS st1 x) fun t => Q (.bl t) st1 := Iff.rfl
@[simp] theorem wp_tand : wp F (.tand a b) ρ st Q ↔ wp F a ρ st fun x st1 => Br x (wp F b ρ st1 Q) (Q (.bl false) st1) := Iff.rfl
@[simp] theorem wp_tor : wp F (.tor a b) ρ st Q ↔ wp F a ρ st fun x st1 => Br x (Q (.bl true) st1) (wp F b ρ st1 Q) := Iff.rfl
@[simp] theorem wp_tnot : wp F (.tnot a) ρ st Q ↔ wp F a ρ st fun x st1 => ∃ t, x = .bl t ∧ Q (.bl (!t)) st1 := Iff.rfl
@[simp] theorem wp_ite : wp F (.ite c a b) ρ st Q ↔ wp F c ρ st fun x st1 => Br x (wp F a ρ st1 Q) (wp F b ρ st1 Q) := Iff.rfl
@[simp] theorem wp_idx : wp F (.idx a b) ρ st Q ↔ wp F a ρ st fun x st1 => wp F b ρ st1 fun y st2 => som (idxS st2 x y) fun z => Q z st2 := Iff.rfl
@[simp] theorem wp_slc {fl fh : Bool} {lo hi : C} : wp F (.slc fl fh a lo hi) ρ st Q ↔ wp F a ρ st fun x st1 => wp F lo ρ st1 fun l st2 => som (partS fl l) fun l => wp F hi ρ st2 fun h st3 => som (partS fh h) fun h => slcS x l h st3 Q := Iff.rfl
@[simp] theorem wp_revL : wp F (.revL a) ρ st Q ↔ wp F a ρ st fun x st1 => som (listS st1 x) fun xs => Q (.ref st1.length) (st1 ++ [.lst xs.reverse]) := Iff.rfl
@[simp] theorem wp_call {f n m : Nat} {perm : List Nat} : wp F (.call f n m perm as kw) ρ st Q ↔ wp F as ρ st fun y st1 => ∃ xs, y = .tup xs ∧ wp F kw ρ st1 fun z st2 => ∃ zs, z = .tup zs ∧ som (permN n m xs zs perm) fun ys => F f ys st2 Q := Iff.rfl
@[simp] theorem wp_blt {o : Blt} : wp F (.blt o as) ρ st Q ↔ wp F as ρ st fun y st1 => ∃ xs, y = .tup xs ∧ bltS o xs st1 Q := Iff.rfl
@[simp] theorem wp_mth {m : Mth} {o : C} : wp F (.mth m o as) ρ st Q ↔ wp F o ρ st fun x st1 => som (listS st1 x) fun _ => wp F as ρ st1 fun y st2 => ∃ xs, y = .tup xs ∧ mthS m x xs st2 Q := Iff.rfl
@[simp] theorem wp_isi {ts : List Ty} : wp F (.isi a ts) ρ st Q ↔ wp F a ρ st fun x st1 => som (tyOf st1 x) fun t => Q (.bl (ts.any fun u => isTy t u)) st1 := Iff.rfl
@[simp] theorem wp_lc {own : List Nat} {tg : Tg} {k : Ik} {e : C} : wp F (.lc own tg k as c e) ρ st Q ↔ wp F as ρ st fun y st1 => ∃ xs, y = .tup xs ∧ som (itOf k xs st1) fun it =>
      ∃ n, lcLoop it.step (fun d => setTg tg d (wipeD ρ own)) (wp F c) (wp F e) Q n 0 [] st1 := Iff.rfl
@[simp] theorem wp_dsp {ks : List Key} : wp F (.dsp ks as) ρ st Q ↔ wp F as ρ st fun y st1 => ∃ xs, y = .tup xs ∧ Q (.ref st1.length) (st1 ++ [.dct (ks.zip xs)]) := Iff.rfl
variable {s r : S} {e : C} {t : Tg} {k : Ik}
@[simp] theorem wps_done : wps F .done ρ st E ↔ E.nx ρ st := Iff.rfl
theorem wps_seq : wps F (.seq s r) ρ st E ↔ wps F s ρ st ⟨fun ρ1 st1 => wps F r ρ1 st1 E, E.rt, E.bk, E.ct⟩ := Iff.rfl
@[simp] theorem wps_asg : wps F (.asg t e) ρ st E ↔ wp F e ρ st fun x st1 => som (setTg t x ρ) fun ρ1 => E.nx ρ1 st1 := Iff.rfl
@[simp] theorem wps_par {is : List Nat} : wps F (.par is as) ρ st E ↔ wp F as ρ st fun y st1 => ∃ xs, y = .tup xs ∧ som (setPar is xs ρ) fun ρ1 => E.nx ρ1 st1 := Iff.rfl
@[simp] theorem wps_sto : wps F (.sto e a b) ρ st E ↔ wp F e ρ st fun v st1 => wp F a ρ st1 fun x st2 => wp F b ρ st2 fun k st3 => stoS x k v st3 fun st4 => E.nx ρ st4 := Iff.rfl
@[simp] theorem wp_fld {f : Str} : wp F (.fld a f) ρ st Q ↔ wp F a ρ st fun x st1 => som (fldS st1 x f) fun v => Q v st1 := Iff.rfl
@[simp] theorem wp_mcl {c : Kl} {m : Str} {f n : Nat} {o as : C} : wp F (.mcl c m f n o as) ρ st Q ↔ wp F o ρ st fun x st1 => (∃ i fs, x = .ref i ∧ st1[i]? = some (.ins c fs)) ∧ wp F as ρ st1 fun y st2 => ∃ xs, y = .tup xs ∧ xs.length = n ∧ F f (x :: xs) st2 Q := Iff.rfl
@[simp] theorem wp_mk {c : Kl} {f n : Nat} {as : C} : wp F (.mk c f n as) ρ st Q ↔ wp F as ρ st fun y st1 => ∃ xs, y = .tup xs ∧ xs.length = n ∧ F f (.ref st1.length :: xs) (st1 ++ [.ins c []]) fun v st2 => v = .non ∧ Q (.ref st1.length) st2 := Iff.rfl
@[simp] theorem wps_sfd {f : Str} : wps F (.sfd e a f) ρ st E ↔ wp F e ρ st fun v st1 => wp F a ρ st1 fun x st2 => sfdS x f v st2 fun st3 => E.nx ρ st3 := Iff.rfl
@[simp] theorem wps_afd {f : Str} {o : Bop} : wps F (.afd a f o e) ρ st E ↔ wp F a ρ st fun x st1 => ∃ n c fs v, x = .ref n ∧ st1[n]? = some (.ins c fs) ∧ fs.lookup f = some v ∧ wp F e ρ st1 fun y st2 => ∃ i j, v = .int i ∧ y = .int j ∧ binS o v y st2 fun z st3 => ∃ fs', st3[n]? = some (.ins c fs') ∧ f ∈ c.names ∧ fs'.length < 1000 ∧ E.nx ρ (st3.set n (.ins c (putFD f z fs'))) := Iff.rfl
@[simp] theorem wps_sto2 {j : C} {a b i : C} : wps F (.sto2 e a i b j) ρ st E ↔ wp F e ρ st fun y st1 => ∃ v w, y = .tup [v, w] ∧ wp F a ρ st1 fun x st2 => wp F i ρ st2 fun k st3 => stoS x k v st3 fun st4 => wp F b ρ st4 fun x' st5 => wp F j ρ st5 fun k' st6 => stoS x' k' w st6 fun st7 => E.nx ρ st7 := Iff.rfl
@[simp] theorem wps_aug {o : Bop} : wps F (.aug i o e) ρ st E ↔ ∃ x, ρ[i]? = some (some x) ∧ wp F e ρ st fun y st1 => ∃ a b, x = .int a ∧ y = .int b ∧ binS o x y st1 fun z st2 => E.nx (ρ.set i (some z)) st2 := Iff.rfl
@[simp] theorem wps_expr : wps F (.expr e) ρ st E ↔ wp F e ρ st fun _ st1 => E.nx ρ st1 := Iff.rfl
@[simp] theorem wps_ret : wps F (.ret e) ρ st E ↔ wp F e ρ st E.rt := Iff.rfl
@[simp] theorem wps_retN : wps F .retN ρ st E ↔ E.rt .non st := Iff.rfl
theorem wps_ite : wps F (.ite e s r) ρ st E ↔ wp F e ρ st fun x st1 => Br x (wps F s ρ st1 E) (wps F r ρ st1 E) := Iff.rfl
@[simp] theorem wps_loop : wps F (.loop t k as s) ρ st E ↔ wp F as ρ st fun y st1 => ∃ xs, y = .tup xs ∧ som (itOf k xs st1) fun it =>
      ∃ n, forLoop it.step (fun d ρ => setTg t d ρ) (wps F s) E n 0 ρ st1 := Iff.rfl
@[simp] theorem wps_whil : wps F (.whil e s) ρ st E ↔ ∃ n, whileLoop (wp F e) (wps F s) E n ρ st := Iff.rfl
@[simp] theorem wps_brk : wps F .brk ρ st E ↔ E.bk ρ st := Iff.rfl
@[simp] theorem wps_cont : wps F .cont ρ st E ↔ E.ct ρ st := Iff.rfl
@[simp] theorem wps_pass : wps F .pass ρ st E ↔ E.nx ρ st := Iff.rfl
@[simp] theorem wps_never : wps F .never ρ st E ↔ False := Iff.rfl
end
section
variable {st : Store} {Q : K1} {i j : Int} {x y : D} {xs ys : List D}
@[simp] theorem b_add : binS .add (.int i) (.int j) st Q ↔ Q (.int (i + j)) st := Iff.rfl
@[simp] theorem b_sub : binS .sub (.int i) (.int j) st Q ↔ Q (.int (i - j)) st := Iff.rfl
@[simp] theorem b_mul : binS .mul (.int i) (.int j) st Q ↔ IntMulOk i j ∧ Q (.int (i * j)) st := Iff.rfl
@[simp] theorem b_fdiv : binS .fdiv (.int i) (.int j) st Q ↔ DivOk i j ∧ Q (.int (i / j)) st := Iff.rfl
@[simp] theorem b_mod : binS .mod (.int i) (.int j) st Q ↔ 0 < j ∧ Q (.int (i % j)) st := Iff.rfl
@[simp] theorem b_pow : binS .pow (.int i) (.int j) st Q ↔ CPow i j ∧ Q (.int (i ^ j.toNat)) st := Iff.rfl
@[simp] theorem b_shl : binS .shl (.int i) (.int j) st Q ↔ CShl i j ∧ Q (.int (i * 2 ^ j.toNat)) st := Iff.rfl
@[simp] theorem b_shr : binS .shr (.int i) (.int j) st Q ↔ 0 ≤ j ∧ Q (.int (i / 2 ^ j.toNat)) st := Iff.rfl
@[simp] theorem b_addT : binS .add (.tup xs) (.tup ys) st Q ↔ xs.length + ys.length ≤ sizeLine ∧ Q (.tup (xs ++ ys)) st := Iff.rfl
@[simp] theorem b_mulT : binS .mul (.tup xs) (.int j) st Q ↔ (0 ≤ j ∧ j ≤ 1000 ∧ xs.length ≤ 1000) ∧ Q (.tup (List.replicate j.toNat xs).flatten) st := Iff.rfl
@[simp] theorem c_lt : cmpS .lt (.int i) (.int j) st Q ↔ Q (.bl (decide (i < j))) st := by simp [cmpS]
@[simp] theorem c_le : cmpS .le (.int i) (.int j) st Q ↔ Q (.bl (decide (i ≤ j))) st := by simp [cmpS]
@[simp] theorem c_gt : cmpS .gt (.int i) (.int j) st Q ↔ Q (.bl (decide (j < i))) st := by simp [cmpS]
@[simp] theorem c_ge : cmpS .ge (.int i) (.int j) st Q ↔ Q (.bl (decide (j ≤ i))) st := by simp [cmpS]
@[simp] theorem c_isn : cmpS .isn x .non st Q ↔ Q (.bl (isNon x)) st := by simp [cmpS]
@[simp] theorem c_notn : cmpS .notn x .non st Q ↔ Q (.bl (!isNon x)) st := by simp [cmpS]
@[simp] theorem c_isnB {a b : Bool} : cmpS .isn (.bl a) (.bl b) st Q ↔ Q (.bl (decide (a = b))) st := ⟨fun h => by rcases h with ⟨e, _⟩ | ⟨_, _, e1, e2, q⟩ <;> first | cases e | (cases e1; cases e2; exact q), fun q => .inr ⟨a, b, rfl, rfl, q⟩⟩
@[simp] theorem c_notnB {a b : Bool} : cmpS .notn (.bl a) (.bl b) st Q ↔ Q (.bl (!decide (a = b))) st := ⟨fun h => by rcases h with ⟨e, _⟩ | ⟨_, _, e1, e2, q⟩ <;> first | cases e | (cases e1; cases e2; exact q), fun q => .inr ⟨a, b, rfl, rfl, q⟩⟩
@[simp] theorem c_eqI : cmpS .eq (.int i) (.int j) st Q ↔ Q (.bl (decide (i = j))) st := by simp [cmpS, pyEq]
@[simp] theorem c_neI : cmpS .ne (.int i) (.int j) st Q ↔ Q (.bl (!decide (i = j))) st := by simp [cmpS, pyEq]
@[simp] theorem c_eqS {a b : Str} : cmpS .eq (.str a) (.str b) st Q ↔ Q (.bl (decide (a = b))) st := by simp [cmpS, pyEq]
@[simp] theorem c_neS {a b : Str} : cmpS .ne (.str a) (.str b) st Q ↔ Q (.bl (!decide (a = b))) st := by simp [cmpS, pyEq]
@[simp] theorem c_eqB {a b : Bool} : cmpS .eq (.bl a) (.bl b) st Q ↔ Q (.bl (decide (a = b))) st := by simp [cmpS, pyEq]
@[simp] theorem c_neB {a b : Bool} : cmpS .ne (.bl a) (.bl b) st Q ↔ Q (.bl (!decide (a = b))) st := by simp [cmpS, pyEq]
theorem c_eqU {p q : PyData} (h : match x, y with | .int _, .int _ => False | .str _, .str _ => False | .bl _, .bl _ => False | _, _ => True) (h1 : toPy st 32 x = some p) (h2 : toPy st 32 y = some q) (h3 : (SeqAt.shaped p && SeqAt.shaped q) = true) : pyEq st x y = some (PyData.eqv p q) := by
  unfold pyEq
  cases x <;> cases y <;> first | exact h.elim | (simp only [h1, h2]; exact if_pos h3) | (rw [h1] at h2; cases h2; simp only [h1]; exact if_pos h3)
@[simp] theorem tr_non : truS st .non = some false := rfl
@[simp] theorem tr_bl {b : Bool} : truS st (.bl b) = some b := rfl
@[simp] theorem tr_int : truS st (.int i) = some (i != 0) := rfl
@[simp] theorem tr_tup : truS st (.tup xs) = some (!xs.isEmpty) := rfl
@[simp] theorem ty_non : tyOf st .non = some .non := rfl
@[simp] theorem ty_bl {b : Bool} : tyOf st (.bl b) = some .bool := rfl
@[simp] theorem ty_int : tyOf st (.int i) = some .int := rfl
@[simp] theorem ty_str {s : Str} : tyOf st (.str s) = some .str := rfl
@[simp] theorem ty_tup : tyOf st (.tup xs) = some .tuple := rfl
@[simp] theorem bl_int : bltS .int [.int i] st Q ↔ Q (.int i) st := by simp [bltS]
@[simp] theorem bl_intB {b : Bool} : bltS .int [.bl b] st Q ↔ Q (.int (if b then 1 else 0)) st := by simp [bltS]
@[simp] theorem bl_bool : bltS .bool [.int i] st Q ↔ Q (.bl (i != 0)) st := by simp [bltS]
@[simp] theorem bl_boolB {b : Bool} : bltS .bool [.bl b] st Q ↔ Q (.bl b) st := by simp [bltS]
@[simp] theorem bl_abs : bltS .abs [.int i] st Q ↔ Q (.int (if i < 0 then -i else i)) st := by simp [bltS]
@[simp] theorem bl_max : bltS .max2 [.int i, .int j] st Q ↔ Q (.int (if j > i then j else i)) st := ⟨fun ⟨_, _, e, q⟩ => by cases e; exact q, fun q => ⟨i, j, rfl, q⟩⟩
@[simp] theorem bl_min : bltS .min2 [.int i, .int j] st Q ↔ Q (.int (if j < i then j else i)) st := ⟨fun ⟨_, _, e, q⟩ => by cases e; exact q, fun q => ⟨i, j, rfl, q⟩⟩
@[simp] theorem bl_lenT : bltS .len [.tup xs] st Q ↔ Q (.int xs.length) st := by simp [bltS, seqS]
@[simp] theorem bl_tupT : bltS .tuple [.tup xs] st Q ↔ Q (.tup xs) st := by simp [bltS, seqS]
@[simp] theorem bl_listT : bltS .list [.tup xs] st Q ↔ Q (.ref st.length) (st ++ [.lst xs]) := by simp [bltS, seqS]
theorem bl_tupL {n : Nat} (h : st[n]? = some (.lst xs)) : bltS .tuple [.ref n] st Q ↔ Q (.tup xs) st := by simp [bltS, seqS, h]
theorem bl_lenL {n : Nat} (h : st[n]? = some (.lst xs)) : bltS .len [.ref n] st Q ↔ Q (.int xs.length) st := by simp [bltS, seqS, h]
theorem bl_listL {n : Nat} (h : st[n]? = some (.lst xs)) : bltS .list [.ref n] st Q ↔ Q (.ref st.length) (st ++ [.lst xs]) := by simp [bltS, seqS, h]
@[simp] theorem ix_tup : idxS st (.tup xs) (.int i) = atI xs i := rfl
@[simp] theorem it_plain : itOf .plain [x] st = (srcOf st x).map .src := rfl
@[simp] theorem it_range1 : itOf .range1 [.int j] st = if small62 j then some (.rng 0 1 j.toNat) else none := rfl
@[simp] theorem it_range2 : itOf .range2 [.int i, .int j] st = if small62 i ∧ small62 j then some (.rng i 1 (j - i).toNat) else none := rfl
@[simp] theorem src_tup : srcOf st (.tup xs) = some (.seq xs) := rfl
@[simp] theorem sl_tup {lo hi : Option Int} : slcS (.tup xs) lo hi st Q ↔ Q (.tup (cut xs lo hi)) st := Iff.rfl
@[simp] theorem part_t : partS true (.int i) = some (some i) := rfl
@[simp] theorem part_f : partS false x = some none := by cases x <;> rfl
@[simp] theorem isNon_non : isNon .non = true := rfl
@[simp] theorem isNon_int : isNon (.int i) = false := rfl
@[simp] theorem isNon_tup : isNon (.tup xs) = false := rfl
@[simp] theorem isNon_bl {b : Bool} : isNon (.bl b) = false := rfl
@[simp] theorem isNon_str {b : Str} : isNon (.str b) = false := rfl
@[simp] theorem isNon_ref {n : Nat} : isNon (.ref n) = false := rfl
end
theorem permN_id {α : Type} {xs : List α} {n : Nat} (h : xs.length = n) {p : List Nat} {ys : List α} (hp : permL xs p = some ys) : permN n 0 xs [] p = some ys := by
  unfold permN
  rw [if_pos ⟨h, rfl⟩, List.append_nil, hp]
/-! ### targets -/
section
variable {ρ : Env1} {d : D} {t ts : Tg} {ds : List D} {i : Nat}
@[simp] theorem tg_name : setTg (.name i) d ρ = some (ρ.set i (some d)) := rfl
@[simp] theorem tg_nil : setTg .nil (.tup []) ρ = some ρ := rfl
@[simp] theorem tg_cons : setTg (.cons t ts) (.tup (d :: ds)) ρ = (match setTg t d ρ with
    | some ρ' => setTg ts (.tup ds) ρ'
    | none => none) := rfl
@[simp] theorem tg_tup : setTg (.tup ts) (.tup ds) ρ = setTg ts (.tup ds) ρ := rfl
@[simp] theorem par_nil : setPar [] [] ρ = some ρ := rfl
@[simp] theorem par_cons {is : List Nat} : setPar (i :: is) (d :: ds) ρ = setPar is ds (ρ.set i (some d)) := rfl
end
@[simp] theorem sizeLine_num : sizeLine = 16777216 := sizeLine_eq
/-! ### a def, entered -/
theorem run_step {T : Nat → Option Fd} {k f : Nat} {xs : List D} {st : Store} {Q : K1} {fd : Fd} (h : T f = some fd) (hl : xs.length = fd.ps) (hw : wps (Run T k) fd.body (startD fd.n xs) st { nx := fun _ st1 => Q .non st1, rt := Q }) : Run T (k + 1) f xs st Q := ⟨fd, h, hl, hw⟩
/-! ### loops -/
theorem for_inv {step : Nat → Store → Option (Option D)} {bind : D → Env1 → Option Env1} {wb : Env1 → Store → EndsD → Prop} {E : EndsD} (I : Nat → Env1 → Store → Prop) (len : Nat)
    (hs : ∀ i ρ st (X : Env1 → Store → Prop), i < len → I i ρ st → (∀ ρ' st', I (i + 1) ρ' st' → X ρ' st') → ∃ d ρ1, step i st = some (some d) ∧ bind d ρ = some ρ1 ∧ wb ρ1 st ⟨X, E.rt, E.nx, X⟩)
    (he : ∀ ρ st, I len ρ st → step len st = some none ∧ E.nx ρ st) : ∀ {i : Nat} {ρ : Env1} {st : Store}, i ≤ len → I i ρ st → forLoop step bind wb E (len - i + 1) i ρ st := by
  intro i ρ st hi h
  generalize hk : len - i = k
  induction k generalizing i ρ st with
  | zero =>
    obtain rfl : i = len := by omega
    obtain ⟨h1, h2⟩ := he _ _ h
    unfold forLoop
    rw [h1]
    exact h2
  | succ k ih =>
    obtain ⟨d, ρ1, h1, h2, h3⟩ := hs i ρ st (forLoop step bind wb E (k + 1) (i + 1)) (by omega) h fun ρ' st' h' => ih (by omega) h' (by omega)
    unfold forLoop
    rw [h1]
    exact ⟨ρ1, h2, h3⟩
theorem for_seq {xs : List D} {bind : D → Env1 → Option Env1} {wb : Env1 → Store → EndsD → Prop} {E : EndsD} (I : Nat → Env1 → Store → Prop) {ρ : Env1} {st : Store} (h0 : I 0 ρ st)
    (hs : ∀ i d ρ st (X : Env1 → Store → Prop), xs[i]? = some d → I i ρ st → (∀ ρ' st', I (i + 1) ρ' st' → X ρ' st') → ∃ ρ1, bind d ρ = some ρ1 ∧ wb ρ1 st ⟨X, E.rt, E.nx, X⟩)
    (he : ∀ ρ st, I xs.length ρ st → E.nx ρ st) : ∃ n, forLoop (ItD.src (.seq xs)).step bind wb E n 0 ρ st :=
  ⟨_, for_inv I xs.length (fun i ρ st X hi h hx => by
    have e := List.getElem?_eq_getElem hi
    obtain ⟨ρ1, h1, h2⟩ := hs i _ ρ st X e h hx
    exact ⟨_, ρ1, by show some (xs[i]?) = _; rw [e], h1, h2⟩) (fun ρ st h => ⟨by show some (xs[xs.length]?) = _; rw [List.getElem?_eq_none (Nat.le_refl _)], he ρ st h⟩) (Nat.zero_le _) h0⟩
theorem for_rng {lo c : Int} {m : Nat} {bind : D → Env1 → Option Env1} {wb : Env1 → Store → EndsD → Prop} {E : EndsD} (I : Nat → Env1 → Store → Prop) {ρ : Env1} {st : Store} (h0 : I 0 ρ st)
    (hs : ∀ i ρ st (X : Env1 → Store → Prop), i < m → I i ρ st → (∀ ρ' st', I (i + 1) ρ' st' → X ρ' st') → ∃ ρ1, bind (.int (lo + i * c)) ρ = some ρ1 ∧ wb ρ1 st ⟨X, E.rt, E.nx, X⟩)
    (he : ∀ ρ st, I m ρ st → E.nx ρ st) : ∃ n, forLoop (ItD.rng lo c m).step bind wb E n 0 ρ st :=
  ⟨_, for_inv I m (fun i ρ st X hi h hx => by
    obtain ⟨ρ1, h1, h2⟩ := hs i ρ st X hi h hx
    exact ⟨_, ρ1, by show some (if i < m then _ else none) = _; rw [if_pos hi], h1, h2⟩) (fun ρ st h => ⟨by show some (if m < m then _ else none) = _; rw [if_neg (Nat.lt_irrefl _)], he ρ st h⟩) (Nat.zero_le _) h0⟩
/-- a list that the body leaves as it is -/
theorem for_live {n : Nat} {xs : List D} {bind : D → Env1 → Option Env1} {wb : Env1 → Store → EndsD → Prop} {E : EndsD} (I : Nat → Env1 → Store → Prop) {ρ : Env1} {st : Store} (h0 : I 0 ρ st)
    (hl : ∀ i ρ st, I i ρ st → (Src.live n).at st = some xs)
    (hs : ∀ i d ρ st (X : Env1 → Store → Prop), xs[i]? = some d → I i ρ st → (∀ ρ' st', I (i + 1) ρ' st' → X ρ' st') → ∃ ρ1, bind d ρ = some ρ1 ∧ wb ρ1 st ⟨X, E.rt, E.nx, X⟩)
    (he : ∀ ρ st, I xs.length ρ st → E.nx ρ st) : ∃ m, forLoop (ItD.src (.live n)).step bind wb E m 0 ρ st :=
  ⟨_, for_inv I xs.length (fun i ρ st X hi h hx => by
    have e := List.getElem?_eq_getElem hi
    obtain ⟨ρ1, h1, h2⟩ := hs i _ ρ st X e h hx
    exact ⟨_, ρ1, by show ((Src.live n).at st).map _ = _; rw [hl i ρ st h, Option.map_some, e], h1, h2⟩) (fun ρ st h => ⟨by show ((Src.live n).at st).map _ = _; rw [hl _ ρ st h, Option.map_some, List.getElem?_eq_none (Nat.le_refl _)], he ρ st h⟩) (Nat.zero_le _) h0⟩
theorem lc_inv {step : Nat → Store → Option (Option D)} {bind : D → Option Env1} {wc we : Env1 → Store → K1 → Prop} {Q : K1} (I : Nat → List D → Store → Prop) (len : Nat)
    (hs : ∀ i acc st (X : List D → Store → Prop), i < len → I i acc st → (∀ acc' st', I (i + 1) acc' st' → X acc' st') → ∃ d ρ1, step i st = some (some d) ∧ bind d = some ρ1 ∧ wc ρ1 st fun b st1 => Br b (we ρ1 st1 fun y st2 => acc.length < sizeLine ∧ X (acc ++ [y]) st2) (X acc st1))
    (he : ∀ acc st, I len acc st → step len st = some none ∧ Q (.ref st.length) (st ++ [.lst acc])) : ∀ {i : Nat} {acc : List D} {st : Store}, i ≤ len → I i acc st → lcLoop step bind wc we Q (len - i + 1) i acc st := by
  intro i acc st hi h
  generalize hk : len - i = k
  induction k generalizing i acc st with
  | zero =>
    obtain rfl : i = len := by omega
    obtain ⟨h1, h2⟩ := he _ _ h
    unfold lcLoop
    rw [h1]
    exact h2
  | succ k ih =>
    obtain ⟨d, ρ1, h1, h2, h3⟩ := hs i acc st (lcLoop step bind wc we Q (k + 1) (i + 1)) (by omega) h fun ρ' st' h' => ih (by omega) h' (by omega)
    unfold lcLoop
    rw [h1]
    exact ⟨ρ1, h2, h3⟩
theorem lc_seq {xs : List D} {bind : D → Option Env1} {wc we : Env1 → Store → K1 → Prop} {Q : K1} (I : Nat → List D → Store → Prop) {st : Store} (h0 : I 0 [] st)
    (hs : ∀ i d acc st (X : List D → Store → Prop), xs[i]? = some d → I i acc st → (∀ acc' st', I (i + 1) acc' st' → X acc' st') → ∃ ρ1, bind d = some ρ1 ∧ wc ρ1 st fun b st1 => Br b (we ρ1 st1 fun y st2 => acc.length < sizeLine ∧ X (acc ++ [y]) st2) (X acc st1))
    (he : ∀ acc st, I xs.length acc st → Q (.ref st.length) (st ++ [.lst acc])) : ∃ n, lcLoop (ItD.src (.seq xs)).step bind wc we Q n 0 [] st :=
  ⟨_, lc_inv I xs.length (fun i acc st X hi h hx => by
    have e := List.getElem?_eq_getElem hi
    obtain ⟨ρ1, h1, h2⟩ := hs i _ acc st X e h hx
    exact ⟨_, ρ1, by show some (xs[i]?) = _; rw [e], h1, h2⟩) (fun acc st h => ⟨by show some (xs[xs.length]?) = _; rw [List.getElem?_eq_none (Nat.le_refl _)], he acc st h⟩) (Nat.zero_le _) h0⟩
theorem lc_rng {lo c : Int} {m : Nat} {bind : D → Option Env1} {wc we : Env1 → Store → K1 → Prop} {Q : K1} (I : Nat → List D → Store → Prop) {st : Store} (h0 : I 0 [] st)
    (hs : ∀ i acc st (X : List D → Store → Prop), i < m → I i acc st → (∀ acc' st', I (i + 1) acc' st' → X acc' st') → ∃ ρ1, bind (.int (lo + i * c)) = some ρ1 ∧ wc ρ1 st fun b st1 => Br b (we ρ1 st1 fun y st2 => acc.length < sizeLine ∧ X (acc ++ [y]) st2) (X acc st1))
    (he : ∀ acc st, I m acc st → Q (.ref st.length) (st ++ [.lst acc])) : ∃ n, lcLoop (ItD.rng lo c m).step bind wc we Q n 0 [] st :=
  ⟨_, lc_inv I m (fun i acc st X hi h hx => by
    obtain ⟨ρ1, h1, h2⟩ := hs i acc st X hi h hx
    exact ⟨_, ρ1, by show some (if i < m then _ else none) = _; rw [if_pos hi], h1, h2⟩) (fun acc st h => ⟨by show some (if m < m then _ else none) = _; rw [if_neg (Nat.lt_irrefl _)], he acc st h⟩) (Nat.zero_le _) h0⟩
theorem lc_live {n : Nat} {xs : List D} {bind : D → Option Env1} {wc we : Env1 → Store → K1 → Prop} {Q : K1} (I : Nat → List D → Store → Prop) {st : Store} (h0 : I 0 [] st)
    (hl : ∀ i acc st, I i acc st → (Src.live n).at st = some xs)
    (hs : ∀ i d acc st (X : List D → Store → Prop), xs[i]? = some d → I i acc st → (∀ acc' st', I (i + 1) acc' st' → X acc' st') → ∃ ρ1, bind d = some ρ1 ∧ wc ρ1 st fun b st1 => Br b (we ρ1 st1 fun y st2 => acc.length < sizeLine ∧ X (acc ++ [y]) st2) (X acc st1))
    (he : ∀ acc st, I xs.length acc st → Q (.ref st.length) (st ++ [.lst acc])) : ∃ m, lcLoop (ItD.src (.live n)).step bind wc we Q m 0 [] st :=
  ⟨_, lc_inv I xs.length (fun i acc st X hi h hx => by
    have e := List.getElem?_eq_getElem hi
    obtain ⟨ρ1, h1, h2⟩ := hs i _ acc st X e h hx
    exact ⟨_, ρ1, by show ((Src.live n).at st).map _ = _; rw [hl i acc st h, Option.map_some, e], h1, h2⟩) (fun acc st h => ⟨by show ((Src.live n).at st).map _ = _; rw [hl _ acc st h, Option.map_some, List.getElem?_eq_none (Nat.le_refl _)], he acc st h⟩) (Nat.zero_le _) h0⟩
/-- m: what grows less at each turn -/
theorem while_inv {wc : Env1 → Store → K1 → Prop} {wb : Env1 → Store → EndsD → Prop} {E : EndsD} (I : Nat → Env1 → Store → Prop)
    (h : ∀ m ρ st (X : Env1 → Store → Prop), I m ρ st → (∀ m' ρ' st', m' < m → I m' ρ' st' → X ρ' st') → wc ρ st fun x st1 => Br x (wb ρ st1 ⟨X, E.rt, E.nx, X⟩) (E.nx ρ st1)) :
    ∀ {m : Nat} {ρ : Env1} {st : Store}, I m ρ st → ∃ n, whileLoop wc wb E n ρ st := by
  have key : ∀ (n m : Nat) (ρ : Env1) (st : Store), m < n → I m ρ st → whileLoop wc wb E n ρ st := by
    intro n
    induction n with
    | zero => intro m _ _ hm; omega
    | succ n ih =>
      intro m ρ st hm hi
      exact h m ρ st (whileLoop wc wb E n) hi fun m' ρ' st' hlt hi' => ih m' ρ' st' (by omega) hi'
  exact fun {m ρ st} hi => ⟨m + 1, key (m + 1) m ρ st (Nat.lt_succ_self _) hi⟩
/-! ### numbers -/
theorem mul_okL {i j : Int} (h : -(2 ^ 64) < i ∧ i < 2 ^ 64) : IntMulOk i j := CMul.ok (.inl h)
theorem div_ok {i j : Int} (h : 0 < j) (h2 : j < 1073741824) : DivOk i j := ⟨h, PyProof.noPylong_small (by omega)⟩
theorem mul_okR {i j : Int} (h : -(2 ^ 64) < j ∧ j < 2 ^ 64) : IntMulOk i j := CMul.ok (.inr h)
end Cb

namespace Cb
open PySem PySem.Spec PyProof.Rows L2
/-! ### small data: no refs, no texts, whole numbers below 10^12 -/
mutual
def sm : D → Bool
  | .non => true
  | .bl _ => true
  | .int i => decide (i.natAbs < 10 ^ 12)
  | .str _ => false
  | .tup xs => smAll xs
  | .ref _ => false
def smAll : List D → Bool
  | [] => true
  | x :: xs => sm x && smAll xs
end
mutual
def py : D → PyData
  | .non => .none
  | .bl b => .bool b
  | .int i => .int i
  | .str s => .str s
  | .tup xs => .tuple (pyAll xs)
  | .ref _ => .none
def pyAll : List D → List PyData
  | [] => []
  | x :: xs => py x :: pyAll xs
end
mutual
/-- how deep -/
def dep : D → Nat
  | .tup xs => depAll xs + 1
  | .non => 0
  | .bl _ => 0
  | .int _ => 0
  | .str _ => 0
  | .ref _ => 0
def depAll : List D → Nat
  | [] => 0
  | x :: xs => max (dep x) (depAll xs)
end
mutual
/-- how many parts -/
def cnt : D → Nat
  | .tup xs => cntAll xs
  | .non => 0
  | .bl _ => 0
  | .int _ => 0
  | .str _ => 0
  | .ref _ => 0
def cntAll : List D → Nat
  | [] => 0
  | x :: xs => cnt x + 1 + cntAll xs
end
mutual
theorem toPy_sm (st : Store) : ∀ (d : D) (n : Nat), sm d = true → dep d ≤ n → toPy st n d = some (py d)
  | .non, n, _, _ => by cases n <;> rfl
  | .bl b, n, _, _ => by cases n <;> rfl
  | .int i, n, _, _ => by cases n <;> rfl
  | .str s, n, h, _ => by simp [sm] at h
  | .tup xs, n, h, hd => by
    cases n with
    | zero => simp [dep] at hd
    | succ n =>
      have h1 := toPyAll_sm st xs n (by simpa only [sm] using h) (by simp only [dep] at hd; omega)
      show (mapO (toPy st n) xs).map PyData.tuple = _
      rw [h1]
      simp only [py, Option.map_some]
  | .ref r, n, h, _ => by simp [sm] at h
theorem toPyAll_sm (st : Store) : ∀ (ds : List D) (n : Nat), smAll ds = true → depAll ds ≤ n → mapO (toPy st n) ds = some (pyAll ds)
  | [], n, _, _ => by simp only [mapO, pyAll]
  | d :: ds, n, h, hd => by
    simp only [smAll, Bool.and_eq_true] at h
    simp only [depAll] at hd
    simp only [mapO, pyAll]
    rw [toPy_sm st d n h.1 (by omega), toPyAll_sm st ds n h.2 (by omega)]
end
mutual
theorem canLay_sm : ∀ d : D, sm d = true → (py d).canLay0 = true
  | .non, _ => by simp only [py, PyData.canLay0]
  | .bl _, _ => by simp only [py, PyData.canLay0]
  | .int _, _ => by simp only [py, PyData.canLay0]
  | .str _, h => by simp [sm] at h
  | .tup xs, h => by
    simp only [py, PyData.canLay0]
    exact canLayAll_sm xs (by simpa only [sm] using h)
  | .ref _, h => by simp [sm] at h
theorem canLayAll_sm : ∀ ds : List D, smAll ds = true → PyData.canLayAll0 (pyAll ds) = true
  | [], _ => by simp only [pyAll, PyData.canLayAll0]
  | d :: ds, h => by
    simp only [smAll, Bool.and_eq_true] at h
    simp only [pyAll, PyData.canLayAll0, Bool.and_eq_true]
    exact ⟨canLay_sm d h.1, canLayAll_sm ds h.2⟩
end
mutual
theorem dep_py : ∀ d : D, sm d = true → (py d).depth = dep d
  | .non, _ => by simp only [py, PyData.depth, dep]
  | .bl _, _ => by simp only [py, PyData.depth, dep]
  | .int _, _ => by simp only [py, PyData.depth, dep]
  | .str _, h => by simp [sm] at h
  | .tup xs, h => by
    simp only [py, PyData.depth, dep]
    rw [depAll_py xs (by simpa only [sm] using h)]
  | .ref _, h => by simp [sm] at h
theorem depAll_py : ∀ ds : List D, smAll ds = true → PyData.depthAll (pyAll ds) = depAll ds
  | [], _ => by simp only [pyAll, PyData.depthAll, depAll]
  | d :: ds, h => by
    simp only [smAll, Bool.and_eq_true] at h
    simp only [pyAll, PyData.depthAll, depAll]
    rw [dep_py d h.1, depAll_py ds h.2]
end
theorem log2_sm {i : Int} (h : i.natAbs < 10 ^ 12) : i.natAbs.log2 < 40 := by
  by_cases h0 : i.natAbs = 0
  · rw [h0]; decide
  · exact (Nat.log2_lt h0).mpr (Nat.lt_of_lt_of_le h (by decide))
mutual
theorem show_sm : ∀ d : D, sm d = true → (py d).showable = true
  | .non, _ => by simp only [py, PyData.showable]
  | .bl _, _ => by simp only [py, PyData.showable]
  | .int i, h => by
    simp only [sm, decide_eq_true_eq] at h
    simp only [py, PyData.showable, decide_eq_true_eq]
    have := log2_sm h
    omega
  | .str _, h => by simp [sm] at h
  | .tup xs, h => by
    simp only [py, PyData.showable]
    exact showAll_sm xs (by simpa only [sm] using h)
  | .ref _, h => by simp [sm] at h
theorem showAll_sm : ∀ ds : List D, smAll ds = true → PyData.showableAll (pyAll ds) = true
  | [], _ => by simp only [pyAll, PyData.showableAll]
  | d :: ds, h => by
    simp only [smAll, Bool.and_eq_true] at h
    simp only [pyAll, PyData.showableAll, Bool.and_eq_true]
    exact ⟨show_sm d h.1, showAll_sm ds h.2⟩
end
mutual
theorem short_sm : ∀ d : D, sm d = true → (py d).leavesShort 13 = true
  | .non, _ => by simp only [py, PyData.leavesShort]
  | .bl _, _ => by simp only [py, PyData.leavesShort]
  | .int i, h => by
    simp only [sm, decide_eq_true_eq] at h
    simp only [py, PyData.leavesShort, decide_eq_true_eq]
    exact PyData.shown_int_le h
  | .str _, h => by simp [sm] at h
  | .tup xs, h => by
    simp only [py, PyData.leavesShort]
    exact shortAll_sm xs (by simpa only [sm] using h)
  | .ref _, h => by simp [sm] at h
theorem shortAll_sm : ∀ ds : List D, smAll ds = true → PyData.leavesShortAll 13 (pyAll ds) = true
  | [], _ => by simp only [pyAll, PyData.leavesShortAll]
  | d :: ds, h => by
    simp only [smAll, Bool.and_eq_true] at h
    simp only [pyAll, PyData.leavesShortAll, Bool.and_eq_true]
    exact ⟨short_sm d h.1, shortAll_sm ds h.2⟩
end
mutual
theorem weight_sm : ∀ d : D, sm d = true → (py d).weight ≤ 41 * cnt d + 40
  | .non, _ => by simp only [py, PyData.weight]; omega
  | .bl _, _ => by simp only [py, PyData.weight]; omega
  | .int i, h => by
    simp only [sm, decide_eq_true_eq] at h
    simp only [py, PyData.weight]
    have := log2_sm h
    split <;> omega
  | .str _, h => by simp [sm] at h
  | .tup xs, h => by
    simp only [py, PyData.weight, cnt]
    have := weightAll_sm xs (by simpa only [sm] using h)
    omega
  | .ref _, h => by simp [sm] at h
theorem weightAll_sm : ∀ ds : List D, smAll ds = true → PyData.weightAll (pyAll ds) ≤ 41 * cntAll ds
  | [], _ => by simp only [pyAll, PyData.weightAll]; omega
  | d :: ds, h => by
    simp only [smAll, Bool.and_eq_true] at h
    simp only [pyAll, PyData.weightAll, cntAll]
    have h1 := weight_sm d h.1
    have h2 := weightAll_sm ds h.2
    omega
end
mutual
theorem eqv_py : ∀ d : D, sm d = true → PyData.eqv (py d) (py d) = true
  | .non, _ => by simp only [py, PyData.eqv]
  | .bl _, _ => by simp only [py, PyData.eqv, beq_self_eq_true]
  | .int _, _ => by simp only [py, PyData.eqv, beq_self_eq_true]
  | .str _, h => by simp [sm] at h
  | .tup xs, h => by
    simp only [py, PyData.eqv]
    exact eqvAll_py xs (by simpa only [sm] using h)
  | .ref _, h => by simp [sm] at h
theorem eqvAll_py : ∀ ds : List D, smAll ds = true → PyData.eqvAll (pyAll ds) (pyAll ds) = true
  | [], _ => by simp only [pyAll, PyData.eqvAll]
  | d :: ds, h => by
    simp only [smAll, Bool.and_eq_true] at h
    simp only [pyAll, PyData.eqvAll, Bool.and_eq_true]
    exact ⟨eqv_py d h.1, eqvAll_py ds h.2⟩
end
/-- small enough to be shown -/
def Sm (d : D) : Prop := sm d = true ∧ dep d ≤ 32 ∧ cnt d ≤ 20000
theorem Sm.repr {d : D} (h : Sm d) : ReprOk (py d) := by
  obtain ⟨h1, h2, h3⟩ := h
  have hw := weight_sm d h1
  refine ⟨show_sm d h1, PyData.hasDict_of_canLay _ (canLay_sm d h1), by rw [dep_py d h1]; exact h2, PyData.shown_fits (B := 13) (by decide) (by decide) (short_sm d h1) ?_⟩
  have : (2 : Nat) ^ 20 = 1048576 := by decide
  omega
theorem Sm.toPy {d : D} (h : Sm d) (st : Store) : Cb.toPy st 32 d = some (py d) := toPy_sm st d 32 h.1 h.2.1
theorem Sm.shaped {d : D} (h : Sm d) : SeqAt.shaped (py d) = true := by
  unfold SeqAt.shaped
  rw [canLay_sm d h.1, dep_py d h.1, Bool.true_and, decide_eq_true_eq]
  have := h.2.1
  omega
def rep (d : D) : Str := (py d).shown
theorem bl_repr {d : D} {st : Store} {Q : K1} (h : Sm d) (q : Q (.str (rep d)) st) : bltS .repr [d] st Q := ⟨d, _, rfl, h.toPy st, h.repr, q⟩
theorem Sm.int {i : Int} (h : i.natAbs < 10 ^ 12) : Sm (.int i) := ⟨by simpa [sm] using h, by simp [dep], by simp [cnt]⟩
theorem Sm.non : Sm .non := ⟨rfl, by simp [dep], by simp [cnt]⟩
theorem Sm.bl {b : Bool} : Sm (.bl b) := ⟨rfl, by simp [dep], by simp [cnt]⟩
/-- == of a tuple and the same -/
theorem eq_same {d : D} {xs : List D} (e : d = .tup xs) {st : Store} (h : Sm d) : pyEq st d d = some true := by
  subst e
  unfold pyEq
  simp only [h.toPy st, h.shaped, Bool.and_self, if_true, eqv_py _ h.1]
theorem c_eqSame {xs ys : List D} {st : Store} {Q : K1} (e : xs = ys) (h : Sm (.tup xs)) (q : Q (.bl true) st) : cmpS .eq (.tup xs) (.tup ys) st Q := by
  subst e
  show som _ _
  rw [eq_same rfl h]
  exact ⟨true, rfl, q⟩
theorem c_neSame {xs ys : List D} {st : Store} {Q : K1} (e : xs = ys) (h : Sm (.tup xs)) (q : Q (.bl false) st) : cmpS .ne (.tup xs) (.tup ys) st Q := by
  subst e
  show som _ _
  rw [eq_same rfl h]
  exact ⟨true, rfl, q⟩
/-! ### lists of numbers -/
theorem pyAll_ints : ∀ ns : List Int, pyAll (ns.map D.int) = ns.map PyData.int
  | [] => by simp [pyAll]
  | n :: ns => by simp [pyAll, py, pyAll_ints ns]
theorem mapO_toPy_ints (st : Store) (n : Nat) : ∀ ns : List Int, mapO (toPy st n) (ns.map D.int) = some (ns.map PyData.int)
  | [] => rfl
  | i :: ns => by
    have : toPy st n (.int i) = some (.int i) := by cases n <;> rfl
    simp only [List.map_cons, mapO, this, mapO_toPy_ints st n ns]
theorem canLay_ints : ∀ ns : List Int, PyData.canLayAll0 (ns.map PyData.int) = true
  | [] => by simp only [List.map_nil, PyData.canLayAll0]
  | n :: ns => by simp only [List.map_cons, PyData.canLayAll0, PyData.canLay0, canLay_ints ns, Bool.and_self]
theorem depth_ints : ∀ ns : List Int, PyData.depthAll (ns.map PyData.int) = 0
  | [] => by simp only [List.map_nil, PyData.depthAll]
  | n :: ns => by simp only [List.map_cons, PyData.depthAll, PyData.depth, depth_ints ns, Nat.max_self]
/-- a list of numbers is not [] -/
theorem ne_nil {st : Store} {c e : Nat} {ns : List Int} (h1 : st[c]? = some (.lst (ns.map D.int))) (h2 : st[e]? = some (.lst [])) : pyEq st (.ref c) (.ref e) = some ns.isEmpty := by
  refine (c_eqU (p := .list (ns.map PyData.int)) (q := .list []) trivial ?_ ?_ ?_).trans ?_
  · show (match st[c]? with | some (.lst xs) => _ | some (.frz xs) => _ | _ => _) = _
    rw [h1]
    show (mapO _ _).map _ = _
    rw [mapO_toPy_ints]
    rfl
  · show (match st[e]? with | some (.lst xs) => _ | some (.frz xs) => _ | _ => _) = _
    rw [h2]
    rfl
  · unfold SeqAt.shaped
    simp only [PyData.canLay0, PyData.depth, canLay_ints, depth_ints, PyData.canLayAll0, PyData.depthAll]
    decide
  · cases ns <;> simp [PyData.eqv, PyData.eqvAll]
/-! ### the deck: a dict of the cells that are left, a number, a count -/
def Deck (kd : Str) (st : Store) (r c : Nat) : Prop := ∃ (ns : List Int) (m d : Int), ns.length ≤ 63 ∧ r ≠ c ∧ st[r]? = some (.dct [(.inr "cells", .ref c), (.inr "mixed", .int m), (.inr kd, .int d)]) ∧ st[c]? = some (.lst (ns.map D.int))
/-- all else stays -/
def Fr (r c : Nat) (st st' : Store) : Prop := st.length ≤ st'.length ∧ ∀ i, i < st.length → i ≠ r → i ≠ c → st'[i]? = st[i]?
theorem Fr.refl (r c : Nat) (st : Store) : Fr r c st st := ⟨Nat.le_refl _, fun _ _ _ _ => rfl⟩
theorem Fr.trans {r c : Nat} {a b d : Store} (h : Fr r c a b) (g : Fr r c b d) : Fr r c a d := ⟨Nat.le_trans h.1 g.1, fun i hi h1 h2 => (g.2 i (Nat.lt_of_lt_of_le hi h.1) h1 h2).trans (h.2 i hi h1 h2)⟩
theorem Fr.app {r c : Nat} {a b : Store} (h : Fr r c a b) (x : List Cell) : Fr r c a (b ++ x) := ⟨by simp; have := h.1; omega, fun i hi h1 h2 => by rw [List.getElem?_append_left (Nat.lt_of_lt_of_le hi h.1)]; exact h.2 i hi h1 h2⟩
theorem Fr.set {r c : Nat} {a b : Store} (h : Fr r c a b) {n : Nat} (x : Cell) (hn : n = r ∨ n = c) : Fr r c a (b.set n x) := ⟨by simp; exact h.1, fun i hi h1 h2 => by rw [List.getElem?_set_ne (by rcases hn with rfl | rfl <;> omega)]; exact h.2 i hi h1 h2⟩
theorem get_app {st : Store} {n : Nat} {x : Cell} (h : st[n]? = some x) (y : List Cell) : (st ++ y)[n]? = some x := by
  obtain ⟨hn, _⟩ := List.getElem?_eq_some_iff.mp h
  rw [List.getElem?_append_left hn, h]
theorem get_set {st : Store} {n : Nat} {x y : Cell} (h : st[n]? = some x) : (st.set n y)[n]? = some y := by
  obtain ⟨hn, _⟩ := List.getElem?_eq_some_iff.mp h
  rw [List.getElem?_set_self hn]
theorem Deck.app {kd : Str} {st : Store} {r c : Nat} (h : Deck kd st r c) (x : List Cell) : Deck kd (st ++ x) r c := by
  obtain ⟨ns, m, d, h0, h1, h2, h3⟩ := h
  exact ⟨ns, m, d, h0, h1, get_app h2 x, get_app h3 x⟩
theorem Deck.lt {kd : Str} {st : Store} {r c : Nat} (h : Deck kd st r c) : r < st.length ∧ c < st.length := by
  obtain ⟨ns, m, d, h0, h1, h2, h3⟩ := h
  exact ⟨(List.getElem?_eq_some_iff.mp h2).1, (List.getElem?_eq_some_iff.mp h3).1⟩
/-- the cell at n stays when the deck is drawn from -/
theorem Fr.keep {r c : Nat} {st st' : Store} (h : Fr r c st st') {n : Nat} {x : Cell} (hn : st[n]? = some x) (h1 : n ≠ r) (h2 : n ≠ c) : st'[n]? = some x := by
  rw [h.2 n (List.getElem?_eq_some_iff.mp hn).1 h1 h2, hn]
section
variable {kd : Str} {x y z w : D}
theorem gk1 : getK [(Sum.inr ("cells" : Str), x), (.inr "mixed", y), (.inr kd, z)] (.inr "cells") = some x := by
  simp [getK, List.find?]
theorem gk2 : getK [(Sum.inr ("cells" : Str), x), (.inr "mixed", y), (.inr kd, z)] (.inr "mixed") = some y := by
  have : ¬ ("cells" : Str) = "mixed" := by decide +kernel
  simp [getK, List.find?, this]
theorem gk3 (h1 : ("cells" : Str) ≠ kd) (h2 : ("mixed" : Str) ≠ kd) : getK [(Sum.inr ("cells" : Str), x), (.inr "mixed", y), (.inr kd, z)] (.inr kd) = some z := by
  simp [getK, List.find?, h1, h2]
theorem pk3 (h1 : ("cells" : Str) ≠ kd) (h2 : ("mixed" : Str) ≠ kd) : putKD [(Sum.inr ("cells" : Str), x), (.inr "mixed", y), (.inr kd, z)] (.inr kd) w = [(.inr "cells", x), (.inr "mixed", y), (.inr kd, w)] := by
  simp [putKD, h1, h2]
end
def drawC (kd : Str) (k1 k2 k3 k4 k5 k6 k7 k8 k9 k10 : Int) : S := (.seq (.sto (.bin .add (.idx (.var 0) (.cst (.str kd))) (.cst (.int 1))) (.var 0) (.cst (.str kd))) (.seq (.asg (.name 2) (.bin .add (.idx (.var 0) (.cst (.str "mixed"))) (.bin .mul (.cst (.int k1)) (.idx (.var 0) (.cst (.str kd)))))) (.seq (.ite (.cmp .ne (.idx (.var 0) (.cst (.str "cells"))) (.lst .nil)) (.seq (.asg (.name 3) (.mth .pop (.idx (.var 0) (.cst (.str "cells"))) .nil)) (.seq (.ite (.cmp .ge (.var 3) (.bin .pow (.cst (.int 10)) (.cst (.int 18)))) (.seq (.expr (.mth .append (.idx (.var 0) (.cst (.str "cells"))) (.cons (.bin .fdiv (.var 3) (.blt .max2 (.cons (.cst (.int 2)) (.cons (.var 1) .nil)))) .nil))) (.seq (.ret (.bin .mod (.blt .int (.cons (.var 3) .nil)) (.var 1))) .done)) .done) (.seq (.asg (.name 2) (.bin .add (.var 2) (.bin .mod (.blt .int (.cons (.var 3) .nil)) (.cst (.int k2))))) .done))) .done) (.seq (.asg (.name 2) (.bin .mod (.blt .int (.cons (.bin .add (.bin .mul (.var 2) (.cst (.int k3))) (.cst (.int k4))) .nil)) (.cst (.int k5)))) (.seq (.asg (.name 2) (.bin .mod (.blt .int (.cons (.bin .add (.bin .add (.bin .mul (.var 2) (.var 2)) (.bin .mul (.cst (.int k6)) (.idx (.var 0) (.cst (.str kd))))) (.cst (.int k7))) .nil)) (.cst (.int k8)))) (.seq (.asg (.name 2) (.bin .mod (.blt .int (.cons (.bin .mul (.var 2) (.cst (.int k9))) .nil)) (.cst (.int k10)))) (.seq (.ret (.bin .mod (.blt .int (.cons (.bin .fdiv (.var 2) (.cst (.int 64))) .nil)) (.var 1))) .done)))))))
end Cb

namespace Cb
open PySem PySem.Spec PyProof.Rows L2
theorem div_ok64 {i j : Int} (h : 0 < j) (h2 : j ≤ 2 ^ 64) : DivOk i j := ⟨h, PyProof.noPylong_of_log2 (by
  have h0 : j.natAbs ≠ 0 := by omega
  have : j.natAbs < 2 ^ 65 := by omega
  have := (Nat.log2_lt h0).mpr this
  omega)⟩
theorem truthy_ne {b : Bool} : (!b) = true ↔ b = false := by cases b <;> simp
theorem ne_nil' {st : Store} {c e : Nat} {ns : List Int} {Q : K1} (h1 : st[c]? = some (.lst (ns.map D.int))) (h2 : st[e]? = some (.lst [])) (q : Q (.bl (!ns.isEmpty)) st) : cmpS .ne (.ref c) (.ref e) st Q := ⟨_, ne_nil h1 h2, q⟩
def small (i : Int) : Prop := 0 < i ∧ i < 2 ^ 32
instance (i : Int) : Decidable (small i) := inferInstanceAs (Decidable (_ ∧ _))
structure DrawK (kd : Str) (k1 k2 k3 k5 k6 k8 k9 k10 : Int) : Prop where
  n1 : ("cells" : Str) ≠ kd
  n2 : ("mixed" : Str) ≠ kd
  s1 : small k1
  s2 : small k2
  s3 : small k3
  s5 : small k5
  s6 : small k6
  s8 : small k8
  s9 : small k9
  s10 : small k10
theorem mod_lt' {a b : Int} (h : 0 < b) : 0 ≤ a % b ∧ a % b < b := ⟨Int.emod_nonneg _ (by omega), Int.emod_lt_of_pos _ h⟩
theorem atKey {st : Store} {r : Nat} {kvs : List (Key × D)} {s : Str} {x : D} {P : D → Prop} (h : st[r]? = some (.dct kvs)) (g : getK kvs (.inr s) = some x) (p : P x) : som (idxS st (.ref r) (.str s)) P := ⟨x, by simp only [idxS, h, keyOf, g], p⟩
theorem draw_wps {F : Fm} {kd : Str} {k1 k2 k3 k4 k5 k6 k7 k8 k9 k10 : Int} (K : DrawK kd k1 k2 k3 k5 k6 k8 k9 k10) {st : Store} {r c : Nat} {many : Int} {E : EndsD} (hD : Deck kd st r c) (hm : 0 < many) (hm2 : many ≤ 2 ^ 64)
    (q : ∀ v st', 0 ≤ v → v < many → Deck kd st' r c → Fr r c st st' → E.rt (.int v) st') : wps F (drawC kd k1 k2 k3 k4 k5 k6 k7 k8 k9 k10) [some (.ref r), some (.int many), none, none] st E := by
  obtain ⟨n1, n2, s1, s2, s3, s5, s6, s8, s9, s10⟩ := K
  unfold small at s1 s2 s3 s5 s6 s8 s9 s10
  obtain ⟨ns, m, d, hlen, hrc, hr, hc⟩ := hD
  unfold drawC
  -- the end of all ways but one
  have tail : ∀ (i : Int) (x3 : Option D) (st1 : Store), Fr r c st st1 → Deck kd st1 r c → wps F (.seq (.asg (.name 2) (.bin .mod (.blt .int (.cons (.bin .add (.bin .mul (.var 2) (.cst (.int k3))) (.cst (.int k4))) .nil)) (.cst (.int k5)))) (.seq (.asg (.name 2) (.bin .mod (.blt .int (.cons (.bin .add (.bin .add (.bin .mul (.var 2) (.var 2)) (.bin .mul (.cst (.int k6)) (.idx (.var 0) (.cst (.str kd))))) (.cst (.int k7))) .nil)) (.cst (.int k8)))) (.seq (.asg (.name 2) (.bin .mod (.blt .int (.cons (.bin .mul (.var 2) (.cst (.int k9))) .nil)) (.cst (.int k10)))) (.seq (.ret (.bin .mod (.blt .int (.cons (.bin .fdiv (.var 2) (.cst (.int 64))) .nil)) (.var 1))) .done))))
      [some (.ref r), some (.int many), some (.int i), x3] st1 E := by
    intro i x3 st1 hf hD
    have hD' := hD
    obtain ⟨ns1, m1, d1, hlen1, _, hr1, hc1⟩ := hD
    simp [wps_seq]
    refine ⟨mul_okR (by omega), by omega, ?_⟩
    have b1 := mod_lt' (a := i * k3 + k4) (show 0 < k5 by omega)
    generalize (i * k3 + k4) % k5 = i1 at b1
    refine ⟨mul_okL (by omega), atKey hr1 (gk3 n1 n2) ?_⟩
    simp
    refine ⟨mul_okL (by omega), by omega, mul_okR (by omega), by omega, div_ok (by omega) (by omega), hm, ?_⟩
    have b2 := mod_lt' (a := (i1 * i1 + k6 * d1 + k7) % k8 * k9 % k10 / 64) hm
    exact q _ _ b2.1 b2.2 hD' hf
  have hr1 : (st.set r (.dct [(.inr "cells", .ref c), (.inr "mixed", .int m), (.inr kd, .int (d + 1))]))[r]? = some (.dct [(.inr "cells", .ref c), (.inr "mixed", .int m), (.inr kd, .int (d + 1))]) := get_set hr
  have hc1 : (st.set r (.dct [(.inr "cells", .ref c), (.inr "mixed", .int m), (.inr kd, .int (d + 1))]))[c]? = some (.lst (ns.map D.int)) := by rw [List.getElem?_set_ne hrc]; exact hc
  have hf1 : Fr r c st (st.set r (.dct [(.inr "cells", .ref c), (.inr "mixed", .int m), (.inr kd, .int (d + 1))])) := (Fr.refl r c st).set _ (.inl rfl)
  refine seq_i fun X hX => ?_
  simp only [wps_sto, wp_bin, wp_idx, wp_var, wp_cst]
  refine ⟨.ref r, rfl, atKey hr (gk3 n1 n2) ?_⟩
  refine ⟨.ref r, rfl, r, rfl, .inr ⟨_, _, hr, rfl, by show (3 : Nat) < _; decide, ?_⟩⟩
  rw [pk3 n1 n2]
  refine hX _ _ ?_
  clear hX X
  generalize st.set r (.dct [(.inr "cells", .ref c), (.inr "mixed", .int m), (.inr kd, .int (d + 1))]) = st1 at hr1 hc1 hf1
  refine seq_i fun X hX => ?_
  simp only [wps_asg, wp_bin, wp_idx, wp_var, wp_cst]
  refine ⟨.ref r, rfl, atKey hr1 gk2 ⟨.ref r, rfl, atKey hr1 (gk3 n1 n2) ?_⟩⟩
  simp
  refine ⟨mul_okL (by omega), hX _ _ ?_⟩
  clear hX X
  generalize m + k1 * (d + 1) = num
  refine seq_i fun X hX => ite_i fun Y Z hY hZ => ?_
  simp only [wp_cmp, wp_idx, wp_var, wp_cst, wp_lst, wp_nil]
  refine ⟨.ref r, rfl, atKey hr1 gk1 ⟨[], rfl, by simp, ?_⟩⟩
  have hr2 := get_app hr1 [.lst []]
  have hc2 := get_app hc1 [.lst []]
  have hf2 := hf1.app [.lst []]
  have hD2 : Deck kd (st1 ++ [.lst []]) r c := ⟨ns, m, d + 1, hlen, hrc, hr2, hc2⟩
  refine ne_nil' hc2 (by simp) ?_
  generalize st1 ++ [.lst []] = st2 at hr2 hc2 hf2 hD2
  refine Br.b (fun hne => ?_) (fun hne => hZ _ (hX _ _ (tail _ _ _ hf2 hD2)))
  have hne' : ns ≠ [] := by
    rintro rfl
    simp at hne
  have hpos := List.length_pos_iff.mpr hne'
  refine hY _ (seq_i fun X2 hX2 => ?_)
  simp only [wps_asg, wp_mth, wp_idx, wp_var, wp_cst, wp_nil]
  refine ⟨.ref r, rfl, atKey hr2 gk1 ⟨ns.map D.int, by simp only [listS, hc2], [], rfl, c, ns.map D.int, .int (ns[ns.length - 1]'(by omega)), rfl, rfl, hc2, ?_, ?_⟩⟩
  · rw [List.length_map, List.getElem?_map, List.getElem?_eq_getElem (by omega)]
    rfl
  · generalize ns[ns.length - 1]'(by omega) = cell
    have hc3 : (st2.set c (.lst (ns.map D.int).dropLast))[c]? = some (.lst (ns.dropLast.map D.int)) := by rw [get_set hc2, List.map_dropLast]
    have hr3 : (st2.set c (.lst (ns.map D.int).dropLast))[r]? = _ := (List.getElem?_set_ne (Ne.symm hrc)).trans hr2
    have hf3 := hf2.set (.lst (ns.map D.int).dropLast) (.inr rfl : c = r ∨ c = c)
    have hl3 : ns.dropLast.length ≤ 62 := by rw [List.length_dropLast]; omega
    generalize st2.set c (.lst (ns.map D.int).dropLast) = st3 at hc3 hr3 hf3
    have hD3 : Deck kd st3 r c := ⟨ns.dropLast, m, d + 1, by omega, hrc, hr3, hc3⟩
    simp
    refine hX2 _ _ (seq_i fun X3 hX3 => ite_i fun Y3 Z3 hY3 hZ3 => ?_)
    simp
    refine ⟨⟨by decide, by decide, by decide⟩, Br.dec (fun hbig => ?_) (fun _ => hZ3 _ (hX3 _ _ (seq_i fun X4 hX4 => ?_)))⟩
    · refine hY3 _ (seq_i fun X4 hX4 => ?_)
      simp
      refine atKey hr3 gk1 ⟨ns.dropLast.map D.int, by simp only [listS, hc3], div_ok64 (by split <;> omega) (by split <;> omega), ?_⟩
      refine ⟨c, _, _, rfl, rfl, hc3, ?_, hX4 _ _ (seq_i fun X5 hX5 => ?_)⟩
      · rw [List.length_map, sizeLine_eq]
        omega
      · simp
        have b2 := mod_lt' (a := cell) hm
        refine ⟨hm, q _ _ b2.1 b2.2 ⟨ns.dropLast ++ [cell / (if 2 < many then many else 2)], m, d + 1, by simp; omega, hrc, (List.getElem?_set_ne (Ne.symm hrc)).trans hr3, ?_⟩ (hf3.set _ (.inr rfl))⟩
        rw [get_set hc3]
        simp [List.map_dropLast]
    · simp
      exact ⟨by omega, hX4 _ _ (hX _ _ (tail _ _ _ hf3 hD3))⟩
theorem cut_map {α β : Type} (f : α → β) (xs : List α) (lo hi : Option Int) : cut (xs.map f) lo hi = (cut xs lo hi).map f := by
  simp [cut, List.map_take, List.map_drop]
theorem cut_len {α : Type} (xs : List α) (lo hi : Option Int) : (cut xs lo hi).length ≤ xs.length := by
  unfold cut
  rw [List.length_take, List.length_drop]
  omega
def deckC (kd : Str) (k0 k1 k2 k3 k4 : Int) : S := (.seq (.asg (.name 1) (.cst (.int k0))) (.seq (.loop (.name 2) .plain (.cons (.slc false true (.var 0) (.cst .non) (.cst (.int 63))) .nil) (.seq (.asg (.name 1) (.bin .mod (.blt .int (.cons (.bin .add (.bin .add (.bin .mul (.var 1) (.cst (.int k1))) (.bin .mod (.blt .int (.cons (.var 2) .nil)) (.cst (.int k2)))) (.cst (.int k3))) .nil)) (.cst (.int k4)))) .done)) (.seq (.ret (.dsp [.inr "cells", .inr "mixed", .inr kd] (.cons (.revL (.blt .list (.cons (.slc false true (.var 0) (.cst .non) (.cst (.int 63))) .nil))) (.cons (.var 1) (.cons (.cst (.int 0)) .nil))))) .done)))
theorem slc_frz {st : Store} {n : Nat} {xs : List D} {lo hi : Option Int} {Q : K1} (h : st[n]? = some (.frz xs)) (q : Q (.ref st.length) (st ++ [.lst (cut xs lo hi)])) : slcS (.ref n) lo hi st Q := by
  unfold slcS
  simp only [h]
  exact q
theorem slc_lst {st : Store} {n : Nat} {xs : List D} {lo hi : Option Int} {Q : K1} (h : st[n]? = some (.lst xs)) (q : Q (.ref st.length) (st ++ [.lst (cut xs lo hi)])) : slcS (.ref n) lo hi st Q := by
  unfold slcS
  simp only [h]
  exact q
theorem get_last {st : Store} {x : Cell} : (st ++ [x])[st.length]? = some x := by simp
theorem deck_wps {F : Fm} {kd : Str} {k0 k1 k2 k3 k4 : Int} (s1 : small k1) (s2 : small k2) (s4 : small k4) {st : Store} {ns : List Int} {n : Nat} {E : EndsD} (hs : st[n]? = some (.frz (ns.map D.int))) (hl : ns.length ≤ 63)
    (q : ∀ st' r c, Deck kd st' r c → n ≠ r → n ≠ c → st.length ≤ st'.length → (∀ i, i < st.length → st'[i]? = st[i]?) → E.rt (.ref r) st') : wps F (deckC kd k0 k1 k2 k3 k4) [some (.ref n), none, none] st E := by
  unfold small at s1 s2 s4
  unfold deckC
  refine seq_i fun X hX => ?_
  simp
  refine hX _ _ (seq_i fun X2 hX2 => ?_)
  simp only [wps_loop, wp_cons, wp_slc, wp_var, wp_cst, part_f, part_t, som_some, wp_nil]
  refine ⟨.ref n, rfl, slc_frz hs ⟨[], rfl, _, rfl, ?_⟩⟩
  rw [cut_map]
  have hn := (List.getElem?_eq_some_iff.mp hs).1
  have e1 : (st ++ [Cell.lst ((cut ns none (some 63)).map D.int)])[st.length]? = some (.lst ((cut ns none (some 63)).map D.int)) := get_last
  simp only [it_plain, srcOf, e1, Option.map_some, som_some]
  have hs1 := get_app hs [Cell.lst ((cut ns none (some 63)).map D.int)]
  refine for_live (xs := (cut ns none (some 63)).map D.int) (fun i ρ st1 => (∃ m x, ρ = [some (.ref n), some (.int m), x]) ∧ st1 = st ++ [Cell.lst ((cut ns none (some 63)).map D.int)]) ⟨⟨k0, none, rfl⟩, rfl⟩ (fun i ρ st1 h => ?_) (fun i d ρ st1 Y hd h hY => ?_) (fun ρ st1 h => ?_)
  · obtain ⟨_, rfl⟩ := h
    simp only [Src.at, e1]
  · obtain ⟨⟨m, x, rfl⟩, rfl⟩ := h
    rw [List.getElem?_map] at hd
    obtain ⟨cell, _, rfl⟩ := Option.map_eq_some_iff.mp hd
    refine ⟨_, rfl, seq_i fun X3 hX3 => ?_⟩
    simp
    exact ⟨mul_okR (by omega), by omega, by omega, hX3 _ _ (hY _ _ ⟨⟨_, _, rfl⟩, rfl⟩)⟩
  · obtain ⟨⟨m, x, rfl⟩, rfl⟩ := h
    refine hX2 _ _ (seq_i fun X3 hX3 => ?_)
    simp only [wps_ret, wp_dsp, wp_cons, wp_revL, wp_blt, wp_slc, wp_var, wp_cst, part_f, part_t, som_some, wp_nil]
    refine ⟨.ref n, rfl, slc_frz hs1 ⟨[], rfl, [.ref _], rfl, ?_⟩⟩
    rw [cut_map]
    generalize hC : (cut ns none (some 63)).map D.int = cs
    rw [bl_listL (xs := cs) get_last]
    refine ⟨cs, by simp only [listS, get_last], .int m, rfl, [], rfl, [.int 0], rfl, [.int m, .int 0], rfl, [.ref _, .int m, .int 0], rfl, ?_⟩
    have hlen := cut_len ns none (some 63)
    have key : ∀ S3 : Store, st.length ≤ S3.length → (∀ i, i < st.length → S3[i]? = st[i]?) → E.rt (.ref (S3 ++ [Cell.lst cs.reverse]).length) (S3 ++ [Cell.lst cs.reverse] ++ [Cell.dct [(.inr "cells", .ref S3.length), (.inr "mixed", .int m), (.inr kd, .int 0)]]) := fun S3 h1 h2 => by
      refine q _ _ S3.length ⟨(cut ns none (some 63)).reverse, m, 0, by simp; omega, by simp, get_last, ?_⟩ (by simp; omega) (by omega) (by simp; omega) (fun i hi => ?_)
      · rw [List.map_reverse, hC]
        exact get_app get_last _
      · rw [List.getElem?_append_left (by simp; omega), List.getElem?_append_left (by omega)]
        exact h2 i hi
    refine key _ (by simp) (fun i hi => ?_)
    rw [List.getElem?_append_left (by simp; omega), List.getElem?_append_left (by simp; omega), List.getElem?_append_left hi]
theorem at_nat {α : Type} {xs : List α} {t : Nat} (h : t < xs.length) : atI xs (t : Int) = some xs[t] := by
  unfold atI ixN
  rw [if_pos (by omega), if_pos (by omega)]
  simp [List.getElem?_eq_getElem h]
theorem at_get {α : Type} {xs : List α} {t : Nat} {x : α} (h : xs[t]? = some x) : atI xs (t : Int) = some x := by
  obtain ⟨h1, h2⟩ := List.getElem?_eq_some_iff.mp h
  rw [at_nat h1, h2]
@[simp] theorem at_0 {α : Type} {x : α} {xs : List α} : atI (x :: xs) 0 = some x := at_get (t := 0) rfl
@[simp] theorem at_1 {α : Type} {x y : α} {xs : List α} : atI (x :: y :: xs) 1 = some y := at_get (t := 1) rfl
@[simp] theorem at_2 {α : Type} {x y z : α} {xs : List α} : atI (x :: y :: z :: xs) 2 = some z := at_get (t := 2) rfl
theorem at_ints {ns : List Int} {t : Nat} {b : Int} (h : ns[t]? = some b) : atI (ns.map D.int) (t : Int) = some (.int b) := at_get (by rw [List.getElem?_map, h]; rfl)
theorem shl_ok {i j : Int} (h : -(2 ^ 64) < i ∧ i < 2 ^ 64) (h0 : 0 ≤ j) (h1 : j ≤ 100000) : CShl i j := by
  refine ⟨h0, ?_⟩
  have := intBits_le_64 h.1 h.2
  have e : (2 : Int) ^ 27 = 134217728 := by decide
  omega
theorem mapO_bl : ∀ bs : List Bool, mapO asBl (bs.map D.bl) = some bs
  | [] => rfl
  | b :: bs => by simp only [List.map_cons, mapO, asBl, mapO_bl bs]
theorem mapO_int : ∀ ns : List Int, mapO asInt (ns.map D.int) = some ns
  | [] => rfl
  | b :: bs => by simp only [List.map_cons, mapO, asInt, mapO_int bs]
theorem bl_all {st : Store} {n : Nat} {bs : List Bool} {Q : K1} (h : st[n]? = some (.lst (bs.map D.bl))) (q : Q (.bl (bs.all id)) st) : bltS .all [.ref n] st Q := ⟨_, _, bs, rfl, by simp only [listS, h], mapO_bl bs, q⟩
theorem bl_any {st : Store} {n : Nat} {bs : List Bool} {Q : K1} (h : st[n]? = some (.lst (bs.map D.bl))) (q : Q (.bl (bs.any id)) st) : bltS .any [.ref n] st Q := ⟨_, _, bs, rfl, by simp only [listS, h], mapO_bl bs, q⟩
theorem bl_sum {st : Store} {n : Nat} {ns : List Int} {Q : K1} (h : st[n]? = some (.lst (ns.map D.int))) (q : Q (.int ns.sum) st) : bltS .sum [.ref n] st Q := ⟨_, _, ns, rfl, by simp only [listS, h], mapO_int ns, q⟩
theorem Br.gt {b : Bool} {A B : Prop} (h : b = true) (h1 : A) : Br (.bl b) A B := by
  subst h
  exact br_t.mpr h1
theorem Br.gf {b : Bool} {A B : Prop} (h : b = false) (h1 : B) : Br (.bl b) A B := by
  subst h
  exact br_f.mpr h1
theorem small62_of {i : Int} (h : -1000000 ≤ i ∧ i ≤ 1000000) : small62 i := by
  unfold small62
  omega
end Cb

namespace Cb
open PySem PySem.Spec PyProof.Rows L2
/-! ### plain data: whole numbers and tuples of such: == is sameness -/
mutual
def pl : D → Bool
  | .int i => decide (i.natAbs < 10 ^ 12)
  | .tup xs => plAll xs
  | .non => false
  | .bl _ => false
  | .str _ => false
  | .ref _ => false
def plAll : List D → Bool
  | [] => true
  | x :: xs => pl x && plAll xs
end
mutual
theorem sm_of_pl : ∀ d : D, pl d = true → sm d = true
  | .int i, h => by simpa only [pl, sm] using h
  | .tup xs, h => by
    simp only [sm]
    exact smAll_of_pl xs (by simpa only [pl] using h)
  | .non, h => by simp [pl] at h
  | .bl _, h => by simp [pl] at h
  | .str _, h => by simp [pl] at h
  | .ref _, h => by simp [pl] at h
theorem smAll_of_pl : ∀ ds : List D, plAll ds = true → smAll ds = true
  | [], _ => by simp only [smAll]
  | d :: ds, h => by
    simp only [plAll, Bool.and_eq_true] at h
    simp only [smAll, Bool.and_eq_true]
    exact ⟨sm_of_pl d h.1, smAll_of_pl ds h.2⟩
end
mutual
theorem eqv_pl : ∀ x y : D, pl x = true → pl y = true → (PyData.eqv (py x) (py y) = true ↔ x = y)
  | .int i, .int j, _, _ => by simp [py, PyData.eqv]
  | .int i, .tup ys, _, _ => by simp [py, PyData.eqv]
  | .tup xs, .int j, _, _ => by simp [py, PyData.eqv]
  | .tup xs, .tup ys, h1, h2 => by
    simp only [py, PyData.eqv, D.tup.injEq]
    exact eqvAll_pl xs ys (by simpa only [pl] using h1) (by simpa only [pl] using h2)
  | .non, _, h, _ => by simp [pl] at h
  | .bl _, _, h, _ => by simp [pl] at h
  | .str _, _, h, _ => by simp [pl] at h
  | .ref _, _, h, _ => by simp [pl] at h
  | .int _, .non, _, h => by simp [pl] at h
  | .int _, .bl _, _, h => by simp [pl] at h
  | .int _, .str _, _, h => by simp [pl] at h
  | .int _, .ref _, _, h => by simp [pl] at h
  | .tup _, .non, _, h => by simp [pl] at h
  | .tup _, .bl _, _, h => by simp [pl] at h
  | .tup _, .str _, _, h => by simp [pl] at h
  | .tup _, .ref _, _, h => by simp [pl] at h
theorem eqvAll_pl : ∀ xs ys : List D, plAll xs = true → plAll ys = true → (PyData.eqvAll (pyAll xs) (pyAll ys) = true ↔ xs = ys)
  | [], [], _, _ => by simp [pyAll, PyData.eqvAll]
  | [], y :: ys, _, _ => by simp [pyAll, PyData.eqvAll]
  | x :: xs, [], _, _ => by simp [pyAll, PyData.eqvAll]
  | x :: xs, y :: ys, h1, h2 => by
    simp only [plAll, Bool.and_eq_true] at h1 h2
    simp only [pyAll, PyData.eqvAll, Bool.and_eq_true, List.cons.injEq]
    rw [eqv_pl x y h1.1 h2.1, eqvAll_pl xs ys h1.2 h2.2]
end
theorem plAll_map {α : Type} {f : α → D} : ∀ {xs : List α}, (∀ x ∈ xs, pl (f x) = true) → plAll (xs.map f) = true
  | [], _ => by simp only [List.map_nil, plAll]
  | x :: xs, h => by
    simp only [List.map_cons, plAll, Bool.and_eq_true]
    exact ⟨h x (by simp), plAll_map fun y hy => h y (by simp [hy])⟩
theorem depAll_map {α : Type} {f : α → D} {n : Nat} : ∀ {xs : List α}, (∀ x ∈ xs, dep (f x) ≤ n) → depAll (xs.map f) ≤ n
  | [], _ => by simp only [List.map_nil, depAll]; omega
  | x :: xs, h => by
    simp only [List.map_cons, depAll]
    have h1 := h x (by simp)
    have h2 := depAll_map (f := f) (n := n) fun y hy => h y (List.mem_cons_of_mem x hy)
    omega
theorem cntAll_map {α : Type} {f : α → D} {n : Nat} : ∀ {xs : List α}, (∀ x ∈ xs, cnt (f x) ≤ n) → cntAll (xs.map f) ≤ xs.length * (n + 1)
  | [], _ => by simp only [List.map_nil, cntAll]; omega
  | x :: xs, h => by
    simp only [List.map_cons, cntAll, List.length_cons]
    have h1 := h x (by simp)
    have h2 := cntAll_map (f := f) (n := n) fun y hy => h y (List.mem_cons_of_mem x hy)
    have e : (xs.length + 1) * (n + 1) = xs.length * (n + 1) + (n + 1) := by rw [Nat.add_mul, Nat.one_mul]
    omega
theorem c_eqP {x y : D} {st : Store} {Q : K1} (ht : ∃ xs, x = .tup xs) (hx : Sm x) (hy : Sm y) (px : pl x = true) (py' : pl y = true) (h : (x = y → Q (.bl true) st) ∧ (x ≠ y → Q (.bl false) st)) : cmpS .eq x y st Q := by
  obtain ⟨xs, rfl⟩ := ht
  refine ⟨_, c_eqU (by cases y <;> trivial) (hx.toPy st) (hy.toPy st) (by rw [hx.shaped, hy.shaped]; rfl), ?_⟩
  by_cases e : D.tup xs = y
  · rw [(eqv_pl _ _ px py').mpr e]
    exact h.1 e
  · rw [Bool.eq_false_iff.mpr fun z => e ((eqv_pl _ _ px py').mp z)]
    exact h.2 e
theorem c_neP {x y : D} {st : Store} {Q : K1} (ht : ∃ xs, x = .tup xs) (hx : Sm x) (hy : Sm y) (px : pl x = true) (py' : pl y = true) (h : (x = y → Q (.bl false) st) ∧ (x ≠ y → Q (.bl true) st)) : cmpS .ne x y st Q := by
  obtain ⟨xs, rfl⟩ := ht
  refine ⟨_, c_eqU (by cases y <;> trivial) (hx.toPy st) (hy.toPy st) (by rw [hx.shaped, hy.shaped]; rfl), ?_⟩
  by_cases e : D.tup xs = y
  · rw [(eqv_pl _ _ px py').mpr e]
    exact h.1 e
  · rw [Bool.eq_false_iff.mpr fun z => e ((eqv_pl _ _ px py').mp z)]
    exact h.2 e
/-- a tuple of numbers -/
def ti (w : List Int) : D := .tup (w.map D.int)
theorem ti_inj {v w : List Int} (h : ti v = ti w) : v = w := by
  unfold ti at h
  injection h with h
  exact (List.map_inj_right fun a b e => by injection e).mp h
theorem pl_ti {w : List Int} (h : ∀ b ∈ w, b.natAbs < 10 ^ 12) : pl (ti w) = true := by
  simp only [ti, pl]
  exact plAll_map fun x hx => by simpa [pl] using h x hx
theorem dep_ti {w : List Int} : dep (ti w) ≤ 1 := by
  simp only [ti, dep]
  have := depAll_map (f := D.int) (n := 0) (xs := w) fun x _ => by simp [dep]
  omega
theorem cnt_ti {w : List Int} : cnt (ti w) ≤ w.length := by
  simp only [ti, cnt]
  have := cntAll_map (f := D.int) (n := 0) (xs := w) fun x _ => by simp [cnt]
  omega
theorem sm_ti {w : List Int} (h : ∀ b ∈ w, b.natAbs < 10 ^ 12) (hl : w.length ≤ 20000) : Sm (ti w) := ⟨sm_of_pl _ (pl_ti h), by have := dep_ti (w := w); omega, by have := cnt_ti (w := w); omega⟩
/-! ### lists shown -/
theorem repr_list {st : Store} {n : Nat} {xs : List D} {Q : K1} (h : st[n]? = some (.lst xs)) (hs : smAll xs = true) (hd : depAll xs ≤ 30) (hc : cntAll xs ≤ 20000) (q : Q (.str (PyData.list (pyAll xs)).shown) st) : bltS .repr [.ref n] st Q := by
  have hw := weightAll_sm xs hs
  refine ⟨.ref n, .list (pyAll xs), rfl, ?_, ⟨?_, ?_, ?_, ?_⟩, q⟩
  · show (match st[n]? with | some (.lst xs) => _ | some (.frz xs) => _ | _ => _) = _
    rw [h]
    show (mapO _ _).map _ = _
    rw [toPyAll_sm st xs 31 hs (by omega)]
    rfl
  · simp only [PyData.showable]
    exact showAll_sm xs hs
  · exact PyData.hasDict_of_canLay _ (by simp only [PyData.canLay0]; exact canLayAll_sm xs hs)
  · simp only [PyData.depth]
    rw [depAll_py xs hs]
    omega
  · refine PyData.shown_fits (B := 13) (by decide) (by decide) (by simp only [PyData.leavesShort]; exact shortAll_sm xs hs) ?_
    simp only [PyData.weight]
    have : (2 : Nat) ^ 20 = 1048576 := by decide
    omega
/-! ### fractions in lowest terms -/
theorem cut_from {α : Type} {xs : List α} {n : Nat} : cut xs (some (n : Int)) none = xs.drop n := by
  unfold cut
  rw [HT.sIx_none, HT.sIx_nat]
  by_cases h : n ≤ xs.length
  · rw [Nat.min_eq_left h, ← List.length_drop, List.take_length]
  · rw [Nat.min_eq_right (by omega), List.drop_eq_nil_of_le (Nat.le_refl _), List.drop_eq_nil_of_le (by omega)]
    simp
theorem cut_to {α : Type} {xs : List α} {n : Nat} : cut xs none (some (n : Int)) = xs.take n := by
  unfold cut
  rw [HT.sIx_none, HT.sIx_nat, List.drop_zero, Nat.sub_zero]
  by_cases h : n ≤ xs.length
  · rw [Nat.min_eq_left h]
  · rw [Nat.min_eq_right (by omega), List.take_length, List.take_of_length_le (by omega)]
theorem cut_mid {α : Type} {xs : List α} {n m : Nat} : cut xs (some (n : Int)) (some (m : Int)) = (xs.drop n).take (m - n) := by
  unfold cut
  rw [HT.sIx_nat, HT.sIx_nat]
  by_cases h : n ≤ xs.length
  · rw [Nat.min_eq_left h]
    by_cases h2 : m ≤ xs.length
    · rw [Nat.min_eq_left h2]
    · rw [Nat.min_eq_right (by omega), List.take_of_length_le (by simp), List.take_of_length_le (by simp; omega)]
  · rw [Nat.min_eq_right (by omega : xs.length ≤ n), List.drop_eq_nil_of_le (Nat.le_refl _), List.drop_eq_nil_of_le (by omega)]
    simp
end Cb

namespace Cb.Big
open PySem PySem.Spec PyProof.Rows L2
/-! ### data with great numbers (below 2 ^ 1900): shown, compared -/
mutual
def sm : D → Bool
  | .non => true
  | .bl _ => true
  | .int i => decide (i.natAbs.log2 < 1900)
  | .str _ => false
  | .tup xs => smAll xs
  | .ref _ => false
def smAll : List D → Bool
  | [] => true
  | x :: xs => sm x && smAll xs
end
mutual
theorem toPy_sm (st : Store) : ∀ (d : D) (n : Nat), sm d = true → dep d ≤ n → toPy st n d = some (py d)
  | .non, n, _, _ => by cases n <;> rfl
  | .bl b, n, _, _ => by cases n <;> rfl
  | .int i, n, _, _ => by cases n <;> rfl
  | .str s, n, h, _ => by simp [sm] at h
  | .tup xs, n, h, hd => by
    cases n with
    | zero => simp [dep] at hd
    | succ n =>
      have h1 := toPyAll_sm st xs n (by simpa only [sm] using h) (by simp only [dep] at hd; omega)
      show (mapO (toPy st n) xs).map PyData.tuple = _
      rw [h1]
      simp only [py, Option.map_some]
  | .ref r, n, h, _ => by simp [sm] at h
theorem toPyAll_sm (st : Store) : ∀ (ds : List D) (n : Nat), smAll ds = true → depAll ds ≤ n → mapO (toPy st n) ds = some (pyAll ds)
  | [], n, _, _ => by simp only [mapO, pyAll]
  | d :: ds, n, h, hd => by
    simp only [smAll, Bool.and_eq_true] at h
    simp only [depAll] at hd
    simp only [mapO, pyAll]
    rw [toPy_sm st d n h.1 (by omega), toPyAll_sm st ds n h.2 (by omega)]
end
mutual
theorem canLay_sm : ∀ d : D, sm d = true → (py d).canLay0 = true
  | .non, _ => by simp only [py, PyData.canLay0]
  | .bl _, _ => by simp only [py, PyData.canLay0]
  | .int _, _ => by simp only [py, PyData.canLay0]
  | .str _, h => by simp [sm] at h
  | .tup xs, h => by
    simp only [py, PyData.canLay0]
    exact canLayAll_sm xs (by simpa only [sm] using h)
  | .ref _, h => by simp [sm] at h
theorem canLayAll_sm : ∀ ds : List D, smAll ds = true → PyData.canLayAll0 (pyAll ds) = true
  | [], _ => by simp only [pyAll, PyData.canLayAll0]
  | d :: ds, h => by
    simp only [smAll, Bool.and_eq_true] at h
    simp only [pyAll, PyData.canLayAll0, Bool.and_eq_true]
    exact ⟨canLay_sm d h.1, canLayAll_sm ds h.2⟩
end
mutual
theorem dep_py : ∀ d : D, sm d = true → (py d).depth = dep d
  | .non, _ => by simp only [py, PyData.depth, dep]
  | .bl _, _ => by simp only [py, PyData.depth, dep]
  | .int _, _ => by simp only [py, PyData.depth, dep]
  | .str _, h => by simp [sm] at h
  | .tup xs, h => by
    simp only [py, PyData.depth, dep]
    rw [depAll_py xs (by simpa only [sm] using h)]
  | .ref _, h => by simp [sm] at h
theorem depAll_py : ∀ ds : List D, smAll ds = true → PyData.depthAll (pyAll ds) = depAll ds
  | [], _ => by simp only [pyAll, PyData.depthAll, depAll]
  | d :: ds, h => by
    simp only [smAll, Bool.and_eq_true] at h
    simp only [pyAll, PyData.depthAll, depAll]
    rw [dep_py d h.1, depAll_py ds h.2]
end
mutual
theorem show_sm : ∀ d : D, sm d = true → (py d).showable = true
  | .non, _ => by simp only [py, PyData.showable]
  | .bl _, _ => by simp only [py, PyData.showable]
  | .int i, h => by
    simp only [sm, decide_eq_true_eq] at h
    simp only [py, PyData.showable, decide_eq_true_eq]
    omega
  | .str _, h => by simp [sm] at h
  | .tup xs, h => by
    simp only [py, PyData.showable]
    exact showAll_sm xs (by simpa only [sm] using h)
  | .ref _, h => by simp [sm] at h
theorem showAll_sm : ∀ ds : List D, smAll ds = true → PyData.showableAll (pyAll ds) = true
  | [], _ => by simp only [pyAll, PyData.showableAll]
  | d :: ds, h => by
    simp only [smAll, Bool.and_eq_true] at h
    simp only [pyAll, PyData.showableAll, Bool.and_eq_true]
    exact ⟨show_sm d h.1, showAll_sm ds h.2⟩
end
theorem log_pow {i : Int} (h : i.natAbs.log2 < 1900) : i.natAbs < 10 ^ 573 := by
  by_cases h0 : i.natAbs = 0
  · rw [h0]; exact Nat.pow_pos (by decide)
  · exact Nat.lt_of_lt_of_le ((Nat.log2_lt h0).mp h) (by decide +kernel)
mutual
theorem short_sm : ∀ d : D, sm d = true → (py d).leavesShort 574 = true
  | .non, _ => by simp only [py, PyData.leavesShort]
  | .bl _, _ => by simp only [py, PyData.leavesShort]
  | .int i, h => by
    simp only [sm, decide_eq_true_eq] at h
    simp only [py, PyData.leavesShort, decide_eq_true_eq]
    have e := int_text_length_le10 (k := 573) (by decide) (log_pow h)
    show (Str.ofString (toString i)).length ≤ 574
    rw [PySem.ofString_length]; exact e
  | .str _, h => by simp [sm] at h
  | .tup xs, h => by
    simp only [py, PyData.leavesShort]
    exact shortAll_sm xs (by simpa only [sm] using h)
  | .ref _, h => by simp [sm] at h
theorem shortAll_sm : ∀ ds : List D, smAll ds = true → PyData.leavesShortAll 574 (pyAll ds) = true
  | [], _ => by simp only [pyAll, PyData.leavesShortAll]
  | d :: ds, h => by
    simp only [smAll, Bool.and_eq_true] at h
    simp only [pyAll, PyData.leavesShortAll, Bool.and_eq_true]
    exact ⟨short_sm d h.1, shortAll_sm ds h.2⟩
end
mutual
theorem bulk_sm : ∀ d : D, sm d = true → (py d).bulk ≤ cnt d
  | .non, _ => by simp only [py, PyData.bulk]; omega
  | .bl _, _ => by simp only [py, PyData.bulk]; omega
  | .int i, h => by simp only [py, PyData.bulk]; omega
  | .str _, h => by simp [sm] at h
  | .tup xs, h => by
    simp only [py, PyData.bulk, cnt]
    exact bulkAll_sm xs (by simpa only [sm] using h)
  | .ref _, h => by simp [sm] at h
theorem bulkAll_sm : ∀ ds : List D, smAll ds = true → PyData.bulkAll (pyAll ds) ≤ cntAll ds
  | [], _ => by simp only [pyAll, PyData.bulkAll]; omega
  | d :: ds, h => by
    simp only [smAll, Bool.and_eq_true] at h
    simp only [pyAll, PyData.bulkAll, cntAll]
    have h1 := bulk_sm d h.1
    have h2 := bulkAll_sm ds h.2
    omega
end
/-- small enough to be shown -/
def Sm (d : D) : Prop := sm d = true ∧ dep d ≤ 32 ∧ cnt d ≤ 20000
theorem Sm.repr {d : D} (h : Sm d) : ReprOk (py d) := by
  obtain ⟨h1, h2, h3⟩ := h
  have hw := bulk_sm d h1
  have hs := PyData.shown_le_bulk 574 (by decide) (py d) (short_sm d h1)
  refine ⟨show_sm d h1, PyData.hasDict_of_canLay _ (canLay_sm d h1), by rw [dep_py d h1]; exact h2, ?_⟩
  rw [sizeLine_eq]
  omega
theorem Sm.toPy {d : D} (h : Sm d) (st : Store) : Cb.toPy st 32 d = some (py d) := toPy_sm st d 32 h.1 h.2.1
theorem Sm.shaped {d : D} (h : Sm d) : SeqAt.shaped (py d) = true := by
  unfold SeqAt.shaped
  rw [canLay_sm d h.1, dep_py d h.1, Bool.true_and, decide_eq_true_eq]
  have := h.2.1
  omega
theorem bl_repr {d : D} {st : Store} {Q : K1} (h : Sm d) (q : Q (.str (rep d)) st) : bltS .repr [d] st Q := ⟨d, _, rfl, h.toPy st, h.repr, q⟩
theorem Sm.int {i : Int} (h : i.natAbs.log2 < 1900) : Sm (.int i) := ⟨by simpa [sm] using h, by simp [dep], by simp [cnt]⟩
mutual
/-- whole numbers and tuples of such -/
def pl : D → Bool
  | .int i => true
  | .tup xs => plAll xs
  | .non => false
  | .bl _ => false
  | .str _ => false
  | .ref _ => false
def plAll : List D → Bool
  | [] => true
  | x :: xs => pl x && plAll xs
end
mutual
theorem toPy_pl (st : Store) : ∀ (d : D) (n : Nat), pl d = true → dep d ≤ n → Cb.toPy st n d = some (py d)
  | .int i, n, _, _ => by cases n <;> rfl
  | .tup xs, n, h, hd => by
    simp only [dep] at hd
    match n, hd with
    | n + 1, hd =>
      show (mapO (Cb.toPy st n) xs).map _ = _
      rw [toPyAll_pl st xs n (by simpa only [pl] using h) (by omega)]
      simp only [py, Option.map_some]
  | .non, _, h, _ => by simp [pl] at h
  | .bl _, _, h, _ => by simp [pl] at h
  | .str _, _, h, _ => by simp [pl] at h
  | .ref _, _, h, _ => by simp [pl] at h
theorem toPyAll_pl (st : Store) : ∀ (ds : List D) (n : Nat), plAll ds = true → depAll ds ≤ n → mapO (Cb.toPy st n) ds = some (pyAll ds)
  | [], _, _, _ => by simp only [mapO, pyAll]
  | d :: ds, n, h, hd => by
    simp only [plAll, Bool.and_eq_true] at h
    simp only [depAll] at hd
    simp only [mapO, toPy_pl st d n h.1 (by omega), toPyAll_pl st ds n h.2 (by omega), pyAll]
end
mutual
theorem canLay_pl : ∀ d : D, pl d = true → PyData.canLay0 (py d) = true
  | .int _, _ => by simp only [py, PyData.canLay0]
  | .tup xs, h => by
    simp only [py, PyData.canLay0]
    exact canLayAll_pl xs (by simpa only [pl] using h)
  | .non, h => by simp [pl] at h
  | .bl _, h => by simp [pl] at h
  | .str _, h => by simp [pl] at h
  | .ref _, h => by simp [pl] at h
theorem canLayAll_pl : ∀ ds : List D, plAll ds = true → PyData.canLayAll0 (pyAll ds) = true
  | [], _ => by simp only [pyAll, PyData.canLayAll0]
  | d :: ds, h => by
    simp only [plAll, Bool.and_eq_true] at h
    simp only [pyAll, PyData.canLayAll0, Bool.and_eq_true]
    exact ⟨canLay_pl d h.1, canLayAll_pl ds h.2⟩
end
mutual
theorem dep_pl : ∀ d : D, pl d = true → (py d).depth = dep d
  | .int _, _ => by simp only [py, PyData.depth, dep]
  | .tup xs, h => by
    simp only [py, PyData.depth, dep]
    rw [depAll_pl xs (by simpa only [pl] using h)]
  | .non, h => by simp [pl] at h
  | .bl _, h => by simp [pl] at h
  | .str _, h => by simp [pl] at h
  | .ref _, h => by simp [pl] at h
theorem depAll_pl : ∀ ds : List D, plAll ds = true → PyData.depthAll (pyAll ds) = depAll ds
  | [], _ => by simp only [pyAll, PyData.depthAll, depAll]
  | d :: ds, h => by
    simp only [plAll, Bool.and_eq_true] at h
    simp only [pyAll, PyData.depthAll, depAll]
    rw [dep_pl d h.1, depAll_pl ds h.2]
end
theorem shaped_pl {d : D} (h : pl d = true) (hd : dep d ≤ 32) : SeqAt.shaped (py d) = true := by
  unfold SeqAt.shaped
  rw [canLay_pl d h, dep_pl d h, Bool.true_and, decide_eq_true_eq]
  omega
mutual
theorem eqv_pl : ∀ x y : D, pl x = true → pl y = true → (PyData.eqv (py x) (py y) = true ↔ x = y)
  | .int i, .int j, _, _ => by simp [py, PyData.eqv]
  | .int i, .tup ys, _, _ => by simp [py, PyData.eqv]
  | .tup xs, .int j, _, _ => by simp [py, PyData.eqv]
  | .tup xs, .tup ys, h1, h2 => by
    simp only [py, PyData.eqv, D.tup.injEq]
    exact eqvAll_pl xs ys (by simpa only [pl] using h1) (by simpa only [pl] using h2)
  | .non, _, h, _ => by simp [pl] at h
  | .bl _, _, h, _ => by simp [pl] at h
  | .str _, _, h, _ => by simp [pl] at h
  | .ref _, _, h, _ => by simp [pl] at h
  | .int _, .non, _, h => by simp [pl] at h
  | .int _, .bl _, _, h => by simp [pl] at h
  | .int _, .str _, _, h => by simp [pl] at h
  | .int _, .ref _, _, h => by simp [pl] at h
  | .tup _, .non, _, h => by simp [pl] at h
  | .tup _, .bl _, _, h => by simp [pl] at h
  | .tup _, .str _, _, h => by simp [pl] at h
  | .tup _, .ref _, _, h => by simp [pl] at h
theorem eqvAll_pl : ∀ xs ys : List D, plAll xs = true → plAll ys = true → (PyData.eqvAll (pyAll xs) (pyAll ys) = true ↔ xs = ys)
  | [], [], _, _ => by simp [pyAll, PyData.eqvAll]
  | [], y :: ys, _, _ => by simp [pyAll, PyData.eqvAll]
  | x :: xs, [], _, _ => by simp [pyAll, PyData.eqvAll]
  | x :: xs, y :: ys, h1, h2 => by
    simp only [plAll, Bool.and_eq_true] at h1 h2
    simp only [pyAll, PyData.eqvAll, Bool.and_eq_true, List.cons.injEq]
    rw [eqv_pl x y h1.1 h2.1, eqvAll_pl xs ys h1.2 h2.2]
end
theorem plAll_map {α : Type} {f : α → D} : ∀ {xs : List α}, (∀ x ∈ xs, pl (f x) = true) → plAll (xs.map f) = true
  | [], _ => by simp only [List.map_nil, plAll]
  | x :: xs, h => by
    simp only [List.map_cons, plAll, Bool.and_eq_true]
    exact ⟨h x (by simp), plAll_map fun y hy => h y (by simp [hy])⟩
theorem c_eqP {x y : D} {st : Store} {Q : K1} (ht : ∃ xs, x = .tup xs) (px : pl x = true) (py' : pl y = true) (dx : dep x ≤ 32) (dy : dep y ≤ 32) (h : (x = y → Q (.bl true) st) ∧ (x ≠ y → Q (.bl false) st)) : cmpS .eq x y st Q := by
  obtain ⟨xs, rfl⟩ := ht
  refine ⟨_, c_eqU (by cases y <;> trivial) (toPy_pl st _ _ px dx) (toPy_pl st _ _ py' dy) (by rw [shaped_pl px dx, shaped_pl py' dy]; rfl), ?_⟩
  by_cases e : D.tup xs = y
  · rw [(eqv_pl _ _ px py').mpr e]
    exact h.1 e
  · rw [Bool.eq_false_iff.mpr fun z => e ((eqv_pl _ _ px py').mp z)]
    exact h.2 e
theorem c_neP {x y : D} {st : Store} {Q : K1} (ht : ∃ xs, x = .tup xs) (px : pl x = true) (py' : pl y = true) (dx : dep x ≤ 32) (dy : dep y ≤ 32) (h : (x = y → Q (.bl false) st) ∧ (x ≠ y → Q (.bl true) st)) : cmpS .ne x y st Q := by
  obtain ⟨xs, rfl⟩ := ht
  refine ⟨_, c_eqU (by cases y <;> trivial) (toPy_pl st _ _ px dx) (toPy_pl st _ _ py' dy) (by rw [shaped_pl px dx, shaped_pl py' dy]; rfl), ?_⟩
  by_cases e : D.tup xs = y
  · rw [(eqv_pl _ _ px py').mpr e]
    exact h.1 e
  · rw [Bool.eq_false_iff.mpr fun z => e ((eqv_pl _ _ px py').mp z)]
    exact h.2 e
end Cb.Big

namespace Cb
open PySem PySem.Spec PyProof.Rows L2
/-! ### fractions: the common divisor, lowest terms, sums -/
def divC : S := (.seq (.asg (.name 0) (.blt .abs (.cons (.var 0) .nil))) (.seq (.whil (.cmp .ne (.var 1) (.cst (.int 0))) (.seq (.par [0, 1] (.cons (.var 1) (.cons (.bin .mod (.var 0) (.var 1)) .nil))) .done)) (.seq (.ret (.var 0)) .done)))
theorem abs_nat (a : Int) : (if a < 0 then -a else a) = (a.natAbs : Int) := by split <;> omega
theorem emod_nat (a b : Nat) : ((a : Int) % (b : Int)) = ((a % b : Nat) : Int) := by omega
theorem div_wps {F : Fm} {a : Int} {b : Nat} {st : Store} {E : EndsD} (q : E.rt (.int (Nat.gcd a.natAbs b : Nat)) st) : wps F divC [some (.int a), some (.int b)] st E := by
  unfold divC
  refine seq_i fun X hX => ?_
  simp
  rw [abs_nat]
  refine hX _ _ (seq_i fun X2 hX2 => ?_)
  simp only [wps_whil]
  refine while_inv (fun m ρ st' => st' = st ∧ ∃ x y : Nat, ρ = [some (.int x), some (.int y)] ∧ Nat.gcd x y = Nat.gcd a.natAbs b ∧ m = y) (fun m ρ st' Y ⟨e1, x, y, e2, h1, h2⟩ hY => ?_) (m := b) ⟨rfl, a.natAbs, b, rfl, rfl, rfl⟩
  subst e1 e2 h2
  by_cases hy : m = 0
  · subst hy
    simp
    refine hX2 _ _ ?_
    rw [Nat.gcd_zero_right] at h1
    simp [wps_seq, h1]
    exact q
  · have hne : ¬ ((m : Int) = 0) := by omega
    simp [wps_seq, hy]
    refine ⟨by omega, hY (x % m) _ _ (Nat.mod_lt _ (by omega)) ⟨rfl, m, x % m, by simp, ?_, rfl⟩⟩
    rw [← h1, Nat.gcd_comm x m, Nat.gcd_rec m x, Nat.gcd_comm]
def lowC (f : Nat) : S := (.seq (.asg (.name 2) (.call f 2 0 [0, 1] (.cons (.var 0) (.cons (.var 1) .nil)) .nil)) (.seq (.ret (.tup (.cons (.bin .fdiv (.var 0) (.var 2)) (.cons (.bin .fdiv (.var 1) (.var 2)) .nil)))) .done))
theorem low_wps {F : Fm} {f : Nat} (hf : ∀ (a : Int) (b : Nat) (st : Store) (Q : K1), Q (.int (Nat.gcd a.natAbs b : Nat)) st → F f [.int a, .int b] st Q) {a : Int} {b : Nat} {st : Store} {E : EndsD} (hb : 0 < b) (hb2 : b ≤ 2 ^ 64)
    (q : E.rt (.tup [.int (a / (Nat.gcd a.natAbs b : Nat)), .int (b / Nat.gcd a.natAbs b : Nat)]) st) : wps F (lowC f) [some (.int a), some (.int b), none] st E := by
  have hg : 0 < Nat.gcd a.natAbs b := Nat.gcd_pos_of_pos_right _ hb
  have hg2 : Nat.gcd a.natAbs b ≤ b := Nat.gcd_le_right _ hb
  unfold lowC
  refine seq_i fun X hX => ?_
  simp [permN, permL]
  refine hf _ _ _ _ (hX _ _ ?_)
  simp [wps_seq]
  exact ⟨div_ok64 (by omega) (by omega), div_ok64 (by omega) (by omega), q⟩
def plusC (f : Nat) : S := (.seq (.ret (.call f 2 0 [0, 1] (.cons (.bin .add (.bin .mul (.idx (.var 0) (.cst (.int 0))) (.idx (.var 1) (.cst (.int 1)))) (.bin .mul (.idx (.var 1) (.cst (.int 0))) (.idx (.var 0) (.cst (.int 1))))) (.cons (.bin .mul (.idx (.var 0) (.cst (.int 1))) (.idx (.var 1) (.cst (.int 1)))) .nil)) .nil)) .done)
theorem plus_wps {F : Fm} {f : Nat} {p1 p2 q1 q2 : Int} (h1 : 0 < q1 ∧ q1 < 2 ^ 64) (h2 : 0 < q2 ∧ q2 < 2 ^ 64) {st : Store} {E : EndsD} (q : F f [.int (p1 * q2 + p2 * q1), .int (q1 * q2)] st E.rt) : wps F (plusC f) [some (.tup [.int p1, .int q1]), some (.tup [.int p2, .int q2])] st E := by
  unfold plusC
  simp [wps_seq, permN, permL]
  exact ⟨mul_okR (by omega), mul_okR (by omega), mul_okR (by omega), q⟩
end Cb

namespace Cb
open PySem PySem.Spec PyProof.Rows L2
/-! ### loops over enumerate of a tuple; comprehensions of two clauses -/
theorem step_enum {xs : List D} {st : Store} {i : Nat} (h : i < xs.length) : (ItD.enum (.seq xs)).step i st = some (some (.tup [.int i, xs[i]])) := by
  simp [ItD.step, Src.at, List.getElem?_eq_getElem h]
theorem end_enum {xs : List D} {st : Store} : (ItD.enum (.seq xs)).step xs.length st = some none := by
  simp [ItD.step, Src.at]
theorem for_enum {xs : List D} {bind : D → Env1 → Option Env1} {wb : Env1 → Store → EndsD → Prop} {E : EndsD} (I : Nat → Env1 → Store → Prop) {ρ : Env1} {st : Store} (h0 : I 0 ρ st)
    (hs : ∀ i d ρ st (X : Env1 → Store → Prop), xs[i]? = some d → I i ρ st → (∀ ρ' st', I (i + 1) ρ' st' → X ρ' st') → ∃ ρ1, bind (.tup [.int i, d]) ρ = some ρ1 ∧ wb ρ1 st ⟨X, E.rt, E.nx, X⟩)
    (he : ∀ ρ st, I xs.length ρ st → E.nx ρ st) : ∃ n, forLoop (ItD.enum (.seq xs)).step bind wb E n 0 ρ st :=
  ⟨_, for_inv I xs.length (fun i ρ st X hi h hx => by
    obtain ⟨ρ1, h1, h2⟩ := hs i _ ρ st X (List.getElem?_eq_getElem hi) h hx
    exact ⟨_, ρ1, step_enum hi, h1, h2⟩) (fun ρ st h => ⟨end_enum, he ρ st h⟩) (Nat.zero_le _) h0⟩
theorem lc_enum {xs : List D} {bind : D → Option Env1} {wc we : Env1 → Store → K1 → Prop} {Q : K1} (I : Nat → List D → Store → Prop) {st : Store} (h0 : I 0 [] st)
    (hs : ∀ i d acc st (X : List D → Store → Prop), xs[i]? = some d → I i acc st → (∀ acc' st', I (i + 1) acc' st' → X acc' st') → ∃ ρ1, bind (.tup [.int i, d]) = some ρ1 ∧ wc ρ1 st fun b st1 => Br b (we ρ1 st1 fun y st2 => acc.length < sizeLine ∧ X (acc ++ [y]) st2) (X acc st1))
    (he : ∀ acc st, I xs.length acc st → Q (.ref st.length) (st ++ [.lst acc])) : ∃ n, lcLoop (ItD.enum (.seq xs)).step bind wc we Q n 0 [] st :=
  ⟨_, lc_inv I xs.length (fun i acc st X hi h hx => by
    obtain ⟨ρ1, h1, h2⟩ := hs i _ acc st X (List.getElem?_eq_getElem hi) h hx
    exact ⟨_, ρ1, step_enum hi, h1, h2⟩) (fun acc st h => ⟨end_enum, he acc st h⟩) (Nat.zero_le _) h0⟩
theorem lc2_inv {step : Nat → Store → Option (Option D)} {bind : D → Option Env1} {wc : Env1 → Store → K1 → Prop} {inner : Env1 → List D → Store → (List D → Store → Prop) → Prop} {Q : K1} (I : Nat → List D → Store → Prop) (len : Nat)
    (hs : ∀ i acc st (X : List D → Store → Prop), i < len → I i acc st → (∀ acc' st', I (i + 1) acc' st' → X acc' st') → ∃ d ρ1, step i st = some (some d) ∧ bind d = some ρ1 ∧ wc ρ1 st fun b st1 => Br b (inner ρ1 acc st1 X) (X acc st1))
    (he : ∀ acc st, I len acc st → step len st = some none ∧ Q (.ref st.length) (st ++ [.lst acc])) : ∀ {i : Nat} {acc : List D} {st : Store}, i ≤ len → I i acc st → lc2Loop step bind wc inner Q (len - i + 1) i acc st := by
  intro i acc st hi h
  generalize hk : len - i = k
  induction k generalizing i acc st with
  | zero =>
    obtain rfl : i = len := by omega
    obtain ⟨h1, h2⟩ := he _ _ h
    unfold lc2Loop
    rw [h1]
    exact h2
  | succ k ih =>
    obtain ⟨d, ρ1, h1, h2, h3⟩ := hs i acc st (lc2Loop step bind wc inner Q (k + 1) (i + 1)) (by omega) h fun ρ' st' h' => ih (by omega) h' (by omega)
    unfold lc2Loop
    rw [h1]
    exact ⟨ρ1, h2, h3⟩
theorem in_inv {step : Nat → Store → Option (Option D)} {bind : D → Option Env1} {wc we : Env1 → Store → K1 → Prop} {K : List D → Store → Prop} (I : Nat → List D → Store → Prop) (len : Nat)
    (hs : ∀ i acc st (X : List D → Store → Prop), i < len → I i acc st → (∀ acc' st', I (i + 1) acc' st' → X acc' st') → ∃ d ρ1, step i st = some (some d) ∧ bind d = some ρ1 ∧ wc ρ1 st fun b st1 => Br b (we ρ1 st1 fun y st2 => acc.length < sizeLine ∧ X (acc ++ [y]) st2) (X acc st1))
    (he : ∀ acc st, I len acc st → step len st = some none ∧ K acc st) : ∀ {i : Nat} {acc : List D} {st : Store}, i ≤ len → I i acc st → lcIn step bind wc we K (len - i + 1) i acc st := by
  intro i acc st hi h
  generalize hk : len - i = k
  induction k generalizing i acc st with
  | zero =>
    obtain rfl : i = len := by omega
    obtain ⟨h1, h2⟩ := he _ _ h
    unfold lcIn
    rw [h1]
    exact h2
  | succ k ih =>
    obtain ⟨d, ρ1, h1, h2, h3⟩ := hs i acc st (lcIn step bind wc we K (k + 1) (i + 1)) (by omega) h fun ρ' st' h' => ih (by omega) h' (by omega)
    unfold lcIn
    rw [h1]
    exact ⟨ρ1, h2, h3⟩
theorem step_seq {xs : List D} {st : Store} {i : Nat} (h : i < xs.length) : (ItD.src (.seq xs)).step i st = some (some xs[i]) := by
  simp [ItD.step, Src.at, List.getElem?_eq_getElem h]
theorem end_seq {xs : List D} {st : Store} : (ItD.src (.seq xs)).step xs.length st = some none := by
  simp [ItD.step, Src.at]
theorem lc2_seq {xs : List D} {bind : D → Option Env1} {wc : Env1 → Store → K1 → Prop} {inner : Env1 → List D → Store → (List D → Store → Prop) → Prop} {Q : K1} (I : Nat → List D → Store → Prop) {st : Store} (h0 : I 0 [] st)
    (hs : ∀ i d acc st (X : List D → Store → Prop), xs[i]? = some d → I i acc st → (∀ acc' st', I (i + 1) acc' st' → X acc' st') → ∃ ρ1, bind d = some ρ1 ∧ wc ρ1 st fun b st1 => Br b (inner ρ1 acc st1 X) (X acc st1))
    (he : ∀ acc st, I xs.length acc st → Q (.ref st.length) (st ++ [.lst acc])) : ∃ n, lc2Loop (ItD.src (.seq xs)).step bind wc inner Q n 0 [] st :=
  ⟨_, lc2_inv I xs.length (fun i acc st X hi h hx => by
    obtain ⟨ρ1, h1, h2⟩ := hs i _ acc st X (List.getElem?_eq_getElem hi) h hx
    exact ⟨_, ρ1, step_seq hi, h1, h2⟩) (fun acc st h => ⟨end_seq, he acc st h⟩) (Nat.zero_le _) h0⟩
theorem in_seq {xs : List D} {bind : D → Option Env1} {wc we : Env1 → Store → K1 → Prop} {K : List D → Store → Prop} (I : Nat → List D → Store → Prop) {acc : List D} {st : Store} (h0 : I 0 acc st)
    (hs : ∀ i d acc st (X : List D → Store → Prop), xs[i]? = some d → I i acc st → (∀ acc' st', I (i + 1) acc' st' → X acc' st') → ∃ ρ1, bind d = some ρ1 ∧ wc ρ1 st fun b st1 => Br b (we ρ1 st1 fun y st2 => acc.length < sizeLine ∧ X (acc ++ [y]) st2) (X acc st1))
    (he : ∀ acc st, I xs.length acc st → K acc st) : ∃ n, lcIn (ItD.src (.seq xs)).step bind wc we K n 0 acc st :=
  ⟨_, in_inv I xs.length (fun i acc st X hi h hx => by
    obtain ⟨ρ1, h1, h2⟩ := hs i _ acc st X (List.getElem?_eq_getElem hi) h hx
    exact ⟨_, ρ1, step_seq hi, h1, h2⟩) (fun acc st h => ⟨end_seq, he acc st h⟩) (Nat.zero_le _) h0⟩
section
variable {F : Fm} {ρ : Env1} {st : Store} {Q : K1} {x : D} {as c as1 c1 e : C} {own vs1 : List Nat} {tg tg1 : Tg} {k k1 : Ik}
@[simp] theorem wp_lc2 : wp F (.lc2 own vs1 tg k as c tg1 k1 as1 c1 e) ρ st Q ↔ wp F as ρ st fun y st1 => ∃ xs, y = .tup xs ∧ som (itOf k xs st1) fun it =>
      ∃ n, lc2Loop it.step (fun d => setTg tg d (wipeD ρ own)) (wp F c) (fun ρ1 acc st2 K => wp F as1 ρ1 st2 fun y st3 => ∃ xs, y = .tup xs ∧ som (itOf k1 xs st3) fun it1 =>
        ∃ n, lcIn it1.step (fun d => setTg tg1 d (wipeD ρ1 vs1)) (wp F c1) (wp F e) K n 0 acc st3) Q n 0 [] st1 := Iff.rfl
@[simp] theorem it_enum : itOf .enum [x] st = (srcOf st x).map .enum := rfl
end
end Cb

namespace Cb
open PySem PySem.Spec PyProof.Rows L2
/-! ### the deck made by a comprehension -/
def deckC2 (kd : Str) (k0 k1 k2 k3 k4 : Int) : S := (.seq (.asg (.name 1) (.cst (.int k0))) (.seq (.loop (.name 2) .plain (.cons (.slc false true (.var 0) (.cst .non) (.cst (.int 63))) .nil) (.seq (.asg (.name 1) (.bin .mod (.blt .int (.cons (.bin .add (.bin .add (.bin .mul (.var 1) (.cst (.int k1))) (.bin .mod (.blt .int (.cons (.var 2) .nil)) (.cst (.int k2)))) (.cst (.int k3))) .nil)) (.cst (.int k4)))) .done)) (.seq (.ret (.dsp [.inr "cells", .inr "mixed", .inr kd] (.cons (.revL (.lc [2] (.name 2) .plain (.cons (.slc false true (.var 0) (.cst .non) (.cst (.int 63))) .nil) (.cst (.bl true)) (.blt .int (.cons (.var 2) .nil)))) (.cons (.var 1) (.cons (.cst (.int 0)) .nil))))) .done)))
theorem deck2_wps {F : Fm} {kd : Str} {k0 k1 k2 k3 k4 : Int} (s1 : small k1) (s2 : small k2) (s4 : small k4) {st : Store} {ns : List Int} {n : Nat} {E : EndsD} (hs : st[n]? = some (.frz (ns.map D.int))) (hl : ns.length ≤ 63)
    (q : ∀ st' r c, Deck kd st' r c → n ≠ r → n ≠ c → st.length ≤ st'.length → (∀ i, i < st.length → st'[i]? = st[i]?) → E.rt (.ref r) st') : wps F (deckC2 kd k0 k1 k2 k3 k4) [some (.ref n), none, none] st E := by
  unfold small at s1 s2 s4
  unfold deckC2
  refine seq_i fun X hX => ?_
  simp
  refine hX _ _ (seq_i fun X2 hX2 => ?_)
  simp only [wps_loop, wp_cons, wp_slc, wp_var, wp_cst, part_f, part_t, som_some, wp_nil]
  refine ⟨.ref n, rfl, slc_frz hs ⟨[], rfl, _, rfl, ?_⟩⟩
  rw [cut_map]
  have hn := (List.getElem?_eq_some_iff.mp hs).1
  have hlen := cut_len ns none (some 63)
  generalize hC : cut ns none (some 63) = cs at hlen
  have e1 : (st ++ [Cell.lst (cs.map D.int)])[st.length]? = some (.lst (cs.map D.int)) := get_last
  simp only [it_plain, srcOf, e1, Option.map_some, som_some]
  have hs1 := get_app hs [Cell.lst (cs.map D.int)]
  refine for_live (xs := cs.map D.int) (fun i ρ st1 => (∃ m x, ρ = [some (.ref n), some (.int m), x]) ∧ st1 = st ++ [Cell.lst (cs.map D.int)]) ⟨⟨k0, none, rfl⟩, rfl⟩ (fun i ρ st1 h => ?_) (fun i d ρ st1 Y hd h hY => ?_) (fun ρ st1 h => ?_)
  · obtain ⟨_, rfl⟩ := h
    simp only [Src.at, e1]
  · obtain ⟨⟨m, x, rfl⟩, rfl⟩ := h
    rw [List.getElem?_map] at hd
    obtain ⟨cell, _, rfl⟩ := Option.map_eq_some_iff.mp hd
    refine ⟨_, rfl, seq_i fun X3 hX3 => ?_⟩
    simp
    exact ⟨mul_okR (by omega), by omega, by omega, hX3 _ _ (hY _ _ ⟨⟨_, _, rfl⟩, rfl⟩)⟩
  · obtain ⟨⟨m, x, rfl⟩, rfl⟩ := h
    refine hX2 _ _ (seq_i fun X3 hX3 => ?_)
    simp only [wps_ret, wp_dsp, wp_cons, wp_revL, wp_lc, wp_slc, wp_var, wp_cst, part_f, part_t, som_some, wp_nil]
    refine ⟨.ref n, rfl, slc_frz hs1 ⟨[], rfl, [.ref _], rfl, ?_⟩⟩
    rw [cut_map, hC]
    have e2 : (st ++ [Cell.lst (cs.map D.int)] ++ [Cell.lst (cs.map D.int)])[(st ++ [Cell.lst (cs.map D.int)]).length]? = some (.lst (cs.map D.int)) := get_last
    simp only [it_plain, srcOf, e2, Option.map_some, som_some]
    refine lc_live (xs := cs.map D.int) (fun i acc st1 => st1 = st ++ [Cell.lst (cs.map D.int)] ++ [Cell.lst (cs.map D.int)] ∧ acc = (cs.take i).map D.int) ⟨rfl, rfl⟩ (fun i acc st1 h => ?_) (fun i d acc st1 Y hd ⟨h1, h2⟩ hY => ?_) (fun acc st1 ⟨h1, h2⟩ => ?_)
    · obtain ⟨rfl, _⟩ := h
      simp only [Src.at, e2]
    · subst h1 h2
      rw [List.getElem?_map] at hd
      obtain ⟨cell, hc, rfl⟩ := Option.map_eq_some_iff.mp hd
      have hi := (List.getElem?_eq_some_iff.mp hc).1
      refine ⟨_, rfl, ?_⟩
      simp [wipeD]
      refine ⟨by omega, hY _ _ ⟨by simp, ?_⟩⟩
      rw [List.take_add_one, hc]
      simp
    · subst h1 h2
      rw [List.length_map, List.take_length]
      have key : ∀ S3 : Store, st.length ≤ S3.length → (∀ i, i < st.length → S3[i]? = st[i]?) → E.rt (.ref (S3 ++ [Cell.lst (cs.map D.int).reverse]).length) (S3 ++ [Cell.lst (cs.map D.int).reverse] ++ [Cell.dct [(.inr "cells", .ref S3.length), (.inr "mixed", .int m), (.inr kd, .int 0)]]) := fun S3 h1 h2 => by
        refine q _ _ S3.length ⟨cs.reverse, m, 0, by simp; omega, by simp, get_last, ?_⟩ (by simp; omega) (by omega) (by simp; omega) (fun i hi => ?_)
        · rw [List.map_reverse]
          exact get_app get_last _
        · rw [List.getElem?_append_left (by simp; omega), List.getElem?_append_left (by omega)]
          exact h2 i hi
      generalize hS : st ++ [Cell.lst (cs.map D.int)] ++ [Cell.lst (cs.map D.int)] = S2
      have g1 : st.length ≤ S2.length := by rw [← hS]; simp
      have g2 : ∀ i, i < st.length → S2[i]? = st[i]? := fun i hi => by
        rw [← hS, List.getElem?_append_left (by simp; omega), List.getElem?_append_left hi]
      refine ⟨cs.map D.int, by simp only [listS, get_last], .int m, rfl, [], rfl, [.int 0], rfl, [.int m, .int 0], rfl, [.ref _, .int m, .int 0], rfl, ?_⟩
      refine key _ (by simp; omega) (fun i hi => ?_)
      rw [List.getElem?_append_left (by omega)]
      exact g2 i hi
end Cb

namespace Cb
open PySem PySem.Spec PyProof.Rows L2
/-! ### fractions as rational numbers -/
theorem log2_mono {a b : Nat} (h : a ≤ b) : a.log2 ≤ b.log2 := by
  by_cases ha : a = 0
  · subst ha
    exact Nat.zero_le _
  · have h1 : b < 2 ^ (b.log2 + 1) := (Nat.log2_lt (by omega)).mp (Nat.lt_succ_self _)
    have h2 := (Nat.log2_lt ha).mpr (Nat.lt_of_le_of_lt h h1)
    omega
theorem log2_mul (a b : Nat) : (a * b).log2 ≤ a.log2 + b.log2 + 1 := by
  by_cases ha : a = 0
  · subst ha
    simp
  by_cases hb : b = 0
  · subst hb
    simp
  have h1 : a < 2 ^ (a.log2 + 1) := (Nat.log2_lt ha).mp (Nat.lt_succ_self _)
  have h2 : b < 2 ^ (b.log2 + 1) := (Nat.log2_lt hb).mp (Nat.lt_succ_self _)
  have h3 : a * b < 2 ^ (a.log2 + 1 + (b.log2 + 1)) := by
    rw [Nat.pow_add]
    exact Nat.mul_lt_mul'' h1 h2
  have := (Nat.log2_lt (Nat.mul_ne_zero ha hb)).mpr h3
  omega
theorem log2_add (a b : Nat) : (a + b).log2 ≤ max a.log2 b.log2 + 1 := by
  have h1 : a + b ≤ max a b * 2 := by omega
  have h2 := log2_mono h1
  have h3 := log2_mul (max a b) 2
  have e : (2 : Nat).log2 = 1 := by decide
  by_cases ha : max a b = 0
  · have : a + b = 0 := by omega
    rw [this]
    simp
  have h4 : max a b < 2 ^ ((max a b).log2 + 1) := (Nat.log2_lt ha).mp (Nat.lt_succ_self _)
  have h5 : a + b < 2 ^ ((max a b).log2 + 1 + 1) := by
    rw [Nat.pow_succ]
    omega
  by_cases h0 : a + b = 0
  · rw [h0]
    simp
  have h6 := (Nat.log2_lt h0).mpr h5
  have h7 : (max a b).log2 = max a.log2 b.log2 := by
    rcases Nat.le_total a b with h | h
    · rw [Nat.max_eq_right h, Nat.max_eq_right (log2_mono h)]
    · rw [Nat.max_eq_left h, Nat.max_eq_left (log2_mono h)]
  omega
theorem log2_pow2 (k : Nat) : (2 ^ k).log2 = k := Nat.log2_two_pow
/-- the length of a whole number -/
def il (i : Int) : Nat := i.natAbs.log2
theorem il_mul (a b : Int) : il (a * b) ≤ il a + il b + 1 := by
  unfold il
  rw [Int.natAbs_mul]
  exact log2_mul _ _
theorem il_add (a b : Int) : il (a + b) ≤ max (il a) (il b) + 1 := by
  unfold il
  exact Nat.le_trans (log2_mono (Int.natAbs_add_le a b)) (log2_add _ _)
theorem il_nat (n : Nat) : il (n : Int) = n.log2 := by unfold il; simp
theorem il_neg (a : Int) : il (-a) = il a := by unfold il; simp
theorem div_okB {i j : Int} (h : 0 < j) (h2 : il j < 9000) : DivOk i j := ⟨h, PyProof.noPylong_of_log2 h2⟩
theorem mul_okB {a b : Int} (h1 : il a < 100000) (h2 : il b < 100000) : IntMulOk a b := by
  have e : ∀ x : Int, Builtin.Int.intBits x ≤ il x + 1 := fun x => by
    unfold Builtin.Int.intBits il
    split <;> omega
  have := e a
  have := e b
  unfold IntMulOk
  have hb : Builtin.Int.intTooBig ((Builtin.Int.intBits a + Builtin.Int.intBits b : Nat) : Int) = false := by
    unfold Builtin.Int.intTooBig
    rw [decide_eq_false]
    have : (1000000 : Int) ≤ (bitsLine : Nat) := by decide +kernel
    omega
  have hb' : Builtin.Int.intTooBig ((Builtin.Int.intBits a : Int) + (Builtin.Int.intBits b : Int)) = false := by
    rw [← Int.natCast_add]
    exact hb
  simp [hb']
/-- a rational number as the program has it -/
def frR (x : Rat) : D := .tup [.int x.num, .int (x.den : Nat)]
theorem frR_mk (a : Int) {b : Nat} (hb : 0 < b) : D.tup [.int (a / (Nat.gcd a.natAbs b : Nat)), .int (b / Nat.gcd a.natAbs b : Nat)] = frR (mkRat a b) := by
  have e : mkRat a b = Rat.normalize a b (by omega) := by
    unfold mkRat
    rw [dif_neg (by omega)]
  unfold frR
  rw [e, Rat.normalize_eq]
theorem frR_inj {x y : Rat} : frR x = frR y ↔ x = y := by
  constructor
  · intro h
    unfold frR at h
    injection h with h
    simp at h
    exact Rat.ext h.1 (by exact_mod_cast h.2)
  · rintro rfl
    rfl
/-- no more than k bits above and below -/
structure RB (k : Nat) (x : Rat) : Prop where
  n : il x.num < k
  d : x.den.log2 < k
theorem pl_frR {x : Rat} : Big.pl (frR x) = true := by simp [frR, Big.pl, Big.plAll]
theorem dep_frR {x : Rat} : dep (frR x) ≤ 1 := by simp [frR, dep, depAll]
theorem sm_frR {x : Rat} (h : RB 1900 x) : Big.Sm (frR x) := by
  refine ⟨?_, ?_, ?_⟩
  · simp [frR, Big.sm, Big.smAll]
    exact ⟨h.n, h.d⟩
  · simp [frR, dep, depAll]
  · simp [frR, cnt, cntAll]
theorem low_wpsR {F : Fm} {f : Nat} (hf : ∀ (a : Int) (b : Nat) (st : Store) (Q : K1), Q (.int (Nat.gcd a.natAbs b : Nat)) st → F f [.int a, .int b] st Q) {a : Int} {b : Nat} {st : Store} {E : EndsD} (hb : 0 < b) (hb2 : b.log2 < 9000)
    (q : E.rt (frR (mkRat a b)) st) : wps F (lowC f) [some (.int a), some (.int b), none] st E := by
  have hg : 0 < Nat.gcd a.natAbs b := Nat.gcd_pos_of_pos_right _ hb
  have hg2 : Nat.gcd a.natAbs b ≤ b := Nat.gcd_le_right _ hb
  have hg3 : il ((Nat.gcd a.natAbs b : Nat) : Int) < 9000 := by
    rw [il_nat]
    exact Nat.lt_of_le_of_lt (log2_mono hg2) hb2
  rw [← frR_mk a hb] at q
  unfold lowC
  refine seq_i fun X hX => ?_
  simp [permN, permL]
  refine hf _ _ _ _ (hX _ _ ?_)
  simp [wps_seq]
  exact ⟨div_okB (by omega) hg3, div_okB (by omega) hg3, q⟩
theorem add_mk (x y : Rat) : x + y = mkRat (x.num * y.den + y.num * x.den) (x.den * y.den) := by
  rw [Rat.add_def]
  unfold mkRat
  rw [dif_neg (Nat.mul_ne_zero x.den_nz y.den_nz)]
theorem mul_mk (x y : Rat) : x * y = mkRat (x.num * y.num) (x.den * y.den) := by
  rw [Rat.mul_def]
  unfold mkRat
  rw [dif_neg (Nat.mul_ne_zero x.den_nz y.den_nz)]
theorem den_pos (x : Rat) : 0 < x.den := Nat.pos_of_ne_zero x.den_nz
theorem plus_wpsR {F : Fm} {f : Nat} {x y : Rat} (hx : RB 4000 x) (hy : RB 4000 y) {st : Store} {E : EndsD} (q : F f [.int (x.num * y.den + y.num * x.den), .int ((x.den * y.den : Nat) : Int)] st E.rt) : wps F (plusC f) [some (frR x), some (frR y)] st E := by
  have e1 := il_nat x.den
  have e2 := il_nat y.den
  have := hx.n
  have := hx.d
  have := hy.n
  have := hy.d
  unfold plusC
  simp [wps_seq, permN, permL, frR]
  rw [Int.natCast_mul] at q
  exact ⟨mul_okB (by omega) (by omega), mul_okB (by omega) (by omega), mul_okB (by omega) (by omega), q⟩
/-- x lies on the grid of the N-th parts -/
def Grid (N : Nat) (x : Rat) : Prop := ∃ a : Int, x = mkRat a N
theorem Grid.add {N : Nat} (hN : 0 < N) {x y : Rat} (hx : Grid N x) (hy : Grid N y) : Grid N (x + y) := by
  obtain ⟨a, rfl⟩ := hx
  obtain ⟨b, rfl⟩ := hy
  refine ⟨a + b, ?_⟩
  rw [Rat.mkRat_add_mkRat _ _ (by omega) (by omega), Rat.mkRat_eq_iff (Nat.mul_ne_zero (by omega) (by omega)) (by omega)]
  rw [Int.natCast_mul]
  grind
theorem Grid.mul {N M : Nat} (hN : 0 < N) (hM : 0 < M) {x y : Rat} (hx : Grid N x) (hy : Grid M y) : Grid (N * M) (x * y) := by
  obtain ⟨a, rfl⟩ := hx
  obtain ⟨b, rfl⟩ := hy
  exact ⟨a * b, by rw [Rat.mkRat_mul_mkRat]⟩
theorem Grid.up {N M : Nat} (hN : 0 < N) (hM : 0 < M) {x : Rat} (hx : Grid N x) : Grid (N * M) x := by
  obtain ⟨a, rfl⟩ := hx
  refine ⟨a * M, ?_⟩
  rw [Rat.mkRat_eq_iff (by omega) (Nat.mul_ne_zero (by omega) (by omega)), Int.natCast_mul]
  grind
theorem Grid.zero {N : Nat} : Grid N 0 := ⟨0, by simp⟩
theorem den_dvd {N : Nat} (hN : 0 < N) {x : Rat} (hx : Grid N x) : x.den ∣ N := by
  obtain ⟨a, rfl⟩ := hx
  have h := frR_mk a hN
  unfold frR at h
  injection h with h
  simp at h
  have e : (mkRat a N).den = N / Nat.gcd a.natAbs N := by
    have := h.2
    rw [← Int.natCast_ediv] at this
    exact_mod_cast this.symm
  rw [e]
  exact Nat.div_dvd_of_dvd (Nat.gcd_dvd_right _ _)
theorem RB.grid {N k : Nat} (hN : 0 < N) {x : Rat} (h0 : 0 ≤ x) (h1 : x ≤ 1) (hx : Grid N x) (hk : N.log2 < k) : RB k x := by
  have hd := Nat.le_of_dvd hN (den_dvd hN hx)
  have h2 : x.num ≤ x.den := by
    have := (Rat.le_iff x 1).mp h1
    simpa using this
  have h3 : 0 ≤ x.num := by
    have := (Rat.le_iff 0 x).mp h0
    simpa using this
  have hl := log2_mono hd
  refine ⟨?_, by omega⟩
  unfold il
  have : x.num.natAbs ≤ x.den := by omega
  have := log2_mono this
  omega
theorem RB.mono {j k : Nat} {x : Rat} (h : RB j x) (hk : j ≤ k) : RB k x := ⟨by have := h.n; omega, by have := h.d; omega⟩
end Cb

namespace Cb.K51
open PySem PySem.Spec PyProof.Rows L2
def st (i : Nat) : Stmt := PySem.Challenge.pw_coinblind_k51_whole_stretches.main.body.getD i (.Pass ⟨0, 0, 0, 0⟩)
def stM (i j : Nat) : Stmt := match st i with
  | .ClassDef _ _ _ b _ _ _ _ _ _ _ => b.getD j (.Pass ⟨0, 0, 0, 0⟩)
  | s => s

def klass : List Kl := []
def mpats : List MPat := []
def cpats : List CPat := []
def pats : List Pat := [
  ⟨"is_integer", 1, [], 0, [0]⟩,
  ⟨"is_between", 3, [], 1, [0, 1, 2]⟩,
  ⟨"are_between", 3, [], 2, [0, 1, 2]⟩,
  ⟨"divisor_of", 2, [], 4, [0, 1]⟩,
  ⟨"is_fraction_value", 1, [], 5, [0]⟩,
  ⟨"lowest", 2, [], 7, [0, 1]⟩,
  ⟨"plus", 2, [], 8, [0, 1]⟩,
  ⟨"total", 1, [], 10, [0]⟩,
  ⟨"is_share_value", 1, [], 6, [0]⟩,
  ⟨"is_table_value", 1, [], 11, [0]⟩,
  ⟨"is_state_value", 3, [], 13, [0, 1, 2]⟩,
  ⟨"is_model_value", 1, [], 14, [0]⟩,
  ⟨"is_way_value", 2, [], 16, [0, 1]⟩,
  ⟨"times", 2, [], 9, [0, 1]⟩,
  ⟨"ahead_of", 2, [], 18, [0, 1]⟩,
  ⟨"stretch_within", 3, [], 19, [0, 1, 2]⟩,
  ⟨"number_of", 1, [], 12, [0]⟩,
  ⟨"are_bits_value", 1, [], 3, [0]⟩,
  ⟨"need_model", 1, [], 15, [0]⟩,
  ⟨"need_way", 2, [], 17, [0, 1]⟩,
  ⟨"raw_stretch", 2, [], 20, [0, 1]⟩,
  ⟨"need_bits", 1, [], 22, [0]⟩,
  ⟨"stretch_of_bits", 1, [], 21, [0]⟩,
  ⟨"_law_draw", 2, [], 26, [0, 1]⟩,
  ⟨"_law_common", 2, [], 29, [0, 1]⟩,
  ⟨"_law_fraction", 2, [], 30, [0, 1]⟩,
  ⟨"_law_plus", 2, [], 31, [0, 1]⟩,
  ⟨"_law_pick", 2, [], 27, [0, 1]⟩,
  ⟨"_law_is_integer", 1, [], 28, [0]⟩,
  ⟨"_law_table", 3, [], 35, [0, 1, 2]⟩,
  ⟨"_law_times", 2, [], 32, [0, 1]⟩,
  ⟨"_law_total", 1, [], 33, [0]⟩,
  ⟨"_law_is_less", 2, [], 34, [0, 1]⟩,
  ⟨"_law_ways", 2, [], 41, [0, 1]⟩,
  ⟨"stretch", 2, [], 23, [0, 1]⟩,
  ⟨"_law_stretch", 2, [], 40, [0, 1]⟩,
  ⟨"_law_is_way", 2, [], 37, [0, 1]⟩,
  ⟨"stretch", 0, ["way", "model"], 23, [1, 0]⟩,
  ⟨"_law_lies", 2, [], 43, [0, 1]⟩,
  ⟨"_law_bits_stretch", 1, [], 42, [0]⟩,
  ⟨"_law_bits", 2, [], 36, [0, 1]⟩,
  ⟨"bits_stretch", 1, [], 24, [0]⟩,
  ⟨"bits_stretch", 0, ["bits"], 24, [0]⟩,
  ⟨"_law_deck", 1, [], 25, [0]⟩,
  ⟨"_law_model", 3, [], 38, [0, 1, 2]⟩,
  ⟨"_law_chances", 0, [], 44, []⟩,
  ⟨"_law_is_right", 3, [], 47, [0, 1, 2]⟩,
  ⟨"_law_are_few", 2, [], 46, [0, 1]⟩,
  ⟨"_law_are_bits_right", 2, [], 48, [0, 1]⟩,
  ⟨"_law_way", 3, [], 39, [0, 1, 2]⟩,
  ⟨"_law_lie_beside", 2, [], 45, [0, 1]⟩]
def bl : List Str := ["len", "int", "abs", "max", "min", "repr", "tuple", "list", "all", "range", "isinstance", "bool"]
def consts : List (Str × D) := [("ZERO", .tup [.int (0), .int (1)]), ("ONE", .tup [.int (1), .int (1)])]
/-- is_integer(thing): thing -/
def b0 : S := (.seq (.ret (.and (.isi (.var 0) [.int]) (.tnot (.tval (.isi (.var 0) [.bool]))))) .done)
def d0 : Def := ⟨"is_integer", (st 6), ["thing"], ["thing"], b0, none, "is_integer"⟩
/-- is_between(thing, least, most): thing, least, most -/
def b1 : S := (.seq (.ret (.and (.call 0 1 0 [0] (.cons (.var 0) .nil) .nil) (.chain .le .le (.var 1) (.var 0) (.var 2)))) .done)
def d1 : Def := ⟨"is_between", (st 7), ["thing", "least", "most"], ["thing", "least", "most"], b1, none, "is_between"⟩
/-- are_between(thing, least, most): thing, least, most, part -/
def b2 : S := (.seq (.ret (.and (.isi (.var 0) [.tuple]) (.blt .all (.cons (.lc [3] (.name 3) .plain (.cons (.var 0) .nil) (.cst (.bl true)) (.call 1 3 0 [0, 1, 2] (.cons (.var 3) (.cons (.var 1) (.cons (.var 2) .nil))) .nil)) .nil)))) .done)
def d2 : Def := ⟨"are_between", (st 8), ["thing", "least", "most", "part"], ["thing", "least", "most"], b2, none, "are_between"⟩
/-- are_bits_value(thing): thing -/
def b3 : S := (.seq (.ret (.call 2 3 0 [0, 1, 2] (.cons (.var 0) (.cons (.cst (.int 0)) (.cons (.cst (.int 1)) .nil))) .nil)) .done)
def d3 : Def := ⟨"are_bits_value", (st 9), ["thing"], ["thing"], b3, none, "are_bits_value"⟩
/-- divisor_of(one, other): one, other -/
def b4 : S := (.seq (.asg (.name 0) (.blt .abs (.cons (.var 0) .nil))) (.seq (.whil (.cmp .ne (.var 1) (.cst (.int 0))) (.seq (.par [0, 1] (.cons (.var 1) (.cons (.bin .mod (.var 0) (.var 1)) .nil))) .done)) (.seq (.ret (.var 0)) .done)))
def d4 : Def := ⟨"divisor_of", (st 13), ["one", "other"], ["one", "other"], b4, none, "divisor_of"⟩
/-- is_fraction_value(thing): thing -/
def b5 : S := (.seq (.ite (.tor (.tnot (.tval (.isi (.var 0) [.tuple]))) (.tor (.cmp .ne (.blt .len (.cons (.var 0) .nil)) (.cst (.int 2))) (.tor (.tnot (.tval (.call 0 1 0 [0] (.cons (.idx (.var 0) (.cst (.int 0))) .nil) .nil))) (.tnot (.tval (.call 0 1 0 [0] (.cons (.idx (.var 0) (.cst (.int 1))) .nil) .nil)))))) (.seq (.ret (.cst (.bl false))) .done) .done) (.seq (.ret (.and (.cmp .gt (.idx (.var 0) (.cst (.int 1))) (.cst (.int 0))) (.cmp .eq (.call 4 2 0 [0, 1] (.cons (.idx (.var 0) (.cst (.int 0))) (.cons (.idx (.var 0) (.cst (.int 1))) .nil)) .nil) (.cst (.int 1))))) .done))
def d5 : Def := ⟨"is_fraction_value", (st 14), ["thing"], ["thing"], b5, none, "is_fraction_value"⟩
/-- is_share_value(thing): thing -/
def b6 : S := (.seq (.ret (.and (.call 5 1 0 [0] (.cons (.var 0) .nil) .nil) (.cmp .ge (.idx (.var 0) (.cst (.int 0))) (.cst (.int 0))))) .done)
def d6 : Def := ⟨"is_share_value", (st 15), ["thing"], ["thing"], b6, none, "is_share_value"⟩
/-- lowest(top, bottom): top, bottom, common -/
def b7 : S := (.seq (.asg (.name 2) (.call 4 2 0 [0, 1] (.cons (.var 0) (.cons (.var 1) .nil)) .nil)) (.seq (.ret (.tup (.cons (.bin .fdiv (.var 0) (.var 2)) (.cons (.bin .fdiv (.var 1) (.var 2)) .nil)))) .done))
def d7 : Def := ⟨"lowest", (st 16), ["top", "bottom", "common"], ["top", "bottom"], b7, none, "lowest"⟩
/-- plus(one, other): one, other -/
def b8 : S := (.seq (.ret (.call 7 2 0 [0, 1] (.cons (.bin .add (.bin .mul (.idx (.var 0) (.cst (.int 0))) (.idx (.var 1) (.cst (.int 1)))) (.bin .mul (.idx (.var 1) (.cst (.int 0))) (.idx (.var 0) (.cst (.int 1))))) (.cons (.bin .mul (.idx (.var 0) (.cst (.int 1))) (.idx (.var 1) (.cst (.int 1)))) .nil)) .nil)) .done)
def d8 : Def := ⟨"plus", (st 17), ["one", "other"], ["one", "other"], b8, none, "plus"⟩
/-- times(one, other): one, other -/
def b9 : S := (.seq (.ret (.call 7 2 0 [0, 1] (.cons (.bin .mul (.idx (.var 0) (.cst (.int 0))) (.idx (.var 1) (.cst (.int 0)))) (.cons (.bin .mul (.idx (.var 0) (.cst (.int 1))) (.idx (.var 1) (.cst (.int 1)))) .nil)) .nil)) .done)
def d9 : Def := ⟨"times", (st 18), ["one", "other"], ["one", "other"], b9, none, "times"⟩
/-- total(some): some, found, one -/
def b10 : S := (.seq (.asg (.name 1) (.cst (.tup [(.int 0), (.int 1)]))) (.seq (.loop (.name 2) .plain (.cons (.var 0) .nil) (.seq (.asg (.name 1) (.call 8 2 0 [0, 1] (.cons (.var 1) (.cons (.var 2) .nil)) .nil)) .done)) (.seq (.ret (.var 1)) .done)))
def d10 : Def := ⟨"total", (st 19), ["some", "found", "one"], ["some"], b10, none, "total"⟩
/-- is_table_value(thing): thing, part -/
def b11 : S := (.seq (.ite (.tor (.tnot (.tval (.isi (.var 0) [.tuple]))) (.tor (.tnot (.chain .le .le (.cst (.int 1)) (.blt .len (.cons (.var 0) .nil)) (.cst (.int 8)))) (.tnot (.tval (.blt .all (.cons (.lc [1] (.name 1) .plain (.cons (.var 0) .nil) (.cst (.bl true)) (.call 6 1 0 [0] (.cons (.var 1) .nil) .nil)) .nil)))))) (.seq (.ret (.cst (.bl false))) .done) .done) (.seq (.ret (.cmp .eq (.call 10 1 0 [0] (.cons (.var 0) .nil) .nil) (.cst (.tup [(.int 1), (.int 1)])))) .done))
def d11 : Def := ⟨"is_table_value", (st 20), ["thing", "part"], ["thing"], b11, none, "is_table_value"⟩
/-- number_of(bits): bits, found, bit -/
def b12 : S := (.seq (.asg (.name 1) (.cst (.int 0))) (.seq (.loop (.name 2) .plain (.cons (.var 0) .nil) (.seq (.asg (.name 1) (.bin .add (.bin .mul (.var 1) (.cst (.int 2))) (.var 2))) .done)) (.seq (.ret (.var 1)) .done)))
def d12 : Def := ⟨"number_of", (st 22), ["bits", "found", "bit"], ["bits"], b12, none, "number_of"⟩
/-- is_state_value(thing, many, states): thing, many, states -/
def b13 : S := (.seq (.ite (.tor (.tnot (.tval (.isi (.var 0) [.tuple]))) (.tor (.cmp .ne (.blt .len (.cons (.var 0) .nil)) (.cst (.int 2))) (.tor (.tnot (.tval (.call 11 1 0 [0] (.cons (.idx (.var 0) (.cst (.int 0))) .nil) .nil))) (.cmp .ne (.blt .len (.cons (.idx (.var 0) (.cst (.int 0))) .nil)) (.var 1))))) (.seq (.ret (.cst (.bl false))) .done) .done) (.seq (.ret (.and (.call 2 3 0 [0, 1, 2] (.cons (.idx (.var 0) (.cst (.int 1))) (.cons (.cst (.int 0)) (.cons (.bin .sub (.var 2) (.cst (.int 1))) .nil))) .nil) (.cmp .eq (.blt .len (.cons (.idx (.var 0) (.cst (.int 1))) .nil)) (.var 1)))) .done))
def d13 : Def := ⟨"is_state_value", (st 24), ["thing", "many", "states"], ["thing", "many", "states"], b13, none, "is_state_value"⟩
/-- is_model_value(thing): thing, state -/
def b14 : S := (.seq (.ite (.tor (.tnot (.tval (.isi (.var 0) [.tuple]))) (.tor (.cmp .eq (.var 0) (.tup .nil)) (.tor (.tnot (.tval (.isi (.idx (.var 0) (.cst (.int 0))) [.tuple]))) (.cmp .ne (.blt .len (.cons (.idx (.var 0) (.cst (.int 0))) .nil)) (.cst (.int 2)))))) (.seq (.ret (.cst (.bl false))) .done) .done) (.seq (.ite (.tnot (.tval (.isi (.idx (.idx (.var 0) (.cst (.int 0))) (.cst (.int 0))) [.tuple]))) (.seq (.ret (.cst (.bl false))) .done) .done) (.seq (.ret (.blt .all (.cons (.lc [1] (.name 1) .plain (.cons (.var 0) .nil) (.cst (.bl true)) (.call 13 3 0 [0, 1, 2] (.cons (.var 1) (.cons (.blt .len (.cons (.idx (.idx (.var 0) (.cst (.int 0))) (.cst (.int 0))) .nil)) (.cons (.blt .len (.cons (.var 0) .nil)) .nil))) .nil)) .nil))) .done)))
def d14 : Def := ⟨"is_model_value", (st 25), ["thing", "state"], ["thing"], b14, none, "is_model_value"⟩
/-- need_model(model): model -/
def b15 : S := (.seq (.ite (.tnot (.tval (.call 14 1 0 [0] (.cons (.var 0) .nil) .nil))) (.seq .never .done) .done) .done)
def d15 : Def := ⟨"need_model", (st 26), ["model"], ["model"], b15, none, "need_model"⟩
/-- is_way_value(model, thing): model, thing, at, outcome, table, followers -/
def b16 : S := (.seq (.ite (.tnot (.tval (.isi (.var 1) [.tuple]))) (.seq (.ret (.cst (.bl false))) .done) .done) (.seq (.asg (.name 2) (.cst (.int 0))) (.seq (.loop (.name 3) .plain (.cons (.var 1) .nil) (.seq (.asg (.tup (.cons (.name 4) (.cons (.name 5) .nil))) (.idx (.var 0) (.var 2))) (.seq (.ite (.tor (.tnot (.tval (.call 1 3 0 [0, 1, 2] (.cons (.var 3) (.cons (.cst (.int 0)) (.cons (.bin .sub (.blt .len (.cons (.var 4) .nil)) (.cst (.int 1))) .nil))) .nil))) (.cmp .eq (.idx (.idx (.var 4) (.var 3)) (.cst (.int 0))) (.cst (.int 0)))) (.seq (.ret (.cst (.bl false))) .done) .done) (.seq (.asg (.name 2) (.idx (.var 5) (.var 3))) .done)))) (.seq (.ret (.cst (.bl true))) .done))))
def d16 : Def := ⟨"is_way_value", (st 27), ["model", "thing", "at", "outcome", "table", "followers"], ["model", "thing"], b16, none, "is_way_value"⟩
/-- need_way(model, way): model, way -/
def b17 : S := (.seq (.ite (.tnot (.tval (.call 16 2 0 [0, 1] (.cons (.var 0) (.cons (.var 1) .nil)) .nil))) (.seq .never .done) .done) .done)
def d17 : Def := ⟨"need_way", (st 28), ["model", "way"], ["model", "way"], b17, none, "need_way"⟩
/-- ahead_of(table, outcome): table, outcome, found, chance -/
def b18 : S := (.seq (.asg (.name 2) (.cst (.tup [(.int 0), (.int 1)]))) (.seq (.loop (.name 3) .plain (.cons (.slc false true (.var 0) (.cst .non) (.var 1)) .nil) (.seq (.asg (.name 2) (.call 8 2 0 [0, 1] (.cons (.var 2) (.cons (.var 3) .nil)) .nil)) .done)) (.seq (.ret (.var 2)) .done)))
def d18 : Def := ⟨"ahead_of", (st 29), ["table", "outcome", "found", "chance"], ["table", "outcome"], b18, none, "ahead_of"⟩
/-- stretch_within(stretch, table, outcome): stretch, table, outcome, low, size -/
def b19 : S := (.seq (.asg (.tup (.cons (.name 3) (.cons (.name 4) .nil))) (.var 0)) (.seq (.ret (.tup (.cons (.call 8 2 0 [0, 1] (.cons (.var 3) (.cons (.call 9 2 0 [0, 1] (.cons (.var 4) (.cons (.call 18 2 0 [0, 1] (.cons (.var 1) (.cons (.var 2) .nil)) .nil) .nil)) .nil) .nil)) .nil) (.cons (.call 9 2 0 [0, 1] (.cons (.var 4) (.cons (.idx (.var 1) (.var 2)) .nil)) .nil) .nil)))) .done))
def d19 : Def := ⟨"stretch_within", (st 30), ["stretch", "table", "outcome", "low", "size"], ["stretch", "table", "outcome"], b19, none, "stretch_within"⟩
/-- raw_stretch(model, way): model, way, at, found, outcome -/
def b20 : S := (.seq (.par [2, 3] (.cons (.cst (.int 0)) (.cons (.tup (.cons (.cst (.tup [(.int 0), (.int 1)])) (.cons (.cst (.tup [(.int 1), (.int 1)])) .nil))) .nil))) (.seq (.loop (.name 4) .plain (.cons (.var 1) .nil) (.seq (.asg (.name 3) (.call 19 3 0 [0, 1, 2] (.cons (.var 3) (.cons (.idx (.idx (.var 0) (.var 2)) (.cst (.int 0))) (.cons (.var 4) .nil))) .nil)) (.seq (.asg (.name 2) (.idx (.idx (.idx (.var 0) (.var 2)) (.cst (.int 1))) (.var 4))) .done))) (.seq (.ret (.var 3)) .done)))
def d20 : Def := ⟨"raw_stretch", (st 31), ["model", "way", "at", "found", "outcome"], ["model", "way"], b20, none, "raw_stretch"⟩
/-- stretch_of_bits(bits): bits -/
def b21 : S := (.seq (.ret (.tup (.cons (.call 7 2 0 [0, 1] (.cons (.call 12 1 0 [0] (.cons (.var 0) .nil) .nil) (.cons (.bin .shl (.cst (.int 1)) (.blt .len (.cons (.var 0) .nil))) .nil)) .nil) (.cons (.call 7 2 0 [0, 1] (.cons (.cst (.int 1)) (.cons (.bin .shl (.cst (.int 1)) (.blt .len (.cons (.var 0) .nil))) .nil)) .nil) .nil)))) .done)
def d21 : Def := ⟨"stretch_of_bits", (st 32), ["bits"], ["bits"], b21, none, "stretch_of_bits"⟩
/-- need_bits(bits): bits -/
def b22 : S := (.seq (.ite (.tnot (.tval (.call 3 1 0 [0] (.cons (.var 0) .nil) .nil))) (.seq .never .done) .done) .done)
def d22 : Def := ⟨"need_bits", (st 34), ["bits"], ["bits"], b22, none, "need_bits"⟩
/-- stretch(model, way): model, way -/
def b23 : S := (.seq (.expr (.call 15 1 0 [0] (.cons (.var 0) .nil) .nil)) (.seq (.expr (.call 17 2 0 [0, 1] (.cons (.var 0) (.cons (.var 1) .nil)) .nil)) (.seq (.ret (.call 20 2 0 [0, 1] (.cons (.var 0) (.cons (.var 1) .nil)) .nil)) .done)))
def d23 : Def := ⟨"stretch", (st 36), ["model", "way"], ["model", "way"], b23, none, "stretch"⟩
/-- bits_stretch(bits): bits -/
def b24 : S := (.seq (.expr (.call 22 1 0 [0] (.cons (.var 0) .nil) .nil)) (.seq (.ret (.call 21 1 0 [0] (.cons (.var 0) .nil) .nil)) .done))
def d24 : Def := ⟨"bits_stretch", (st 37), ["bits"], ["bits"], b24, none, "bits_stretch"⟩
/-- _law_deck(script): script, mixed, cell -/
def b25 : S := (.seq (.asg (.name 1) (.cst (.int 13737264))) (.seq (.loop (.name 2) .plain (.cons (.slc false true (.var 0) (.cst .non) (.cst (.int 63))) .nil) (.seq (.asg (.name 1) (.bin .mod (.blt .int (.cons (.bin .add (.bin .add (.bin .mul (.var 1) (.cst (.int 69621))) (.bin .mod (.blt .int (.cons (.var 2) .nil)) (.cst (.int 2147483629)))) (.cst (.int 161))) .nil)) (.cst (.int 2147483587)))) .done)) (.seq (.ret (.dsp [.inr "cells", .inr "mixed", .inr "draws"] (.cons (.revL (.blt .list (.cons (.slc false true (.var 0) (.cst .non) (.cst (.int 63))) .nil))) (.cons (.var 1) (.cons (.cst (.int 0)) .nil))))) .done)))
def d25 : Def := ⟨"_law_deck", (st 39), ["script", "mixed", "cell"], ["script"], b25, none, "_law_deck"⟩
/-- _law_draw(deck, many): deck, many, number, cell -/
def b26 : S := (.seq (.sto (.bin .add (.idx (.var 0) (.cst (.str "draws"))) (.cst (.int 1))) (.var 0) (.cst (.str "draws"))) (.seq (.asg (.name 2) (.bin .add (.idx (.var 0) (.cst (.str "mixed"))) (.bin .mul (.cst (.int 61473)) (.idx (.var 0) (.cst (.str "draws")))))) (.seq (.ite (.cmp .ne (.idx (.var 0) (.cst (.str "cells"))) (.lst .nil)) (.seq (.asg (.name 3) (.mth .pop (.idx (.var 0) (.cst (.str "cells"))) .nil)) (.seq (.ite (.cmp .ge (.var 3) (.bin .pow (.cst (.int 10)) (.cst (.int 18)))) (.seq (.expr (.mth .append (.idx (.var 0) (.cst (.str "cells"))) (.cons (.bin .fdiv (.var 3) (.blt .max2 (.cons (.cst (.int 2)) (.cons (.var 1) .nil)))) .nil))) (.seq (.ret (.bin .mod (.blt .int (.cons (.var 3) .nil)) (.var 1))) .done)) .done) (.seq (.asg (.name 2) (.bin .add (.var 2) (.bin .mod (.blt .int (.cons (.var 3) .nil)) (.cst (.int 2147483629))))) .done))) .done) (.seq (.asg (.name 2) (.bin .mod (.blt .int (.cons (.bin .add (.bin .mul (.var 2) (.cst (.int 39373))) (.cst (.int 161))) .nil)) (.cst (.int 2147483647)))) (.seq (.asg (.name 2) (.bin .mod (.blt .int (.cons (.bin .add (.bin .add (.bin .mul (.var 2) (.var 2)) (.bin .mul (.cst (.int 52713)) (.idx (.var 0) (.cst (.str "draws"))))) (.cst (.int 343))) .nil)) (.cst (.int 2147483587)))) (.seq (.asg (.name 2) (.bin .mod (.blt .int (.cons (.bin .mul (.var 2) (.cst (.int 40692))) .nil)) (.cst (.int 2147483563)))) (.seq (.ret (.bin .mod (.blt .int (.cons (.bin .fdiv (.var 2) (.cst (.int 64))) .nil)) (.var 1))) .done)))))))
def d26 : Def := ⟨"_law_draw", (st 40), ["deck", "many", "number", "cell"], ["deck", "many"], b26, none, "_law_draw"⟩
/-- _law_pick(deck, some): deck, some -/
def b27 : S := (.seq (.ret (.idx (.var 1) (.call 26 2 0 [0, 1] (.cons (.var 0) (.cons (.blt .len (.cons (.var 1) .nil)) .nil)) .nil))) .done)
def d27 : Def := ⟨"_law_pick", (st 41), ["deck", "some"], ["deck", "some"], b27, none, "_law_pick"⟩
/-- _law_is_integer(thing): thing -/
def b28 : S := (.seq (.ret (.and (.isi (.var 0) [.int]) (.tnot (.tval (.isi (.var 0) [.bool]))))) .done)
def d28 : Def := ⟨"_law_is_integer", (st 42), ["thing"], ["thing"], b28, none, "_law_is_integer"⟩
/-- _law_common(one, other): one, other -/
def b29 : S := (.seq (.par [0, 1] (.cons (.blt .abs (.cons (.var 0) .nil)) (.cons (.blt .abs (.cons (.var 1) .nil)) .nil))) (.seq (.whil (.cmp .gt (.var 1) (.cst (.int 0))) (.seq (.par [0, 1] (.cons (.var 1) (.cons (.bin .mod (.blt .int (.cons (.var 0) .nil)) (.var 1)) .nil))) .done)) (.seq (.ret (.var 0)) .done)))
def d29 : Def := ⟨"_law_common", (st 43), ["one", "other"], ["one", "other"], b29, none, "_law_common"⟩
/-- _law_fraction(top, bottom): top, bottom, part -/
def b30 : S := (.seq (.ite (.cmp .lt (.var 1) (.cst (.int 0))) (.seq (.par [0, 1] (.cons (.neg (.var 0)) (.cons (.neg (.var 1)) .nil))) .done) .done) (.seq (.asg (.name 2) (.call 29 2 0 [0, 1] (.cons (.var 0) (.cons (.var 1) .nil)) .nil)) (.seq (.ret (.tup (.cons (.bin .fdiv (.var 0) (.var 2)) (.cons (.bin .fdiv (.var 1) (.var 2)) .nil)))) .done)))
def d30 : Def := ⟨"_law_fraction", (st 44), ["top", "bottom", "part"], ["top", "bottom"], b30, none, "_law_fraction"⟩
/-- _law_plus(one, other): one, other -/
def b31 : S := (.seq (.ret (.call 30 2 0 [0, 1] (.cons (.bin .add (.bin .mul (.idx (.var 0) (.cst (.int 0))) (.idx (.var 1) (.cst (.int 1)))) (.bin .mul (.idx (.var 1) (.cst (.int 0))) (.idx (.var 0) (.cst (.int 1))))) (.cons (.bin .mul (.idx (.var 0) (.cst (.int 1))) (.idx (.var 1) (.cst (.int 1)))) .nil)) .nil)) .done)
def d31 : Def := ⟨"_law_plus", (st 45), ["one", "other"], ["one", "other"], b31, none, "_law_plus"⟩
/-- _law_times(one, other): one, other -/
def b32 : S := (.seq (.ret (.call 30 2 0 [0, 1] (.cons (.bin .mul (.idx (.var 0) (.cst (.int 0))) (.idx (.var 1) (.cst (.int 0)))) (.cons (.bin .mul (.idx (.var 0) (.cst (.int 1))) (.idx (.var 1) (.cst (.int 1)))) .nil)) .nil)) .done)
def d32 : Def := ⟨"_law_times", (st 46), ["one", "other"], ["one", "other"], b32, none, "_law_times"⟩
/-- _law_total(some): some, found, it -/
def b33 : S := (.seq (.asg (.name 1) (.tup (.cons (.cst (.int 0)) (.cons (.cst (.int 1)) .nil)))) (.seq (.loop (.name 2) .plain (.cons (.var 0) .nil) (.seq (.asg (.name 1) (.call 31 2 0 [0, 1] (.cons (.var 1) (.cons (.var 2) .nil)) .nil)) .done)) (.seq (.ret (.var 1)) .done)))
def d33 : Def := ⟨"_law_total", (st 47), ["some", "found", "it"], ["some"], b33, none, "_law_total"⟩
/-- _law_is_less(one, other): one, other -/
def b34 : S := (.seq (.ret (.cmp .lt (.bin .mul (.idx (.var 0) (.cst (.int 0))) (.idx (.var 1) (.cst (.int 1)))) (.bin .mul (.idx (.var 1) (.cst (.int 0))) (.idx (.var 0) (.cst (.int 1)))))) .done)
def d34 : Def := ⟨"_law_is_less", (st 48), ["one", "other"], ["one", "other"], b34, none, "_law_is_less"⟩
/-- _law_table(deck, n, bottoms): deck, n, bottoms, bottom, parts, left, at, part -/
def b35 : S := (.seq (.asg (.tup (.cons (.name 3) (.cons (.name 4) .nil))) (.tup (.cons (.call 27 2 0 [0, 1] (.cons (.var 0) (.cons (.var 2) .nil)) .nil) (.cons (.lst .nil) .nil)))) (.seq (.asg (.name 5) (.var 3)) (.seq (.loop (.name 6) .range1 (.cons (.bin .sub (.var 1) (.cst (.int 1))) .nil) (.seq (.expr (.mth .append (.var 4) (.cons (.ite (.cmp .eq (.call 26 2 0 [0, 1] (.cons (.var 0) (.cons (.cst (.int 3)) .nil)) .nil) (.cst (.int 0))) (.call 26 2 0 [0, 1] (.cons (.var 0) (.cons (.bin .add (.var 5) (.cst (.int 1))) .nil)) .nil) (.blt .min2 (.cons (.var 5) (.cons (.call 26 2 0 [0, 1] (.cons (.var 0) (.cons (.bin .add (.bin .fdiv (.bin .mul (.cst (.int 2)) (.var 3)) (.var 1)) (.cst (.int 1))) .nil)) .nil) .nil)))) .nil))) (.seq (.asg (.name 5) (.bin .sub (.var 5) (.idx (.var 4) (.neg (.cst (.int 1)))))) .done))) (.seq (.expr (.mth .append (.var 4) (.cons (.var 5) .nil))) (.seq (.asg (.name 6) (.call 26 2 0 [0, 1] (.cons (.var 0) (.cons (.var 1) .nil)) .nil)) (.seq (.sto2 (.tup (.cons (.idx (.var 4) (.neg (.cst (.int 1)))) (.cons (.idx (.var 4) (.var 6)) .nil))) (.var 4) (.var 6) (.var 4) (.neg (.cst (.int 1)))) (.seq (.ret (.blt .tuple (.cons (.lc [7] (.name 7) .plain (.cons (.var 4) .nil) (.cst (.bl true)) (.call 30 2 0 [0, 1] (.cons (.var 7) (.cons (.var 3) .nil)) .nil)) .nil))) .done)))))))
def d35 : Def := ⟨"_law_table", (st 49), ["deck", "n", "bottoms", "bottom", "parts", "left", "at", "part"], ["deck", "n", "bottoms"], b35, none, "_law_table"⟩
/-- _law_bits(deck, many): deck, many, turn -/
def b36 : S := (.seq (.ret (.blt .tuple (.cons (.lc [2] (.name 2) .range1 (.cons (.var 1) .nil) (.cst (.bl true)) (.call 26 2 0 [0, 1] (.cons (.var 0) (.cons (.cst (.int 2)) .nil)) .nil)) .nil))) .done)
def d36 : Def := ⟨"_law_bits", (st 50), ["deck", "many", "turn"], ["deck", "many"], b36, none, "_law_bits"⟩
/-- _law_is_way(model, thing): model, thing, state, i, table, followers -/
def b37 : S := (.seq (.ite (.tnot (.tval (.isi (.var 1) [.tuple]))) (.seq (.ret (.cst (.bl false))) .done) .done) (.seq (.asg (.name 2) (.cst (.int 0))) (.seq (.loop (.name 3) .plain (.cons (.var 1) .nil) (.seq (.asg (.tup (.cons (.name 4) (.cons (.name 5) .nil))) (.idx (.var 0) (.var 2))) (.seq (.ite (.tor (.tnot (.tval (.call 28 1 0 [0] (.cons (.var 3) .nil) .nil))) (.tor (.tnot (.chain .le .lt (.cst (.int 0)) (.var 3) (.blt .len (.cons (.var 4) .nil)))) (.cmp .eq (.idx (.idx (.var 4) (.var 3)) (.cst (.int 0))) (.cst (.int 0))))) (.seq (.ret (.cst (.bl false))) .done) .done) (.seq (.asg (.name 2) (.idx (.var 5) (.var 3))) .done)))) (.seq (.ret (.cst (.bl true))) .done))))
def d37 : Def := ⟨"_law_is_way", (st 51), ["model", "thing", "state", "i", "table", "followers"], ["model", "thing"], b37, none, "_law_is_way"⟩
/-- _law_model(deck, states, bottoms): deck, states, bottoms, many, n, found, at, table, i -/
def b38 : S := (.seq (.asg (.tup (.cons (.name 3) (.cons (.name 4) .nil))) (.tup (.cons (.bin .add (.cst (.int 1)) (.call 26 2 0 [0, 1] (.cons (.var 0) (.cons (.var 1) .nil)) .nil)) (.cons (.call 27 2 0 [0, 1] (.cons (.var 0) (.cons (.lst (.cons (.cst (.int 2)) (.cons (.cst (.int 3)) (.cons (.cst (.int 2)) (.cons (.cst (.int 4)) (.cons (.cst (.int 5)) (.cons (.cst (.int 1)) .nil))))))) .nil)) .nil) .nil)))) (.seq (.asg (.name 5) (.lst .nil)) (.seq (.loop (.name 6) .range1 (.cons (.var 3) .nil) (.seq (.asg (.name 7) (.call 35 3 0 [0, 1, 2] (.cons (.var 0) (.cons (.var 4) (.cons (.var 2) .nil))) .nil)) (.seq (.expr (.mth .append (.var 5) (.cons (.tup (.cons (.var 7) (.cons (.blt .tuple (.cons (.lc [8] (.name 8) .range1 (.cons (.var 4) .nil) (.cst (.bl true)) (.call 26 2 0 [0, 1] (.cons (.var 0) (.cons (.var 3) .nil)) .nil)) .nil)) .nil))) .nil))) .done))) (.seq (.ret (.blt .tuple (.cons (.var 5) .nil))) .done))))
def d38 : Def := ⟨"_law_model", (st 52), ["deck", "states", "bottoms", "many", "n", "found", "at", "table", "i"], ["deck", "states", "bottoms"], b38, none, "_law_model"⟩
/-- _law_way(deck, model, many): deck, model, many, state, found, turn, table, followers, i, at -/
def b39 : S := (.seq (.asg (.tup (.cons (.name 3) (.cons (.name 4) .nil))) (.tup (.cons (.cst (.int 0)) (.cons (.tup .nil) .nil)))) (.seq (.loop (.name 5) .range1 (.cons (.var 2) .nil) (.seq (.asg (.tup (.cons (.name 6) (.cons (.name 7) .nil))) (.idx (.var 1) (.var 3))) (.seq (.asg (.name 8) (.call 27 2 0 [0, 1] (.cons (.var 0) (.cons (.lc [9] (.name 9) .range1 (.cons (.blt .len (.cons (.var 6) .nil)) .nil) (.cmp .gt (.idx (.idx (.var 6) (.var 9)) (.cst (.int 0))) (.cst (.int 0))) (.var 9)) .nil)) .nil)) (.seq (.par [4, 3] (.cons (.bin .add (.var 4) (.tup (.cons (.var 8) .nil))) (.cons (.idx (.var 7) (.var 8)) .nil))) .done)))) (.seq (.ret (.var 4)) .done)))
def d39 : Def := ⟨"_law_way", (st 53), ["deck", "model", "many", "state", "found", "turn", "table", "followers", "i", "at"], ["deck", "model", "many"], b39, none, "_law_way"⟩
/-- _law_stretch(model, way): model, way, low, size, state, i, table, followers -/
def b40 : S := (.seq (.asg (.tup (.cons (.name 2) (.cons (.name 3) (.cons (.name 4) .nil)))) (.tup (.cons (.tup (.cons (.cst (.int 0)) (.cons (.cst (.int 1)) .nil))) (.cons (.tup (.cons (.cst (.int 1)) (.cons (.cst (.int 1)) .nil))) (.cons (.cst (.int 0)) .nil))))) (.seq (.loop (.name 5) .plain (.cons (.var 1) .nil) (.seq (.asg (.tup (.cons (.name 6) (.cons (.name 7) .nil))) (.idx (.var 0) (.var 4))) (.seq (.asg (.name 2) (.call 31 2 0 [0, 1] (.cons (.var 2) (.cons (.call 32 2 0 [0, 1] (.cons (.var 3) (.cons (.call 33 1 0 [0] (.cons (.slc false true (.var 6) (.cst .non) (.var 5)) .nil) .nil) .nil)) .nil) .nil)) .nil)) (.seq (.par [3, 4] (.cons (.call 32 2 0 [0, 1] (.cons (.var 3) (.cons (.idx (.var 6) (.var 5)) .nil)) .nil) (.cons (.idx (.var 7) (.var 5)) .nil))) .done)))) (.seq (.ret (.tup (.cons (.var 2) (.cons (.var 3) .nil)))) .done)))
def d40 : Def := ⟨"_law_stretch", (st 54), ["model", "way", "low", "size", "state", "i", "table", "followers"], ["model", "way"], b40, none, "_law_stretch"⟩
/-- _law_ways(model, many): model, many, found, turn, later, way, state, table, followers, i -/
def b41 : S := (.seq (.asg (.name 2) (.lst (.cons (.tup (.cons (.tup .nil) (.cons (.cst (.int 0)) .nil))) .nil))) (.seq (.loop (.name 3) .range1 (.cons (.var 1) .nil) (.seq (.asg (.name 4) (.lst .nil)) (.seq (.loop (.tup (.cons (.name 5) (.cons (.name 6) .nil))) .plain (.cons (.var 2) .nil) (.seq (.asg (.tup (.cons (.name 7) (.cons (.name 8) .nil))) (.idx (.var 0) (.var 6))) (.seq (.expr (.mth .extend (.var 4) (.cons (.lc [9] (.name 9) .range1 (.cons (.blt .len (.cons (.var 7) .nil)) .nil) (.cmp .gt (.idx (.idx (.var 7) (.var 9)) (.cst (.int 0))) (.cst (.int 0))) (.tup (.cons (.bin .add (.var 5) (.tup (.cons (.var 9) .nil))) (.cons (.idx (.var 8) (.var 9)) .nil)))) .nil))) .done))) (.seq (.asg (.name 2) (.var 4)) .done)))) (.seq (.ret (.lc [5, 6] (.tup (.cons (.name 5) (.cons (.name 6) .nil))) .plain (.cons (.var 2) .nil) (.cst (.bl true)) (.var 5))) .done)))
def d41 : Def := ⟨"_law_ways", (st 55), ["model", "many", "found", "turn", "later", "way", "state", "table", "followers", "i"], ["model", "many"], b41, none, "_law_ways"⟩
/-- _law_bits_stretch(bits): bits, number, bit -/
def b42 : S := (.seq (.asg (.name 1) (.cst (.int 0))) (.seq (.loop (.name 2) .plain (.cons (.var 0) .nil) (.seq (.asg (.name 1) (.bin .add (.bin .mul (.cst (.int 2)) (.var 1)) (.var 2))) .done)) (.seq (.ret (.tup (.cons (.call 30 2 0 [0, 1] (.cons (.var 1) (.cons (.bin .shl (.cst (.int 1)) (.blt .len (.cons (.var 0) .nil))) .nil)) .nil) (.cons (.tup (.cons (.cst (.int 1)) (.cons (.bin .shl (.cst (.int 1)) (.blt .len (.cons (.var 0) .nil))) .nil))) .nil)))) .done)))
def d42 : Def := ⟨"_law_bits_stretch", (st 56), ["bits", "number", "bit"], ["bits"], b42, none, "_law_bits_stretch"⟩
/-- _law_lies(inner, outer): inner, outer -/
def b43 : S := (.seq (.ite (.tval (.call 34 2 0 [0, 1] (.cons (.idx (.var 0) (.cst (.int 0))) (.cons (.idx (.var 1) (.cst (.int 0))) .nil)) .nil)) (.seq (.ret (.cst (.bl false))) .done) .done) (.seq (.ret (.tnot (.tval (.call 34 2 0 [0, 1] (.cons (.call 31 2 0 [0, 1] (.cons (.idx (.var 1) (.cst (.int 0))) (.cons (.idx (.var 1) (.cst (.int 1))) .nil)) .nil) (.cons (.call 31 2 0 [0, 1] (.cons (.idx (.var 0) (.cst (.int 0))) (.cons (.idx (.var 0) (.cst (.int 1))) .nil)) .nil) .nil)) .nil)))) .done))
def d43 : Def := ⟨"_law_lies", (st 57), ["inner", "outer"], ["inner", "outer"], b43, none, "_law_lies"⟩
/-- _law_chances():  -/
def b44 : S := (.seq (.ret (.lst (.cons (.cst (.int 2)) (.cons (.cst (.int 3)) (.cons (.cst (.int 4)) (.cons (.cst (.int 5)) (.cons (.cst (.int 6)) (.cons (.cst (.int 7)) (.cons (.cst (.int 8)) (.cons (.cst (.int 10)) (.cons (.cst (.int 16)) (.cons (.cst (.int 60)) (.cons (.cst (.int 100)) (.cons (.cst (.int 97)) .nil)))))))))))))) .done)
def d44 : Def := ⟨"_law_chances", (st 58), [], [], b44, none, "_law_chances"⟩
/-- _law_lie_beside(model, many): model, many, low, way, told -/
def b45 : S := (.seq (.asg (.name 2) (.tup (.cons (.cst (.int 0)) (.cons (.cst (.int 1)) .nil)))) (.seq (.loop (.name 3) .plain (.cons (.call 41 2 0 [0, 1] (.cons (.var 0) (.cons (.var 1) .nil)) .nil) .nil) (.seq (.asg (.name 4) (.call 23 2 0 [0, 1] (.cons (.var 0) (.cons (.var 3) .nil)) .nil)) (.seq (.ite (.tor (.cmp .ne (.blt .repr (.cons (.idx (.var 4) (.cst (.int 0))) .nil)) (.blt .repr (.cons (.var 2) .nil))) (.tnot (.tval (.call 34 2 0 [0, 1] (.cons (.tup (.cons (.cst (.int 0)) (.cons (.cst (.int 1)) .nil))) (.cons (.idx (.var 4) (.cst (.int 1))) .nil)) .nil)))) (.seq (.ret (.cst (.bl false))) .done) .done) (.seq (.asg (.name 2) (.call 31 2 0 [0, 1] (.cons (.var 2) (.cons (.idx (.var 4) (.cst (.int 1))) .nil)) .nil)) .done)))) (.seq (.ret (.cmp .eq (.var 2) (.tup (.cons (.cst (.int 1)) (.cons (.cst (.int 1)) .nil))))) .done)))
def d45 : Def := ⟨"_law_lie_beside", (st 59), ["model", "many", "low", "way", "told"], ["model", "many"], b45, none, "_law_lie_beside"⟩
/-- _law_are_few(model, many): model, many, total_v, turn -/
def b46 : S := (.seq (.asg (.name 2) (.cst (.int 1))) (.seq (.loop (.name 3) .range1 (.cons (.var 1) .nil) (.seq (.asg (.name 2) (.bin .mul (.var 2) (.blt .len (.cons (.idx (.idx (.var 0) (.cst (.int 0))) (.cst (.int 0))) .nil)))) .done)) (.seq (.ret (.cmp .le (.var 2) (.cst (.int 60)))) .done)))
def d46 : Def := ⟨"_law_are_few", (st 60), ["model", "many", "total_v", "turn"], ["model", "many"], b46, none, "_law_are_few"⟩
/-- _law_is_right(deck, model, way): deck, model, way, due, more, some, i, it, low, size -/
def b47 : S := (.seq (.asg (.name 3) (.call 40 2 0 [0, 1] (.cons (.var 1) (.cons (.var 2) .nil)) .nil)) (.seq (.ite (.cmp .ne (.blt .repr (.cons (.tup (.cons (.call 23 2 0 [0, 1] (.cons (.var 1) (.cons (.var 2) .nil)) .nil) (.cons (.call 23 0 2 [1, 0] .nil (.cons (.var 2) (.cons (.var 1) .nil))) .nil))) .nil)) (.blt .repr (.cons (.tup (.cons (.var 3) (.cons (.var 3) .nil))) .nil))) (.seq (.ret (.cst (.bl false))) .done) .done) (.seq (.asg (.name 4) (.lc [6] (.name 6) .range1 (.cons (.blt .len (.cons (.idx (.idx (.var 1) (.cst (.int 0))) (.cst (.int 0))) .nil)) .nil) (.tval (.call 37 2 0 [0, 1] (.cons (.var 1) (.cons (.bin .add (.var 2) (.tup (.cons (.var 6) .nil))) .nil)) .nil)) (.bin .add (.var 2) (.tup (.cons (.var 6) .nil))))) (.seq (.asg (.name 5) (.lc [7] (.name 7) .plain (.cons (.var 4) .nil) (.cst (.bl true)) (.call 23 2 0 [0, 1] (.cons (.var 1) (.cons (.var 7) .nil)) .nil))) (.seq (.ite (.cmp .ne (.lc [7] (.name 7) .plain (.cons (.var 5) .nil) (.tnot (.tval (.call 43 2 0 [0, 1] (.cons (.var 7) (.cons (.var 3) .nil)) .nil))) (.var 7)) (.lst .nil)) (.seq (.ret (.cst (.bl false))) .done) .done) (.seq (.ret (.cmp .eq (.blt .repr (.cons (.call 33 1 0 [0] (.cons (.lc [8, 9] (.tup (.cons (.name 8) (.cons (.name 9) .nil))) .plain (.cons (.var 5) .nil) (.cst (.bl true)) (.var 9)) .nil) .nil) .nil)) (.blt .repr (.cons (.idx (.var 3) (.cst (.int 1))) .nil)))) .done))))))
def d47 : Def := ⟨"_law_is_right", (st 61), ["deck", "model", "way", "due", "more", "some", "i", "it", "low", "size"], ["deck", "model", "way"], b47, none, "_law_is_right"⟩
/-- _law_are_bits_right(deck, many): deck, many, bits, plain, due, other, begins -/
def b48 : S := (.seq (.par [2, 3] (.cons (.call 36 2 0 [0, 1] (.cons (.var 0) (.cons (.var 1) .nil)) .nil) (.cons (.tup (.cons (.tup (.cons (.tup (.cons (.tup (.cons (.cst (.int 1)) (.cons (.cst (.int 2)) .nil))) (.cons (.tup (.cons (.cst (.int 1)) (.cons (.cst (.int 2)) .nil))) .nil))) (.cons (.tup (.cons (.cst (.int 0)) (.cons (.cst (.int 0)) .nil))) .nil))) .nil)) .nil))) (.seq (.asg (.name 4) (.call 42 1 0 [0] (.cons (.var 2) .nil) .nil)) (.seq (.ite (.cmp .ne (.blt .repr (.cons (.tup (.cons (.call 24 1 0 [0] (.cons (.var 2) .nil) .nil) (.cons (.call 24 0 1 [0] .nil (.cons (.var 2) .nil)) .nil))) .nil)) (.blt .repr (.cons (.tup (.cons (.var 4) (.cons (.var 4) .nil))) .nil))) (.seq (.ret (.cst (.bl false))) .done) .done) (.seq (.ite (.tand (.cmp .le (.var 1) (.cst (.int 40))) (.cmp .ne (.blt .repr (.cons (.call 23 2 0 [0, 1] (.cons (.var 3) (.cons (.var 2) .nil)) .nil) .nil)) (.blt .repr (.cons (.var 4) .nil)))) (.seq (.ret (.cst (.bl false))) .done) .done) (.seq (.asg (.name 5) (.bin .add (.slc false true (.var 2) (.cst .non) (.call 26 2 0 [0, 1] (.cons (.var 0) (.cons (.bin .add (.var 1) (.cst (.int 1))) .nil)) .nil)) (.call 36 2 0 [0, 1] (.cons (.var 0) (.cons (.call 26 2 0 [0, 1] (.cons (.var 0) (.cons (.cst (.int 3)) .nil)) .nil) .nil)) .nil))) (.seq (.asg (.name 6) (.cmp .eq (.slc false true (.var 5) (.cst .non) (.var 1)) (.var 2))) (.seq (.ret (.cmp .eq (.call 43 2 0 [0, 1] (.cons (.call 24 1 0 [0] (.cons (.var 5) .nil) .nil) (.cons (.var 4) .nil)) .nil) (.var 6))) .done)))))))
def d48 : Def := ⟨"_law_are_bits_right", (st 62), ["deck", "many", "bits", "plain", "due", "other", "begins"], ["deck", "many"], b48, none, "_law_are_bits_right"⟩
/-- law(script): script, deck, model, many -/
def b49 : S := (.seq (.asg (.name 1) (.call 25 1 0 [0] (.cons (.var 0) .nil) .nil)) (.seq (.asg (.name 2) (.call 38 3 0 [0, 1, 2] (.cons (.var 1) (.cons (.cst (.int 6)) (.cons (.call 44 0 0 [] .nil .nil) .nil))) .nil)) (.seq (.loop (.name 3) .plain (.cons (.tup (.cons (.cst (.int 0)) (.cons (.cst (.int 1)) (.cons (.cst (.int 3)) (.cons (.call 26 2 0 [0, 1] (.cons (.var 1) (.cons (.cst (.int 12)) .nil)) .nil) (.cons (.ite (.cmp .eq (.call 26 2 0 [0, 1] (.cons (.var 1) (.cons (.cst (.int 5)) .nil)) .nil) (.cst (.int 0))) (.cst (.int 39)) (.cst (.int 6))) .nil)))))) .nil) (.seq (.ite (.tnot (.tval (.call 47 3 0 [0, 1, 2] (.cons (.var 1) (.cons (.var 2) (.cons (.call 39 3 0 [0, 1, 2] (.cons (.var 1) (.cons (.var 2) (.cons (.var 3) .nil))) .nil) .nil))) .nil))) (.seq (.ret (.cst (.bl false))) .done) .done) .done)) (.seq (.loop (.name 3) .range1 (.cons (.cst (.int 5)) .nil) (.seq (.ite (.tand (.tval (.call 46 2 0 [0, 1] (.cons (.var 2) (.cons (.var 3) .nil)) .nil)) (.tnot (.tval (.call 45 2 0 [0, 1] (.cons (.var 2) (.cons (.var 3) .nil)) .nil)))) (.seq (.ret (.cst (.bl false))) .done) .done) .done)) (.seq (.loop (.name 3) .plain (.cons (.tup (.cons (.cst (.int 0)) (.cons (.cst (.int 1)) (.cons (.call 26 2 0 [0, 1] (.cons (.var 1) (.cons (.cst (.int 12)) .nil)) .nil) (.cons (.ite (.cmp .eq (.call 26 2 0 [0, 1] (.cons (.var 1) (.cons (.cst (.int 8)) .nil)) .nil) (.cst (.int 0))) (.cst (.int 398)) (.cst (.int 30))) .nil))))) .nil) (.seq (.ite (.tnot (.tval (.call 48 2 0 [0, 1] (.cons (.var 1) (.cons (.var 3) .nil)) .nil))) (.seq (.ret (.cst (.bl false))) .done) .done) .done)) (.seq (.ret (.cmp .eq (.blt .repr (.cons (.call 23 2 0 [0, 1] (.cons (.var 2) (.cons (.tup .nil) .nil)) .nil) .nil)) (.blt .repr (.cons (.tup (.cons (.tup (.cons (.cst (.int 0)) (.cons (.cst (.int 1)) .nil))) (.cons (.tup (.cons (.cst (.int 1)) (.cons (.cst (.int 1)) .nil))) .nil))) .nil)))) .done))))))
def d49 : Def := ⟨"law", (st 63), ["script", "deck", "model", "many"], ["script"], b49, none, "law"⟩
def prg : Prg := ⟨[d0, d1, d2, d3, d4, d5, d6, d7, d8, d9, d10, d11, d12, d13, d14, d15, d16, d17, d18, d19, d20, d21, d22, d23, d24, d25, d26, d27, d28, d29, d30, d31, d32, d33, d34, d35, d36, d37, d38, d39, d40, d41, d42, d43, d44, d45, d46, d47, d48, d49], pats, bl, consts, mpats, cpats, klass⟩
theorem ok0 : DefOk prg d0 := ⟨⟨rfl, rfl, rfl, by decide +kernel, rfl, by decide +kernel, by decide +kernel⟩, by kernel_rfl, ⟨(defArgs (st 6)).args, by rfl, by decide +kernel⟩⟩
theorem ok1 : DefOk prg d1 := ⟨⟨rfl, rfl, rfl, by decide +kernel, rfl, by decide +kernel, by decide +kernel⟩, by kernel_rfl, ⟨(defArgs (st 7)).args, by rfl, by decide +kernel⟩⟩
theorem ok2 : DefOk prg d2 := ⟨⟨rfl, rfl, rfl, by decide +kernel, rfl, by decide +kernel, by decide +kernel⟩, by kernel_rfl, ⟨(defArgs (st 8)).args, by rfl, by decide +kernel⟩⟩
theorem ok3 : DefOk prg d3 := ⟨⟨rfl, rfl, rfl, by decide +kernel, rfl, by decide +kernel, by decide +kernel⟩, by kernel_rfl, ⟨(defArgs (st 9)).args, by rfl, by decide +kernel⟩⟩
theorem ok4 : DefOk prg d4 := ⟨⟨rfl, rfl, rfl, by decide +kernel, rfl, by decide +kernel, by decide +kernel⟩, by kernel_rfl, ⟨(defArgs (st 13)).args, by rfl, by decide +kernel⟩⟩
theorem ok5 : DefOk prg d5 := ⟨⟨rfl, rfl, rfl, by decide +kernel, rfl, by decide +kernel, by decide +kernel⟩, by kernel_rfl, ⟨(defArgs (st 14)).args, by rfl, by decide +kernel⟩⟩
theorem ok6 : DefOk prg d6 := ⟨⟨rfl, rfl, rfl, by decide +kernel, rfl, by decide +kernel, by decide +kernel⟩, by kernel_rfl, ⟨(defArgs (st 15)).args, by rfl, by decide +kernel⟩⟩
theorem ok7 : DefOk prg d7 := ⟨⟨rfl, rfl, rfl, by decide +kernel, rfl, by decide +kernel, by decide +kernel⟩, by kernel_rfl, ⟨(defArgs (st 16)).args, by rfl, by decide +kernel⟩⟩
theorem ok8 : DefOk prg d8 := ⟨⟨rfl, rfl, rfl, by decide +kernel, rfl, by decide +kernel, by decide +kernel⟩, by kernel_rfl, ⟨(defArgs (st 17)).args, by rfl, by decide +kernel⟩⟩
theorem ok9 : DefOk prg d9 := ⟨⟨rfl, rfl, rfl, by decide +kernel, rfl, by decide +kernel, by decide +kernel⟩, by kernel_rfl, ⟨(defArgs (st 18)).args, by rfl, by decide +kernel⟩⟩
theorem ok10 : DefOk prg d10 := ⟨⟨rfl, rfl, rfl, by decide +kernel, rfl, by decide +kernel, by decide +kernel⟩, by kernel_rfl, ⟨(defArgs (st 19)).args, by rfl, by decide +kernel⟩⟩
theorem ok11 : DefOk prg d11 := ⟨⟨rfl, rfl, rfl, by decide +kernel, rfl, by decide +kernel, by decide +kernel⟩, by kernel_rfl, ⟨(defArgs (st 20)).args, by rfl, by decide +kernel⟩⟩
theorem ok12 : DefOk prg d12 := ⟨⟨rfl, rfl, rfl, by decide +kernel, rfl, by decide +kernel, by decide +kernel⟩, by kernel_rfl, ⟨(defArgs (st 22)).args, by rfl, by decide +kernel⟩⟩
theorem ok13 : DefOk prg d13 := ⟨⟨rfl, rfl, rfl, by decide +kernel, rfl, by decide +kernel, by decide +kernel⟩, by kernel_rfl, ⟨(defArgs (st 24)).args, by rfl, by decide +kernel⟩⟩
theorem ok14 : DefOk prg d14 := ⟨⟨rfl, rfl, rfl, by decide +kernel, rfl, by decide +kernel, by decide +kernel⟩, by kernel_rfl, ⟨(defArgs (st 25)).args, by rfl, by decide +kernel⟩⟩
theorem ok15 : DefOk prg d15 := ⟨⟨rfl, rfl, rfl, by decide +kernel, rfl, by decide +kernel, by decide +kernel⟩, by kernel_rfl, ⟨(defArgs (st 26)).args, by rfl, by decide +kernel⟩⟩
theorem ok16 : DefOk prg d16 := ⟨⟨rfl, rfl, rfl, by decide +kernel, rfl, by decide +kernel, by decide +kernel⟩, by kernel_rfl, ⟨(defArgs (st 27)).args, by rfl, by decide +kernel⟩⟩
theorem ok17 : DefOk prg d17 := ⟨⟨rfl, rfl, rfl, by decide +kernel, rfl, by decide +kernel, by decide +kernel⟩, by kernel_rfl, ⟨(defArgs (st 28)).args, by rfl, by decide +kernel⟩⟩
theorem ok18 : DefOk prg d18 := ⟨⟨rfl, rfl, rfl, by decide +kernel, rfl, by decide +kernel, by decide +kernel⟩, by kernel_rfl, ⟨(defArgs (st 29)).args, by rfl, by decide +kernel⟩⟩
theorem ok19 : DefOk prg d19 := ⟨⟨rfl, rfl, rfl, by decide +kernel, rfl, by decide +kernel, by decide +kernel⟩, by kernel_rfl, ⟨(defArgs (st 30)).args, by rfl, by decide +kernel⟩⟩
theorem ok20 : DefOk prg d20 := ⟨⟨rfl, rfl, rfl, by decide +kernel, rfl, by decide +kernel, by decide +kernel⟩, by kernel_rfl, ⟨(defArgs (st 31)).args, by rfl, by decide +kernel⟩⟩
theorem ok21 : DefOk prg d21 := ⟨⟨rfl, rfl, rfl, by decide +kernel, rfl, by decide +kernel, by decide +kernel⟩, by kernel_rfl, ⟨(defArgs (st 32)).args, by rfl, by decide +kernel⟩⟩
theorem ok22 : DefOk prg d22 := ⟨⟨rfl, rfl, rfl, by decide +kernel, rfl, by decide +kernel, by decide +kernel⟩, by kernel_rfl, ⟨(defArgs (st 34)).args, by rfl, by decide +kernel⟩⟩
theorem ok23 : DefOk prg d23 := ⟨⟨rfl, rfl, rfl, by decide +kernel, rfl, by decide +kernel, by decide +kernel⟩, by kernel_rfl, ⟨(defArgs (st 36)).args, by rfl, by decide +kernel⟩⟩
theorem ok24 : DefOk prg d24 := ⟨⟨rfl, rfl, rfl, by decide +kernel, rfl, by decide +kernel, by decide +kernel⟩, by kernel_rfl, ⟨(defArgs (st 37)).args, by rfl, by decide +kernel⟩⟩
theorem ok25 : DefOk prg d25 := ⟨⟨rfl, rfl, rfl, by decide +kernel, rfl, by decide +kernel, by decide +kernel⟩, by kernel_rfl, ⟨(defArgs (st 39)).args, by rfl, by decide +kernel⟩⟩
theorem ok26 : DefOk prg d26 := ⟨⟨rfl, rfl, rfl, by decide +kernel, rfl, by decide +kernel, by decide +kernel⟩, by kernel_rfl, ⟨(defArgs (st 40)).args, by rfl, by decide +kernel⟩⟩
theorem ok27 : DefOk prg d27 := ⟨⟨rfl, rfl, rfl, by decide +kernel, rfl, by decide +kernel, by decide +kernel⟩, by kernel_rfl, ⟨(defArgs (st 41)).args, by rfl, by decide +kernel⟩⟩
theorem ok28 : DefOk prg d28 := ⟨⟨rfl, rfl, rfl, by decide +kernel, rfl, by decide +kernel, by decide +kernel⟩, by kernel_rfl, ⟨(defArgs (st 42)).args, by rfl, by decide +kernel⟩⟩
theorem ok29 : DefOk prg d29 := ⟨⟨rfl, rfl, rfl, by decide +kernel, rfl, by decide +kernel, by decide +kernel⟩, by kernel_rfl, ⟨(defArgs (st 43)).args, by rfl, by decide +kernel⟩⟩
theorem ok30 : DefOk prg d30 := ⟨⟨rfl, rfl, rfl, by decide +kernel, rfl, by decide +kernel, by decide +kernel⟩, by kernel_rfl, ⟨(defArgs (st 44)).args, by rfl, by decide +kernel⟩⟩
theorem ok31 : DefOk prg d31 := ⟨⟨rfl, rfl, rfl, by decide +kernel, rfl, by decide +kernel, by decide +kernel⟩, by kernel_rfl, ⟨(defArgs (st 45)).args, by rfl, by decide +kernel⟩⟩
theorem ok32 : DefOk prg d32 := ⟨⟨rfl, rfl, rfl, by decide +kernel, rfl, by decide +kernel, by decide +kernel⟩, by kernel_rfl, ⟨(defArgs (st 46)).args, by rfl, by decide +kernel⟩⟩
theorem ok33 : DefOk prg d33 := ⟨⟨rfl, rfl, rfl, by decide +kernel, rfl, by decide +kernel, by decide +kernel⟩, by kernel_rfl, ⟨(defArgs (st 47)).args, by rfl, by decide +kernel⟩⟩
theorem ok34 : DefOk prg d34 := ⟨⟨rfl, rfl, rfl, by decide +kernel, rfl, by decide +kernel, by decide +kernel⟩, by kernel_rfl, ⟨(defArgs (st 48)).args, by rfl, by decide +kernel⟩⟩
theorem ok35 : DefOk prg d35 := ⟨⟨rfl, rfl, rfl, by decide +kernel, rfl, by decide +kernel, by decide +kernel⟩, by kernel_rfl, ⟨(defArgs (st 49)).args, by rfl, by decide +kernel⟩⟩
theorem ok36 : DefOk prg d36 := ⟨⟨rfl, rfl, rfl, by decide +kernel, rfl, by decide +kernel, by decide +kernel⟩, by kernel_rfl, ⟨(defArgs (st 50)).args, by rfl, by decide +kernel⟩⟩
theorem ok37 : DefOk prg d37 := ⟨⟨rfl, rfl, rfl, by decide +kernel, rfl, by decide +kernel, by decide +kernel⟩, by kernel_rfl, ⟨(defArgs (st 51)).args, by rfl, by decide +kernel⟩⟩
theorem ok38 : DefOk prg d38 := ⟨⟨rfl, rfl, rfl, by decide +kernel, rfl, by decide +kernel, by decide +kernel⟩, by kernel_rfl, ⟨(defArgs (st 52)).args, by rfl, by decide +kernel⟩⟩
theorem ok39 : DefOk prg d39 := ⟨⟨rfl, rfl, rfl, by decide +kernel, rfl, by decide +kernel, by decide +kernel⟩, by kernel_rfl, ⟨(defArgs (st 53)).args, by rfl, by decide +kernel⟩⟩
theorem ok40 : DefOk prg d40 := ⟨⟨rfl, rfl, rfl, by decide +kernel, rfl, by decide +kernel, by decide +kernel⟩, by kernel_rfl, ⟨(defArgs (st 54)).args, by rfl, by decide +kernel⟩⟩
theorem ok41 : DefOk prg d41 := ⟨⟨rfl, rfl, rfl, by decide +kernel, rfl, by decide +kernel, by decide +kernel⟩, by kernel_rfl, ⟨(defArgs (st 55)).args, by rfl, by decide +kernel⟩⟩
theorem ok42 : DefOk prg d42 := ⟨⟨rfl, rfl, rfl, by decide +kernel, rfl, by decide +kernel, by decide +kernel⟩, by kernel_rfl, ⟨(defArgs (st 56)).args, by rfl, by decide +kernel⟩⟩
theorem ok43 : DefOk prg d43 := ⟨⟨rfl, rfl, rfl, by decide +kernel, rfl, by decide +kernel, by decide +kernel⟩, by kernel_rfl, ⟨(defArgs (st 57)).args, by rfl, by decide +kernel⟩⟩
theorem ok44 : DefOk prg d44 := ⟨⟨rfl, rfl, rfl, by decide +kernel, rfl, by decide +kernel, by decide +kernel⟩, by kernel_rfl, ⟨(defArgs (st 58)).args, by rfl, by decide +kernel⟩⟩
theorem ok45 : DefOk prg d45 := ⟨⟨rfl, rfl, rfl, by decide +kernel, rfl, by decide +kernel, by decide +kernel⟩, by kernel_rfl, ⟨(defArgs (st 59)).args, by rfl, by decide +kernel⟩⟩
theorem ok46 : DefOk prg d46 := ⟨⟨rfl, rfl, rfl, by decide +kernel, rfl, by decide +kernel, by decide +kernel⟩, by kernel_rfl, ⟨(defArgs (st 60)).args, by rfl, by decide +kernel⟩⟩
theorem ok47 : DefOk prg d47 := ⟨⟨rfl, rfl, rfl, by decide +kernel, rfl, by decide +kernel, by decide +kernel⟩, by kernel_rfl, ⟨(defArgs (st 61)).args, by rfl, by decide +kernel⟩⟩
theorem ok48 : DefOk prg d48 := ⟨⟨rfl, rfl, rfl, by decide +kernel, rfl, by decide +kernel, by decide +kernel⟩, by kernel_rfl, ⟨(defArgs (st 62)).args, by rfl, by decide +kernel⟩⟩
theorem ok49 : DefOk prg d49 := ⟨⟨rfl, rfl, rfl, by decide +kernel, rfl, by decide +kernel, by decide +kernel⟩, by kernel_rfl, ⟨(defArgs (st 63)).args, by rfl, by decide +kernel⟩⟩
theorem prg_ok : PrgOk prg := ⟨fun d h => by
  simp only [prg, List.mem_cons, List.not_mem_nil, or_false] at h
  rcases h with rfl | rfl | rfl | rfl | rfl | rfl | rfl | rfl | rfl | rfl | rfl | rfl | rfl | rfl | rfl | rfl | rfl | rfl | rfl | rfl | rfl | rfl | rfl | rfl | rfl | rfl | rfl | rfl | rfl | rfl | rfl | rfl | rfl | rfl | rfl | rfl | rfl | rfl | rfl | rfl | rfl | rfl | rfl | rfl | rfl | rfl | rfl | rfl | rfl | rfl
  · exact ok0
  · exact ok1
  · exact ok2
  · exact ok3
  · exact ok4
  · exact ok5
  · exact ok6
  · exact ok7
  · exact ok8
  · exact ok9
  · exact ok10
  · exact ok11
  · exact ok12
  · exact ok13
  · exact ok14
  · exact ok15
  · exact ok16
  · exact ok17
  · exact ok18
  · exact ok19
  · exact ok20
  · exact ok21
  · exact ok22
  · exact ok23
  · exact ok24
  · exact ok25
  · exact ok26
  · exact ok27
  · exact ok28
  · exact ok29
  · exact ok30
  · exact ok31
  · exact ok32
  · exact ok33
  · exact ok34
  · exact ok35
  · exact ok36
  · exact ok37
  · exact ok38
  · exact ok39
  · exact ok40
  · exact ok41
  · exact ok42
  · exact ok43
  · exact ok44
  · exact ok45
  · exact ok46
  · exact ok47
  · exact ok48
  · exact ok49,
  fun q h => by
  simp only [prg, pats, List.mem_cons, List.not_mem_nil, or_false] at h
  rcases h with rfl | rfl | rfl | rfl | rfl | rfl | rfl | rfl | rfl | rfl | rfl | rfl | rfl | rfl | rfl | rfl | rfl | rfl | rfl | rfl | rfl | rfl | rfl | rfl | rfl | rfl | rfl | rfl | rfl | rfl | rfl | rfl | rfl | rfl | rfl | rfl | rfl | rfl | rfl | rfl | rfl | rfl | rfl | rfl | rfl | rfl | rfl | rfl | rfl | rfl | rfl
  · exact ⟨d0, rfl, rfl, rfl, by decide +kernel⟩
  · exact ⟨d1, rfl, rfl, rfl, by decide +kernel⟩
  · exact ⟨d2, rfl, rfl, rfl, by decide +kernel⟩
  · exact ⟨d4, rfl, rfl, rfl, by decide +kernel⟩
  · exact ⟨d5, rfl, rfl, rfl, by decide +kernel⟩
  · exact ⟨d7, rfl, rfl, rfl, by decide +kernel⟩
  · exact ⟨d8, rfl, rfl, rfl, by decide +kernel⟩
  · exact ⟨d10, rfl, rfl, rfl, by decide +kernel⟩
  · exact ⟨d6, rfl, rfl, rfl, by decide +kernel⟩
  · exact ⟨d11, rfl, rfl, rfl, by decide +kernel⟩
  · exact ⟨d13, rfl, rfl, rfl, by decide +kernel⟩
  · exact ⟨d14, rfl, rfl, rfl, by decide +kernel⟩
  · exact ⟨d16, rfl, rfl, rfl, by decide +kernel⟩
  · exact ⟨d9, rfl, rfl, rfl, by decide +kernel⟩
  · exact ⟨d18, rfl, rfl, rfl, by decide +kernel⟩
  · exact ⟨d19, rfl, rfl, rfl, by decide +kernel⟩
  · exact ⟨d12, rfl, rfl, rfl, by decide +kernel⟩
  · exact ⟨d3, rfl, rfl, rfl, by decide +kernel⟩
  · exact ⟨d15, rfl, rfl, rfl, by decide +kernel⟩
  · exact ⟨d17, rfl, rfl, rfl, by decide +kernel⟩
  · exact ⟨d20, rfl, rfl, rfl, by decide +kernel⟩
  · exact ⟨d22, rfl, rfl, rfl, by decide +kernel⟩
  · exact ⟨d21, rfl, rfl, rfl, by decide +kernel⟩
  · exact ⟨d26, rfl, rfl, rfl, by decide +kernel⟩
  · exact ⟨d29, rfl, rfl, rfl, by decide +kernel⟩
  · exact ⟨d30, rfl, rfl, rfl, by decide +kernel⟩
  · exact ⟨d31, rfl, rfl, rfl, by decide +kernel⟩
  · exact ⟨d27, rfl, rfl, rfl, by decide +kernel⟩
  · exact ⟨d28, rfl, rfl, rfl, by decide +kernel⟩
  · exact ⟨d35, rfl, rfl, rfl, by decide +kernel⟩
  · exact ⟨d32, rfl, rfl, rfl, by decide +kernel⟩
  · exact ⟨d33, rfl, rfl, rfl, by decide +kernel⟩
  · exact ⟨d34, rfl, rfl, rfl, by decide +kernel⟩
  · exact ⟨d41, rfl, rfl, rfl, by decide +kernel⟩
  · exact ⟨d23, rfl, rfl, rfl, by decide +kernel⟩
  · exact ⟨d40, rfl, rfl, rfl, by decide +kernel⟩
  · exact ⟨d37, rfl, rfl, rfl, by decide +kernel⟩
  · exact ⟨d23, rfl, rfl, rfl, by decide +kernel⟩
  · exact ⟨d43, rfl, rfl, rfl, by decide +kernel⟩
  · exact ⟨d42, rfl, rfl, rfl, by decide +kernel⟩
  · exact ⟨d36, rfl, rfl, rfl, by decide +kernel⟩
  · exact ⟨d24, rfl, rfl, rfl, by decide +kernel⟩
  · exact ⟨d24, rfl, rfl, rfl, by decide +kernel⟩
  · exact ⟨d25, rfl, rfl, rfl, by decide +kernel⟩
  · exact ⟨d38, rfl, rfl, rfl, by decide +kernel⟩
  · exact ⟨d44, rfl, rfl, rfl, by decide +kernel⟩
  · exact ⟨d47, rfl, rfl, rfl, by decide +kernel⟩
  · exact ⟨d46, rfl, rfl, rfl, by decide +kernel⟩
  · exact ⟨d48, rfl, rfl, rfl, by decide +kernel⟩
  · exact ⟨d39, rfl, rfl, rfl, by decide +kernel⟩
  · exact ⟨d45, rfl, rfl, rfl, by decide +kernel⟩,
  (fun q h => by cases h),
  (fun q h => by cases h)⟩
abbrev F (k : Nat) : Fm := Run prg.T k
end Cb.K51

namespace Cb.K51
end Cb.K51

namespace Cb.K51
open PySem PySem.Spec PyProof.Rows L2
variable {k : Nat} {st : Store} {Q : K1}
/-! ### fractions: p / q in lowest terms is P / S -/
structure FrN (S P p q : Nat) : Prop where
  pos : 0 < q
  co : Nat.gcd p q = 1
  val : p * S = P * q
theorem FrN.le {S P p q : Nat} (h : FrN S P p q) (hS : 0 < S) : q ≤ S := by
  have hd : q ∣ S := by
    have : q ∣ p * S := by rw [h.val]; exact Nat.dvd_mul_left _ _
    exact Nat.Coprime.dvd_of_dvd_mul_left (show Nat.Coprime q p by unfold Nat.Coprime; rw [Nat.gcd_comm]; exact h.co) this
  exact Nat.le_of_dvd hS hd
theorem FrN.ple {S P p q : Nat} (h : FrN S P p q) (hS : 0 < S) : p ≤ P := by
  have h1 := h.le hS
  have : p * S ≤ P * S := by rw [h.val]; exact Nat.mul_le_mul_left _ h1
  exact Nat.le_of_mul_le_mul_right this hS
theorem FrN.mk' {S P a b : Nat} (hb : 0 < b) (hv : a * S = P * b) : FrN S P (a / Nat.gcd a b) (b / Nat.gcd a b) := by
  have hg : 0 < Nat.gcd a b := Nat.gcd_pos_of_pos_right _ hb
  obtain ⟨x, hx⟩ := Nat.gcd_dvd_left a b
  obtain ⟨y, hy⟩ := Nat.gcd_dvd_right a b
  have hc : Nat.gcd (a / Nat.gcd a b) (b / Nat.gcd a b) = 1 := Nat.gcd_div_gcd_div_gcd_of_pos_right hb
  generalize Nat.gcd a b = g at *
  have ex : a / g = x := by rw [hx, Nat.mul_div_cancel_left _ hg]
  have ey : b / g = y := by rw [hy, Nat.mul_div_cancel_left _ hg]
  rw [ex, ey] at hc ⊢
  refine ⟨Nat.pos_of_ne_zero fun z => ?_, hc, ?_⟩
  · rw [z, Nat.mul_zero] at hy
    omega
  · rw [hx, hy, Nat.mul_assoc, Nat.mul_left_comm P] at hv
    exact Nat.eq_of_mul_eq_mul_left hg hv
theorem FrN.zero {S : Nat} : FrN S 0 0 1 := ⟨by decide, by decide, by simp⟩
theorem FrN.all {S p q : Nat} (hS : 0 < S) (h : FrN S S p q) : p = 1 ∧ q = 1 := by
  have : p = q := Nat.eq_of_mul_eq_mul_right hS (by rw [h.val, Nat.mul_comm])
  subst this
  have := h.co
  rw [Nat.gcd_self] at this
  exact ⟨this, this⟩
def fr (p q : Nat) : D := .tup [.int (p : Int), .int (q : Int)]
/-- a part of the whole S, as a fraction -/
def fp (S P : Nat) : D := fr (P / Nat.gcd P S) (S / Nat.gcd P S)
theorem fp_ok {S P : Nat} (hS : 0 < S) : FrN S P (P / Nat.gcd P S) (S / Nat.gcd P S) := FrN.mk' hS rfl
theorem is_integer_ok {x : Int} (q : Q (.bl true) st) : F (k + 1) 0 [.int x] st Q := by
  refine run_step (fd := ⟨1, 1, b0⟩) rfl rfl ?_
  simp [b0, startD, isTy, wps_seq, q]
theorem is_between_ok {x l m : Int} (h : l ≤ x ∧ x ≤ m) (q : Q (.bl true) st) : F (k + 2) 1 [.int x, .int l, .int m] st Q := by
  refine run_step (fd := ⟨3, 3, b1⟩) rfl rfl ?_
  simp [b1, startD, permN, permL, wps_seq]
  refine is_integer_ok ?_
  simp [h.1, h.2, q]
theorem are_between_ok {bs : List Int} {l m : Int} (h : ∀ b ∈ bs, l ≤ b ∧ b ≤ m) (hl : bs.length ≤ 1000) (q : ∀ x, Q (.bl true) (st ++ [x])) : F (k + 3) 2 [.tup (bs.map D.int), .int l, .int m] st Q := by
  refine run_step (fd := ⟨3, 4, b2⟩) rfl rfl ?_
  simp [b2, startD, permN, permL, isTy, wps_seq]
  refine lc_seq (fun i acc st' => st' = st ∧ acc = (List.replicate i true).map D.bl ∧ i ≤ 1000) ⟨rfl, rfl, by omega⟩ (fun i d acc st' X hd ⟨h1, h2, h3⟩ hX => ?_) (fun acc st' ⟨h1, h2, h3⟩ => ?_)
  · rw [List.getElem?_map] at hd
    obtain ⟨b, hb, rfl⟩ := Option.map_eq_some_iff.mp hd
    have hi := (List.getElem?_eq_some_iff.mp hb).1
    subst h1 h2
    refine ⟨_, rfl, ?_⟩
    simp [wipeD, permN, permL]
    refine is_between_ok (h b (List.mem_of_getElem? hb)) ?_
    refine ⟨by omega, hX _ _ ⟨rfl, ?_, by omega⟩⟩
    rw [List.replicate_succ', List.map_append]
    simp
  · subst h1 h2
    refine bl_all (bs := List.replicate bs.length true) (by simp) ?_
    simpa using q _
theorem divisor_ok {a : Int} {b : Nat} (q : Q (.int (Nat.gcd a.natAbs b : Nat)) st) : F (k + 1) 4 [.int a, .int b] st Q :=
  run_step (fd := ⟨2, 2, b4⟩) rfl rfl (div_wps q)
theorem is_fraction_ok {p q : Nat} (hq : 0 < q) (hc : Nat.gcd p q = 1) (h : Q (.bl true) st) : F (k + 2) 5 [fr p q] st Q := by
  refine run_step (fd := ⟨1, 1, b5⟩) rfl rfl ?_
  unfold b5
  refine seq_i fun X hX => ite_i fun A B hA hB => ?_
  simp [startD, isTy, permN, permL, fr]
  refine is_integer_ok ?_
  simp
  refine is_integer_ok ?_
  simp
  refine hB _ (hX _ _ ?_)
  simp [startD, wps_seq, permN, permL, fr, hq]
  refine divisor_ok ?_
  simp [hc]
  exact h
theorem is_share_ok {p q : Nat} (hq : 0 < q) (hc : Nat.gcd p q = 1) (h : Q (.bl true) st) : F (k + 3) 6 [fr p q] st Q := by
  refine run_step (fd := ⟨1, 1, b6⟩) rfl rfl ?_
  simp [b6, startD, wps_seq, permN, permL]
  refine is_fraction_ok hq hc ?_
  simp [fr]
  exact h
theorem lowest_ok {a b : Nat} (hb : 0 < b) (hb2 : b ≤ 2 ^ 64) (q : Q (fr (a / Nat.gcd a b) (b / Nat.gcd a b)) st) : F (k + 2) 7 [.int (a : Nat), .int b] st Q := by
  refine run_step (fd := ⟨2, 3, b7⟩) rfl rfl (low_wps (f := 4) (fun a b st Q q => divisor_ok q) hb hb2 ?_)
  rw [Int.natAbs_natCast]
  have e3 : ((a : Nat) : Int) / ((Nat.gcd a b : Nat) : Int) = (a / Nat.gcd a b : Nat) := (Int.natCast_ediv _ _).symm
  rw [e3]
  exact q
theorem plus_ok {S P1 P2 p1 q1 p2 q2 : Nat} (hS : 0 < S) (hS2 : S ≤ 2 ^ 20) (h1 : FrN S P1 p1 q1) (h2 : FrN S P2 p2 q2) (hq : ∀ p q, FrN S (P1 + P2) p q → Q (fr p q) st) : F (k + 3) 8 [fr p1 q1, fr p2 q2] st Q := by
  have l1 := h1.le hS
  have l2 := h2.le hS
  have l3 : q1 * q2 ≤ 2 ^ 20 * 2 ^ 20 := Nat.mul_le_mul (by omega) (by omega)
  have g1 := h1.pos
  have g2 := h2.pos
  refine run_step (fd := ⟨2, 2, b8⟩) rfl rfl (plus_wps (f := 7) (by omega) (by omega) ?_)
  have e1 : (p1 : Int) * (q2 : Int) + (p2 : Int) * (q1 : Int) = ((p1 * q2 + p2 * q1 : Nat) : Int) := by push_cast; rfl
  have e2 : (q1 : Int) * (q2 : Int) = ((q1 * q2 : Nat) : Int) := by push_cast; rfl
  rw [e1, e2]
  refine lowest_ok (k := k) (Nat.mul_pos g1 g2) (by omega) (hq _ _ (FrN.mk' (Nat.mul_pos g1 g2) ?_))
  have v1 : p1 * q2 * S = P1 * (q1 * q2) := by rw [Nat.mul_right_comm, h1.val, Nat.mul_assoc]
  have v2 : p2 * q1 * S = P2 * (q1 * q2) := by rw [Nat.mul_right_comm, h2.val, Nat.mul_assoc, Nat.mul_comm q2 q1]
  rw [Nat.add_mul, Nat.add_mul, v1, v2]
theorem take_succ {α : Type} {xs : List α} {i : Nat} {x : α} (h : xs[i]? = some x) : xs.take (i + 1) = xs.take i ++ [x] := by
  rw [List.take_add_one, h]
  rfl
/-- a table: parts of the whole -/
def tabD (ps : List Nat) : D := .tup (ps.map (fp ps.sum))
theorem total_ok {S : Nat} {ps : List Nat} (hS : 0 < S) (hS2 : S ≤ 2 ^ 20) (hq : ∀ p q, FrN S ps.sum p q → Q (fr p q) st) : F (k + 4) 10 [.tup (ps.map (fp S))] st Q := by
  refine run_step (fd := ⟨1, 3, b10⟩) rfl rfl ?_
  unfold b10
  refine seq_i fun X hX => ?_
  simp [startD]
  refine hX _ _ (seq_i fun X2 hX2 => ?_)
  simp
  refine for_seq (fun i ρ st' => st' = st ∧ ∃ (p q : Nat) (x : Option D), ρ = [some (.tup (ps.map (fp S))), some (fr p q), x] ∧ FrN S (ps.take i).sum p q) ⟨rfl, 0, 1, none, rfl, by simpa using FrN.zero⟩ (fun i d ρ st' Y hd ⟨e1, p, q, x, e2, h⟩ hY => ?_) (fun ρ st' ⟨e1, p, q, x, e2, h⟩ => ?_)
  · subst e1 e2
    rw [List.getElem?_map] at hd
    obtain ⟨P, hP, rfl⟩ := Option.map_eq_some_iff.mp hd
    refine ⟨_, rfl, ?_⟩
    simp [wps_seq, permN, permL]
    refine plus_ok hS hS2 h (fp_ok hS) fun p' q' h' => ?_
    refine hY _ _ ⟨rfl, p', q', _, rfl, ?_⟩
    rw [take_succ hP]
    simpa using h'
  · subst e1 e2
    rw [List.length_map, List.take_length] at h
    refine hX2 _ _ ?_
    simp [wps_seq]
    exact hq p q h
end Cb.K51

namespace Cb.K51
open PySem PySem.Spec PyProof.Rows L2
variable {k : Nat} {st : Store} {Q : K1}
def rowD (is : List Nat) : D := ti (is.map fun i : Nat => (i : Int))
structure Stt where
  ps : List Nat
  fs : List Nat
def stD (s : Stt) : D := .tup [tabD s.ps, rowD s.fs]
def modD (m : List Stt) : D := .tup (m.map stD)
structure Sok (n many : Nat) (s : Stt) : Prop where
  pl : s.ps.length = n
  fl : s.fs.length = n
  f : ∀ f ∈ s.fs, f < many
  s : 1 ≤ s.ps.sum ∧ s.ps.sum ≤ 100
structure Mok (n : Nat) (m : List Stt) : Prop where
  len : 1 ≤ m.length ∧ m.length ≤ 8
  hn : 1 ≤ n ∧ n ≤ 8
  st : ∀ s ∈ m, Sok n m.length s
theorem sm_fr {p q : Nat} (h1 : p ≤ 1000000) (h2 : q ≤ 1000000) : Sm (fr p q) ∧ pl (fr p q) = true := by
  refine ⟨⟨?_, ?_, ?_⟩, ?_⟩
  · simp [fr, sm, smAll]; omega
  · simp [fr, dep, depAll]
  · simp [fr, cnt, cntAll]
  · simp [fr, pl, plAll]; omega
theorem is_table_ok {ps : List Nat} (hl : 1 ≤ ps.length ∧ ps.length ≤ 8) (hs : 1 ≤ ps.sum ∧ ps.sum ≤ 100) (hq : ∀ l, Q (.bl true) (st ++ l)) : F (k + 5) 11 [tabD ps] st Q := by
  refine run_step (fd := ⟨1, 2, b11⟩) rfl rfl ?_
  unfold b11
  refine seq_i fun X hX => ite_i fun A B hA hB => ?_
  simp [startD, tabD, isTy]
  refine Br.gt (decide_eq_true (by omega)) ?_
  refine .inr ⟨by omega, ?_⟩
  refine lc_seq (fun i acc st' => st' = st ∧ acc = (List.replicate i true).map D.bl ∧ i ≤ 1000) ⟨rfl, rfl, by omega⟩ (fun i d acc st' Y hd ⟨h1, h2, h3⟩ hY => ?_) (fun acc st' ⟨h1, h2, h3⟩ => ?_)
  · rw [List.getElem?_map] at hd
    obtain ⟨P, hP, rfl⟩ := Option.map_eq_some_iff.mp hd
    have hi := (List.getElem?_eq_some_iff.mp hP).1
    have hf := fp_ok (S := ps.sum) (P := P) (by omega)
    subst h1 h2
    refine ⟨_, rfl, ?_⟩
    simp [wipeD, permN, permL]
    refine is_share_ok hf.pos hf.co ?_
    refine ⟨by omega, hY _ _ ⟨rfl, ?_, by omega⟩⟩
    rw [List.replicate_succ', List.map_append]
    simp
  · subst h1 h2
    refine bl_all (bs := List.replicate ps.length true) (by simp) ?_
    simp
    refine hB _ (hX _ _ ?_)
    simp [startD, wps_seq, permN, permL, tabD]
    refine total_ok (S := ps.sum) (by omega) (by omega) fun p q hf => ?_
    obtain ⟨rfl, rfl⟩ := hf.all (by omega)
    exact c_eqSame (xs := [.int ((1 : Nat) : Int), .int ((1 : Nat) : Int)]) rfl (sm_fr (p := 1) (q := 1) (by omega) (by omega)).1 (hq _)
theorem is_state_ok {n many : Nat} {s : Stt} (h : Sok n many s) (hn : 1 ≤ n ∧ n ≤ 8) (hm : many ≤ 8) (hq : ∀ l, Q (.bl true) (st ++ l)) : F (k + 6) 13 [stD s, .int (n : Nat), .int (many : Nat)] st Q := by
  have e1 := h.pl
  have e2 := h.fl
  refine run_step (fd := ⟨3, 3, b13⟩) rfl rfl ?_
  unfold b13
  refine seq_i fun X hX => ite_i fun A B hA hB => ?_
  simp [startD, stD, isTy, permN, permL]
  refine is_table_ok (by omega) h.s fun l => ?_
  simp [tabD, e1]
  refine hB _ (hX _ _ ?_)
  simp [startD, wps_seq, permN, permL, stD, rowD, ti]
  rw [← List.map_map]
  refine are_between_ok (bs := s.fs.map fun i : Nat => (i : Int)) (fun b hb => ?_) (by simp; omega) fun x => ?_
  · obtain ⟨i, hi, rfl⟩ := List.mem_map.mp hb
    have := h.f i hi
    omega
  simp [e2]
  exact hq _
theorem pl_fp {S P : Nat} (hS : 1 ≤ S ∧ S ≤ 100) (hP : P ≤ 100000) : pl (fp S P) = true ∧ dep (fp S P) ≤ 1 ∧ cnt (fp S P) ≤ 2 := by
  have hf := fp_ok (S := S) (P := P) (by omega)
  have h1 := hf.le (by omega)
  have h2 := hf.ple (by omega)
  refine ⟨(sm_fr (by omega) (by omega)).2, ?_, ?_⟩
  · simp [fp, fr, dep, depAll]
  · simp [fp, fr, cnt, cntAll]
theorem part_le : ∀ {ps : List Nat} {P : Nat}, P ∈ ps → P ≤ ps.sum
  | p :: ps, P, h => by
    rw [List.sum_cons]
    rcases List.mem_cons.mp h with rfl | h
    · omega
    · have := part_le h
      omega
theorem small_row {is : List Nat} {m : Nat} (h : ∀ i ∈ is, i < m) (hm : m ≤ 1000) : ∀ b ∈ is.map (fun i : Nat => (i : Int)), b.natAbs < 10 ^ 12 := fun b hb => by
  obtain ⟨i, hi, rfl⟩ := List.mem_map.mp hb
  have := h i hi
  omega
theorem data_st {n many : Nat} {s : Stt} (h : Sok n many s) (hn : n ≤ 8) (hm : many ≤ 8) : pl (stD s) = true ∧ dep (stD s) ≤ 3 ∧ cnt (stD s) ≤ 50 := by
  have hp : ∀ P ∈ s.ps, pl (fp s.ps.sum P) = true ∧ dep (fp s.ps.sum P) ≤ 1 ∧ cnt (fp s.ps.sum P) ≤ 2 := fun P hP => pl_fp h.s (by have := part_le hP; have := h.s; omega)
  have e1 := h.pl
  have e2 := h.fl
  refine ⟨?_, ?_, ?_⟩
  · have h1 : pl (tabD s.ps) = true := by
      simp only [tabD, pl]
      exact plAll_map fun P hP => (hp P hP).1
    have h2 : pl (rowD s.fs) = true := pl_ti (small_row h.f (by omega))
    simp only [stD, pl, plAll, h1, h2, Bool.and_self]
  · have h1 := depAll_map (f := fp s.ps.sum) (n := 1) (xs := s.ps) fun P hP => (hp P hP).2.1
    have h2 := dep_ti (w := s.fs.map fun i : Nat => (i : Int))
    simp only [stD, tabD, rowD, dep, depAll]
    omega
  · have h1 := cntAll_map (f := fp s.ps.sum) (n := 2) (xs := s.ps) fun P hP => (hp P hP).2.2
    have h2 := cnt_ti (w := s.fs.map fun i : Nat => (i : Int))
    rw [List.length_map] at h2
    simp only [stD, tabD, rowD, cnt, cntAll]
    omega
theorem sm_mod {n : Nat} {m : List Stt} (h : Mok n m) : Sm (modD m) ∧ pl (modD m) = true := by
  have hl := h.len
  have hn := h.hn
  have hs : ∀ s ∈ m, pl (stD s) = true ∧ dep (stD s) ≤ 3 ∧ cnt (stD s) ≤ 50 := fun s hs => data_st (h.st s hs) hn.2 hl.2
  have h0 : pl (modD m) = true := by
    simp only [modD, pl]
    exact plAll_map fun s h => (hs s h).1
  refine ⟨⟨sm_of_pl _ h0, ?_, ?_⟩, h0⟩
  · have h1 := depAll_map (f := stD) (n := 3) (xs := m) fun s h => (hs s h).2.1
    simp only [modD, dep]
    omega
  · have h1 := cntAll_map (f := stD) (n := 50) (xs := m) fun s h => (hs s h).2.2
    simp only [modD, cnt]
    omega
theorem at_map {α : Type} {f : α → D} {xs : List α} {i : Nat} {x : α} (h : xs[i]? = some x) : atI (xs.map f) (i : Int) = some (f x) := at_get (by rw [List.getElem?_map, h]; rfl)
theorem is_model_ok {n : Nat} {m : List Stt} (h : Mok n m) (hq : ∀ l, Q (.bl true) (st ++ l)) : F (k + 7) 14 [modD m] st Q := by
  have hl := h.len
  have hn := h.hn
  have hdat := sm_mod h
  obtain ⟨s0, e0⟩ : ∃ s0, m[0]? = some s0 := ⟨m[0]'(by omega), List.getElem?_eq_getElem (by omega)⟩
  have h0 := h.st s0 (List.mem_of_getElem? e0)
  have hp0 := h0.pl
  have a0 : atI (m.map stD) 0 = some (stD s0) := at_map (i := 0) e0
  refine run_step (fd := ⟨1, 2, b14⟩) rfl rfl ?_
  unfold b14
  refine seq_i fun X hX => ite_i fun A B hA hB => ?_
  simp [startD, isTy, modD]
  refine c_eqP ⟨_, rfl⟩ hdat.1 (show Sm (.tup []) from ⟨rfl, by simp [dep, depAll], by simp [cnt, cntAll]⟩) hdat.2 (by simp [pl, plAll]) ⟨fun z => ?_, fun _ => ?_⟩
  · simp [modD] at z
    subst z
    simp at hl
  simp [a0, stD]
  refine hB _ (hX _ _ (seq_i fun X2 hX2 => ite_i fun A2 B2 hA2 hB2 => ?_))
  simp [startD, modD, a0, stD, isTy, tabD]
  refine hB2 _ (hX2 _ _ ?_)
  simp [startD, modD, wps_seq]
  refine lc_seq (fun i acc st' => (∃ l, st' = st ++ l) ∧ acc = (List.replicate i true).map D.bl ∧ i ≤ 1000) ⟨⟨[], by simp⟩, rfl, by omega⟩ (fun i d acc st' Y hd ⟨⟨l, h1⟩, h2, h3⟩ hY => ?_) (fun acc st' ⟨⟨l, h1⟩, h2, h3⟩ => ?_)
  · rw [List.getElem?_map] at hd
    obtain ⟨s, hs, rfl⟩ := Option.map_eq_some_iff.mp hd
    have hi := (List.getElem?_eq_some_iff.mp hs).1
    subst h1 h2
    refine ⟨_, rfl, ?_⟩
    simp [wipeD, permN, permL, modD, a0]
    simp [stD, tabD, hp0]
    refine is_state_ok (s := s) (h.st s (List.mem_of_getElem? hs)) hn hl.2 fun l' => ?_
    refine ⟨by omega, hY _ _ ⟨⟨l ++ l', by simp⟩, ?_, by omega⟩⟩
    rw [List.replicate_succ', List.map_append]
    simp
  · subst h1 h2
    refine bl_all (bs := List.replicate m.length true) (by simp) ?_
    simp
    exact hq _
theorem need_model_ok {n : Nat} {m : List Stt} (h : Mok n m) (hq : ∀ l, Q .non (st ++ l)) : F (k + 8) 15 [modD m] st Q := by
  refine run_step (fd := ⟨1, 1, b15⟩) rfl rfl ?_
  simp [b15, startD, permN, permL, wps_seq, wps_ite]
  exact is_model_ok h fun l => by simpa using hq l
end Cb.K51

namespace Cb.K51
open PySem PySem.Spec PyProof.Rows L2
variable {k : Nat} {st : Store} {Q : K1}
/-- a way: outcomes of positive chance, from a state -/
inductive Wy (m : List Stt) : Nat → List Nat → Prop
  | nil {s : Nat} : s < m.length → Wy m s []
  | cons {s o P s' : Nat} {S : Stt} {os : List Nat} : m[s]? = some S → S.ps[o]? = some P → 0 < P → S.fs[o]? = some s' → Wy m s' os → Wy m s (o :: os)
theorem Wy.lt {m : List Stt} {s : Nat} {os : List Nat} (h : Wy m s os) : s < m.length := by
  cases h with
  | nil h => exact h
  | cons h => exact (List.getElem?_eq_some_iff.mp h).1
theorem fp_top {S P : Nat} (hS : 0 < S) (hP : 0 < P) : 0 < P / Nat.gcd P S := Nat.div_pos (Nat.gcd_le_left _ hP) (Nat.gcd_pos_of_pos_left _ hP)
theorem drop_cons {α : Type} {xs : List α} {i : Nat} {x : α} (h : xs[i]? = some x) : xs.drop i = x :: xs.drop (i + 1) := by
  obtain ⟨hi, e⟩ := List.getElem?_eq_some_iff.mp h
  rw [List.drop_eq_getElem_cons hi, e]
theorem at_row {is : List Nat} {i x : Nat} (h : is[i]? = some x) : atI (List.map (D.int ∘ fun i : Nat => (i : Int)) is) (i : Int) = some (.int (x : Nat)) := at_get (by rw [List.getElem?_map, h]; rfl)
theorem is_way_ok {n : Nat} {m : List Stt} (h : Mok n m) {way : List Nat} (hw : Wy m 0 way) (hq : Q (.bl true) st) : F (k + 3) 16 [modD m, rowD way] st Q := by
  refine run_step (fd := ⟨2, 6, b16⟩) rfl rfl ?_
  unfold b16
  refine seq_i fun X hX => ite_i fun A B hA hB => ?_
  simp [startD, isTy, rowD, ti]
  refine hB _ (hX _ _ (seq_i fun X2 hX2 => ?_))
  simp [startD]
  refine hX2 _ _ (seq_i fun X3 hX3 => ?_)
  simp [rowD, ti]
  refine for_seq (fun i ρ st' => st' = st ∧ ∃ (cur : Nat) (x3 x4 x5 : Option D), ρ = [some (modD m), some (rowD way), some (.int (cur : Nat)), x3, x4, x5] ∧ Wy m cur (way.drop i)) ⟨rfl, 0, none, none, none, by simp [rowD, ti], hw⟩ (fun i d ρ st' Y hd ⟨e1, cur, x3, x4, x5, e2, hwy⟩ hY => ?_) (fun ρ st' ⟨e1, cur, x3, x4, x5, e2, hwy⟩ => ?_)
  · subst e1 e2
    rw [List.getElem?_map] at hd
    obtain ⟨o, ho, rfl⟩ := Option.map_eq_some_iff.mp hd
    rw [drop_cons ho] at hwy
    cases hwy with
    | @cons _ _ P s' S _ g1 g2 g3 g4 g5 =>
      have hS := h.st S (List.mem_of_getElem? g1)
      have hol := (List.getElem?_eq_some_iff.mp g2).1
      have hpl := hS.pl
      have hnb := h.hn
      have ht := fp_top (S := S.ps.sum) (P := P) (by have := hS.s; omega) g3
      refine ⟨_, rfl, seq_i fun X4 hX4 => ?_⟩
      simp [modD]
      refine ⟨_, at_map g1, ?_⟩
      simp [stD]
      refine hX4 _ _ (seq_i fun X5 hX5 => ite_i fun A2 B2 hA2 hB2 => ?_)
      simp [permN, permL, tabD]
      refine is_between_ok (by omega) ?_
      simp
      refine ⟨_, at_map g2, ?_⟩
      simp [fp, fr]
      have hne : ¬ (((P / Nat.gcd P S.ps.sum : Nat) : Int) = 0) := by omega
      refine Br.gf (by simpa using hne) (hB2 _ (hX5 _ _ (seq_i fun X6 hX6 => ?_)))
      simp [rowD, ti]
      refine ⟨_, at_row g4, ?_⟩
      exact hX6 _ _ (hY _ _ ⟨rfl, s', some (.int (o : Nat)), some (tabD S.ps), some (rowD S.fs), by simp [modD, rowD, ti], g5⟩)
  · subst e1 e2
    refine hX3 _ _ ?_
    simp [wps_seq]
    exact hq
theorem need_way_ok {n : Nat} {m : List Stt} (h : Mok n m) {way : List Nat} (hw : Wy m 0 way) (hq : Q .non st) : F (k + 4) 17 [modD m, rowD way] st Q := by
  refine run_step (fd := ⟨2, 2, b17⟩) rfl rfl ?_
  simp [b17, startD, permN, permL, wps_seq, wps_ite]
  exact is_way_ok h hw (by simpa using hq)
theorem ahead_ok {S : Nat} {ps : List Nat} {o : Nat} (hS : 0 < S) (hS2 : S ≤ 2 ^ 20) (hq : ∀ p q, FrN S (ps.take o).sum p q → Q (fr p q) st) : F (k + 4) 18 [.tup (ps.map (fp S)), .int (o : Nat)] st Q := by
  refine run_step (fd := ⟨2, 4, b18⟩) rfl rfl ?_
  unfold b18
  refine seq_i fun X hX => ?_
  simp [startD]
  refine hX _ _ (seq_i fun X2 hX2 => ?_)
  simp
  rw [cut_to, ← List.map_take]
  refine for_seq (fun i ρ st' => st' = st ∧ ∃ (p q : Nat) (x : Option D), ρ = [some (.tup (ps.map (fp S))), some (.int (o : Nat)), some (fr p q), x] ∧ FrN S ((ps.take o).take i).sum p q) ⟨rfl, 0, 1, none, rfl, by simpa using FrN.zero⟩ (fun i d ρ st' Y hd ⟨e1, p, q, x, e2, h⟩ hY => ?_) (fun ρ st' ⟨e1, p, q, x, e2, h⟩ => ?_)
  · subst e1 e2
    rw [List.getElem?_map] at hd
    obtain ⟨P, hP, rfl⟩ := Option.map_eq_some_iff.mp hd
    refine ⟨_, rfl, ?_⟩
    simp [wps_seq, permN, permL]
    refine plus_ok hS hS2 h (fp_ok hS) fun p' q' h' => ?_
    refine hY _ _ ⟨rfl, p', q', _, rfl, ?_⟩
    rw [take_succ hP, List.sum_append]
    simpa using h'
  · subst e1 e2
    rw [List.length_map, List.take_length] at h
    refine hX2 _ _ ?_
    simp [wps_seq]
    exact hq p q h
end Cb.K51

namespace Cb.K51
open PySem PySem.Spec PyProof.Rows L2
variable {k : Nat} {st : Store} {Q : K1} {r c : Nat}
theorem drawK : DrawK "draws" 61473 2147483629 39373 2147483647 52713 2147483587 40692 2147483563 := ⟨by decide +kernel, by decide +kernel, by decide, by decide, by decide, by decide, by decide, by decide, by decide, by decide⟩
abbrev Dk (st : Store) (r c : Nat) : Prop := Deck "draws" st r c
theorem draw_ok {many : Int} (hD : Dk st r c) (hm : 0 < many) (hm2 : many ≤ 2 ^ 64) (q : ∀ v st', 0 ≤ v → v < many → Dk st' r c → Fr r c st st' → Q (.int v) st') : F (k + 1) 26 [.ref r, .int many] st Q :=
  run_step (fd := ⟨2, 4, b26⟩) rfl rfl (draw_wps drawK hD hm hm2 q)
/-- a number drawn -/
theorem drawN_ok {many : Int} (hD : Dk st r c) (hm : 0 < many) (hm2 : many ≤ 2 ^ 64) (q : ∀ (v : Nat) st', (v : Int) < many → Dk st' r c → Fr r c st st' → Q (.int (v : Int)) st') : F (k + 1) 26 [.ref r, .int many] st Q :=
  draw_ok hD hm hm2 fun v st' v0 v1 d f => by
    obtain ⟨n, rfl⟩ := Int.eq_ofNat_of_zero_le v0
    exact q n st' v1 d f
theorem at_lst {n : Nat} {xs : List D} {i : Nat} {x : D} {P : D → Prop} (h : st[n]? = some (.lst xs)) (hx : xs[i]? = some x) (p : P x) : som (idxS st (.ref n) (.int (i : Int))) P := ⟨x, by simp only [idxS, h]; exact at_get hx, p⟩
theorem pick_ok {n : Nat} {xs : List D} (hD : Dk st r c) (hn : st[n]? = some (.lst xs)) (n1 : n ≠ r) (n2 : n ≠ c) (hl : 0 < xs.length) (hl2 : xs.length ≤ 1000) (q : ∀ x st', x ∈ xs → Dk st' r c → Fr r c st st' → Q x st') : F (k + 2) 27 [.ref r, .ref n] st Q := by
  refine run_step (fd := ⟨2, 2, b27⟩) rfl rfl ?_
  simp [b27, startD, permN, permL, wps_seq]
  rw [bl_lenL hn]
  refine drawN_ok hD (by omega) (by omega) fun v st' hv d f => ?_
  have hlt : v < xs.length := by omega
  exact at_lst (f.keep hn n1 n2) (List.getElem?_eq_getElem hlt) (q _ st' (List.getElem_mem hlt) d f)
theorem Deck.set {kd : Str} {n : Nat} {x : Cell} (h : Deck kd st r c) (n1 : n ≠ r) (n2 : n ≠ c) : Deck kd (st.set n x) r c := by
  obtain ⟨ns, m, d, h0, h1, h2, h3⟩ := h
  exact ⟨ns, m, d, h0, h1, by rw [List.getElem?_set_ne n1]; exact h2, by rw [List.getElem?_set_ne n2]; exact h3⟩
theorem fr_setNew {st0 : Store} {n : Nat} {x : Cell} (f : Fr r c st0 st) (h : st0.length ≤ n) : Fr r c st0 (st.set n x) := ⟨by simp; exact f.1, fun i hi h1 h2 => by rw [List.getElem?_set_ne (by omega)]; exact f.2 i hi h1 h2⟩
def nd (x : Nat) : D := .int (x : Nat)
theorem nd_int (ns : List Nat) : ns.map nd = (ns.map fun x : Nat => (x : Int)).map D.int := by simp [nd, Function.comp_def]
theorem ixN_nat {i n : Nat} (h : i < n) : ixN n (i : Int) = some i := by
  unfold ixN
  rw [if_pos (by omega), if_pos (by omega)]
  simp
theorem map_setN {ps : List Nat} {i v : Nat} : (ps.map nd).set i (nd v) = (ps.set i v).map nd := List.map_set.symm
theorem get_at0 {x y : Cell} : (st ++ [x, y])[st.length]? = some x := by simp
theorem get_at1 {x y : Cell} : (st ++ [x, y])[st.length + 1]? = some y := by
  rw [List.getElem?_append_right (by omega)]
  simp
end Cb.K51

namespace Cb.K51
open PySem PySem.Spec PyProof.Rows L2
variable {k : Nat} {st : Store} {Q : K1} {r c : Nat}
/-- a way, by its end -/
inductive Wt (m : List Stt) (a : Nat) : List Nat → Nat → Prop
  | nil : a < m.length → Wt m a [] a
  | snoc {s o P s' : Nat} {S : Stt} {os : List Nat} : Wt m a os s → m[s]? = some S → S.ps[o]? = some P → 0 < P → S.fs[o]? = some s' → s' < m.length → Wt m a (os ++ [o]) s'
theorem Wt.lt {m : List Stt} {a b : Nat} {os : List Nat} (h : Wt m a os b) : b < m.length := by
  cases h with
  | nil h => exact h
  | snoc _ _ _ _ _ h => exact h
theorem Wt.app {m : List Stt} {a b : Nat} {os : List Nat} (h : Wt m a os b) : ∀ {qs : List Nat}, Wy m b qs → Wy m a (os ++ qs) := by
  induction h with
  | nil h => exact fun g => g
  | snoc _ g1 g2 g3 g4 g5 ih =>
    intro qs g
    rw [List.append_assoc]
    exact ih (.cons g1 g2 g3 g4 g)
theorem Wt.wy {m : List Stt} {a b : Nat} {os : List Nat} (h : Wt m a os b) : Wy m a os := by
  have := h.app (.nil h.lt)
  rwa [List.append_nil] at this
theorem Wy.take {m : List Stt} {a : Nat} {os : List Nat} (h : Wy m a os) : ∀ i, Wy m a (os.take i) := by
  induction h with
  | nil h => intro i; simpa using Wy.nil h
  | cons g1 g2 g3 g4 g5 ih =>
    intro i
    cases i with
    | zero => exact .nil (List.getElem?_eq_some_iff.mp g1).1
    | succ i => exact .cons g1 g2 g3 g4 (ih i)
theorem some_pos : ∀ {ps : List Nat}, 1 ≤ ps.sum → ∃ i P : Nat, ps[i]? = some P ∧ 0 < P
  | [], h => by simp at h
  | p :: ps, h => by
    by_cases hp : p = 0
    · rw [List.sum_cons] at h
      obtain ⟨i, P, h1, h2⟩ := some_pos (ps := ps) (by omega)
      exact ⟨i + 1, P, by simpa using h1, h2⟩
    · exact ⟨0, p, rfl, by omega⟩
/-- the outcomes of positive chance -/
def Pos (ps os : List Nat) : Prop := os ≠ [] ∧ os.length ≤ ps.length ∧ ∀ o ∈ os, ∃ P, ps[o]? = some P ∧ 0 < P
/-- the first i outcomes, those of positive chance -/
structure Pi (ps : List Nat) (i : Nat) (os : List Nat) : Prop where
  l : os.length ≤ i
  p : ∀ o ∈ os, ∃ P, ps[o]? = some P ∧ 0 < P
  a : ∀ o P, o < i → ps[o]? = some P → 0 < P → o ∈ os
theorem Pi.nil {ps : List Nat} : Pi ps 0 [] := ⟨Nat.le_refl _, by simp, fun o P h => by omega⟩
theorem Pi.yes {ps os : List Nat} {i P : Nat} (h : Pi ps i os) (hP : ps[i]? = some P) (h0 : 0 < P) : Pi ps (i + 1) (os ++ [i]) := by
  refine ⟨by have := h.l; simp; omega, fun o ho => ?_, fun o R ho hR hp => ?_⟩
  · rcases List.mem_append.mp ho with ho | ho
    · exact h.p o ho
    · simp at ho
      subst ho
      exact ⟨P, hP, h0⟩
  · by_cases e : o = i
    · subst e
      simp
    · exact List.mem_append_left _ (h.a o R (by omega) hR hp)
theorem Pi.no {ps os : List Nat} {i P : Nat} (h : Pi ps i os) (hP : ps[i]? = some P) (h0 : ¬ 0 < P) : Pi ps (i + 1) os := by
  refine ⟨by have := h.l; omega, h.p, fun o R ho hR hp => ?_⟩
  by_cases e : o = i
  · subst e
    rw [hP] at hR
    cases hR
    exact absurd hp h0
  · exact h.a o R (by omega) hR hp
theorem Pi.pos {ps os : List Nat} (h : Pi ps ps.length os) (hs : 1 ≤ ps.sum) : 0 < os.length := by
  obtain ⟨i, P, h1, h2⟩ := some_pos hs
  exact List.length_pos_of_mem (h.a i P (List.getElem?_eq_some_iff.mp h1).1 h1 h2)
theorem fp_top0 {S P : Nat} (h : ¬ 0 < P) : P / Nat.gcd P S = 0 := by
  have : P = 0 := by omega
  subst this
  exact Nat.zero_div _
theorem Sok.nxt {n many o P : Nat} {s : Stt} (h : Sok n many s) (ho : s.ps[o]? = some P) : ∃ s', s.fs[o]? = some s' ∧ s' < many := by
  have h1 := h.pl
  have h2 := h.fl
  have hlt := (List.getElem?_eq_some_iff.mp ho).1
  exact ⟨s.fs[o]'(by omega), List.getElem?_eq_getElem (by omega), h.f _ (List.getElem_mem _)⟩
end Cb.K51

namespace Cb.K51
open PySem PySem.Spec PyProof.Rows L2
variable {k : Nat} {st : Store} {Q : K1}
/-! ### parts of a whole as rational numbers -/
def U (S : Nat) : Rat := mkRat 1 S
theorem U_mk (a : Int) {S : Nat} (hS : 0 < S) : mkRat a S = (a : Rat) * U S := by
  unfold U
  rw [Rat.mkRat_eq_div, Rat.mkRat_eq_div]
  grind
theorem U_one {S : Nat} (hS : 0 < S) : (S : Rat) * U S = 1 := by
  unfold U
  rw [Rat.mkRat_eq_div]
  have h : (S : Rat) ≠ 0 := by
    intro e
    have : (S : Rat) = ((0 : Nat) : Rat) := e
    have := Rat.natCast_inj.mp this
    omega
  grind
theorem U_pos {S : Nat} (hS : 0 < S) : 0 < U S := by
  have h1 := U_one hS
  refine Classical.byContradiction fun hn => ?_
  have h2 : U S ≤ 0 := by grind
  have h3 : (0 : Rat) ≤ (S : Rat) := Rat.natCast_nonneg
  have h4 := Rat.mul_le_mul_of_nonneg_left h2 h3
  grind
def pA (ps : List Nat) (o : Nat) : Rat := (((ps.take o).sum : Nat) : Rat) * U ps.sum
def pC (ps : List Nat) (P : Nat) : Rat := ((P : Nat) : Rat) * U ps.sum
theorem frn_rat {S P p q : Nat} (hS : 0 < S) (h : FrN S P p q) : fr p q = frR ((P : Rat) * U S) := by
  have e : ((P : Rat) * U S) = mkRat (p : Int) q := by
    have := U_mk (P : Int) hS
    have h2 : ((P : Int) : Rat) = (P : Rat) := rfl
    rw [h2] at this
    rw [← this, Rat.mkRat_eq_iff (by omega) (by have := h.pos; omega)]
    have := h.val
    exact_mod_cast this.symm
  have h3 := frR_mk (p : Int) h.pos
  rw [e, ← h3, Int.natAbs_natCast, h.co]
  simp [fr]
theorem fp_rat {S P : Nat} (hS : 0 < S) : fp S P = frR ((P : Rat) * U S) := frn_rat hS (fp_ok hS)
theorem lowR_ok {a : Int} {b : Nat} (hb : 0 < b) (hb2 : b.log2 < 9000) (q : Q (frR (mkRat a b)) st) : F (k + 2) 7 [.int a, .int (b : Nat)] st Q :=
  run_step (fd := ⟨2, 3, b7⟩) rfl rfl (low_wpsR (f := 4) (fun a b st Q q => divisor_ok q) hb hb2 q)
theorem plusR_ok {x y : Rat} (hx : RB 4000 x) (hy : RB 4000 y) (q : Q (frR (x + y)) st) : F (k + 3) 8 [frR x, frR y] st Q := by
  refine run_step (fd := ⟨2, 2, b8⟩) rfl rfl (plus_wpsR (f := 7) hx hy ?_)
  have := log2_mul x.den y.den
  have := hx.d
  have := hy.d
  rw [add_mk] at q
  exact lowR_ok (Nat.mul_pos (den_pos x) (den_pos y)) (by omega) q
theorem timesR_ok {x y : Rat} (hx : RB 4000 x) (hy : RB 4000 y) (q : Q (frR (x * y)) st) : F (k + 3) 9 [frR x, frR y] st Q := by
  have e1 := il_nat x.den
  have e2 := il_nat y.den
  have := hx.n
  have := hx.d
  have := hy.n
  have := hy.d
  have := log2_mul x.den y.den
  refine run_step (fd := ⟨2, 2, b9⟩) rfl rfl ?_
  simp [b9, startD, wps_seq, permN, permL, frR]
  refine ⟨mul_okB (by omega) (by omega), mul_okB (by omega) (by omega), ?_⟩
  rw [mul_mk] at q
  rw [← Int.natCast_mul]
  exact lowR_ok (Nat.mul_pos (den_pos x) (den_pos y)) (by omega) q
theorem aheadR_ok {ps : List Nat} {o : Nat} (hS : 0 < ps.sum) (hS2 : ps.sum ≤ 2 ^ 20) (q : Q (frR (pA ps o)) st) : F (k + 4) 18 [tabD ps, .int (o : Nat)] st Q :=
  ahead_ok hS hS2 fun p q' h => by
    rw [frn_rat hS h]
    exact q
/-- a stretch: where it begins, how long it is -/
def str (x y : Rat) : D := .tup [frR x, frR y]
theorem within_ok {ps : List Nat} {o P : Nat} {x y : Rat} (hS : 0 < ps.sum ∧ ps.sum ≤ 100) (hP : ps[o]? = some P) (hx : RB 1000 x) (hy : RB 1000 y) (h1 : RB 1000 (pA ps o)) (h2 : RB 1000 (pC ps P)) (h3 : RB 4000 (y * pA ps o)) (q : Q (str (x + y * pA ps o) (y * pC ps P)) st) : F (k + 5) 19 [str x y, tabD ps, .int (o : Nat)] st Q := by
  refine run_step (fd := ⟨3, 5, b19⟩) rfl rfl ?_
  unfold b19
  refine seq_i fun X hX => ?_
  simp [startD, str]
  refine hX _ _ ?_
  simp [wps_seq, permN, permL]
  refine aheadR_ok (k := k) hS.1 (by omega) ?_
  refine timesR_ok (k := k + 1) (hy.mono (by omega)) (h1.mono (by omega)) ?_
  refine plusR_ok (k := k + 1) (hx.mono (by omega)) h3 ?_
  simp [tabD]
  refine ⟨_, at_map hP, ?_⟩
  rw [fp_rat hS.1]
  exact timesR_ok (k := k + 1) (hy.mono (by omega)) (h2.mono (by omega)) q
end Cb.K51

namespace Cb.K51
open PySem PySem.Spec PyProof.Rows L2
variable {k : Nat} {st : Store} {Q : K1}
/-- the stretch of a way -/
inductive Sr (m : List Stt) : Nat → Rat → Rat → List Nat → Rat → Rat → Prop
  | nil {a : Nat} {x y : Rat} : Sr m a x y [] x y
  | cons {a o P b : Nat} {S : Stt} {os : List Nat} {x y x2 y2 : Rat} : m[a]? = some S → S.ps[o]? = some P → S.fs[o]? = some b → Sr m b (x + y * pA S.ps o) (y * pC S.ps P) os x2 y2 → Sr m a x y (o :: os) x2 y2
theorem Sr.fn {m : List Stt} {a : Nat} {os : List Nat} {x y x2 y2 x3 y3 : Rat} (h : Sr m a x y os x2 y2) : Sr m a x y os x3 y3 → x2 = x3 ∧ y2 = y3 := by
  induction h with
  | nil =>
    intro g
    cases g
    exact ⟨rfl, rfl⟩
  | cons a b c _ ih =>
    intro g
    cases g with
    | cons a' b' c' d' =>
      rw [a] at a'
      cases a'
      rw [b] at b'
      cases b'
      rw [c] at c'
      cases c'
      exact ih d'
theorem take_le {ps : List Nat} {o P : Nat} (h : ps[o]? = some P) : (ps.take o).sum + P ≤ ps.sum := by
  have h1 := take_succ h
  have h2 : (ps.take (o + 1)).sum + (ps.drop (o + 1)).sum = ps.sum := by rw [← List.sum_append, List.take_append_drop]
  rw [h1, List.sum_append] at h2
  simp at h2
  omega
theorem U_le {a b S : Nat} (hS : 0 < S) (h : a ≤ b) : (a : Rat) * U S ≤ (b : Rat) * U S :=
  Rat.mul_le_mul_of_nonneg_right (Rat.natCast_le_natCast.mpr h) (by have := U_pos hS; grind)
theorem U_nn {a S : Nat} (hS : 0 < S) : 0 ≤ (a : Rat) * U S := Rat.mul_nonneg Rat.natCast_nonneg (by have := U_pos hS; grind)
theorem U_gr {a S : Nat} (hS : 0 < S) : Grid S ((a : Rat) * U S) := ⟨(a : Int), by rw [U_mk _ hS]; rfl⟩
structure Pt (ps : List Nat) (o P : Nat) : Prop where
  a0 : 0 ≤ pA ps o
  c0 : 0 ≤ pC ps P
  s : pA ps o + pC ps P ≤ 1
  ga : Grid ps.sum (pA ps o)
  gc : Grid ps.sum (pC ps P)
theorem part_ok {ps : List Nat} {o P : Nat} (hS : 0 < ps.sum) (hP : ps[o]? = some P) : Pt ps o P := by
  refine ⟨U_nn hS, U_nn hS, ?_, U_gr hS, U_gr hS⟩
  have h1 := U_le hS (take_le hP)
  have h2 := U_one hS
  unfold pA pC
  rw [Rat.natCast_add] at h1
  grind
theorem pC_pos {ps : List Nat} {P : Nat} (hS : 0 < ps.sum) (hP : 0 < P) : 0 < pC ps P := by
  unfold pC
  refine Rat.mul_pos ?_ (U_pos hS)
  have : ((0 : Nat) : Rat) < (P : Rat) := Rat.natCast_lt_natCast.mpr hP
  exact this
/-- how fine, within 0 and 1 -/
structure Iv (i : Nat) (x y : Rat) : Prop where
  g : ∃ N, 0 < N ∧ N.log2 ≤ 7 * i ∧ Grid N x ∧ Grid N y
  x0 : 0 ≤ x
  y0 : 0 ≤ y
  s : x + y ≤ 1
theorem Iv.one : Iv 0 0 1 := ⟨⟨1, by decide, by decide, .zero, ⟨1, by decide +kernel⟩⟩, by decide +kernel, by decide +kernel, by decide +kernel⟩
theorem log_100 {S : Nat} (h : S ≤ 100) : S.log2 ≤ 6 := by
  have h1 := log2_mono h
  have h2 : (100 : Nat).log2 = 6 := by decide +kernel
  omega
theorem Iv.step {i : Nat} {x y : Rat} {ps : List Nat} {o P : Nat} (h : Iv i x y) (hS : 0 < ps.sum ∧ ps.sum ≤ 100) (hP : ps[o]? = some P) : Iv (i + 1) (x + y * pA ps o) (y * pC ps P) := by
  obtain ⟨⟨N, n1, n2, g1, g2⟩, x0, y0, s⟩ := h
  have p := part_ok hS.1 hP
  have hl := log2_mul N ps.sum
  have h6 := log_100 hS.2
  have m1 := Rat.mul_nonneg y0 p.a0
  have m2 := Rat.mul_nonneg y0 p.c0
  have m3 := Rat.mul_le_mul_of_nonneg_left p.s y0
  refine ⟨⟨N * ps.sum, Nat.mul_pos n1 hS.1, by omega, (g1.up n1 hS.1).add (Nat.mul_pos n1 hS.1) (g2.mul n1 hS.1 p.ga), g2.mul n1 hS.1 p.gc⟩, by grind, m2, by grind⟩
theorem Iv.rx {i : Nat} {x y : Rat} (h : Iv i x y) (hi : i ≤ 100) : RB 1000 x := by
  obtain ⟨⟨N, n1, n2, g1, g2⟩, x0, y0, s⟩ := h
  exact RB.grid n1 x0 (by grind) g1 (by omega)
theorem Iv.ry {i : Nat} {x y : Rat} (h : Iv i x y) (hi : i ≤ 100) : RB 1000 y := by
  obtain ⟨⟨N, n1, n2, g1, g2⟩, x0, y0, s⟩ := h
  exact RB.grid n1 y0 (by grind) g2 (by omega)
theorem Iv.rm {i : Nat} {x y : Rat} {ps : List Nat} {o P : Nat} (h : Iv i x y) (hi : i ≤ 100) (hS : 0 < ps.sum ∧ ps.sum ≤ 100) (hP : ps[o]? = some P) : RB 1000 (pA ps o) ∧ RB 1000 (pC ps P) ∧ RB 4000 (y * pA ps o) := by
  obtain ⟨⟨N, n1, n2, g1, g2⟩, x0, y0, s⟩ := h
  have p := part_ok hS.1 hP
  have a0 := p.a0
  have c0 := p.c0
  have ps1 := p.s
  have hl := log2_mul N ps.sum
  have h6 := log_100 hS.2
  have m1 := Rat.mul_nonneg y0 p.a0
  have m3 := Rat.mul_le_mul_of_nonneg_left p.s y0
  have m2 := Rat.mul_nonneg y0 p.c0
  exact ⟨RB.grid hS.1 p.a0 (by grind) p.ga (by omega), RB.grid hS.1 p.c0 (by grind) p.gc (by omega), RB.grid (Nat.mul_pos n1 hS.1) m1 (by grind) (g2.mul n1 hS.1 p.ga) (by omega)⟩
theorem Sr.iv {m : List Stt} {n i a : Nat} {os : List Nat} {x y x2 y2 : Rat} (hm : Mok n m) (h : Sr m a x y os x2 y2) : Iv i x y → Iv (i + os.length) x2 y2 := by
  induction h generalizing i with
  | nil => exact fun h => h
  | cons h1 h2 h3 _ ih =>
    intro hi
    have hS := hm.st _ (List.mem_of_getElem? h1)
    have := ih (hi.step (by have := hS.s; omega) h2)
    simpa [Nat.add_assoc, Nat.add_comm 1] using this
theorem raw_stretch_ok {n : Nat} {m : List Stt} (hm : Mok n m) {way : List Nat} (hy : Wy m 0 way) (hl : way.length ≤ 60)
    (hq : ∀ x y, Sr m 0 0 1 way x y → Q (str x y) st) : F (k + 6) 20 [modD m, rowD way] st Q := by
  refine run_step (fd := ⟨2, 5, b20⟩) rfl rfl ?_
  unfold b20
  refine seq_i fun X hX => ?_
  simp [startD]
  refine hX _ _ (seq_i fun X2 hX2 => ?_)
  clear hX X
  simp [rowD, ti]
  have e01 : D.tup [D.tup [D.int 0, D.int 1], D.tup [D.int 1, D.int 1]] = str 0 1 := by simp [str, frR]
  rw [e01]
  refine for_seq (fun i ρ st' => st' = st ∧ ∃ (cur : Nat) (x y : Rat) (x4 : Option D), ρ = [some (modD m), some (rowD way), some (.int (cur : Nat)), some (str x y), x4] ∧ Iv i x y ∧ Wy m cur (way.drop i) ∧ ∀ x2 y2, Sr m cur x y (way.drop i) x2 y2 → Sr m 0 0 1 way x2 y2) ⟨rfl, 0, 0, 1, none, by simp [rowD, ti], Iv.one, hy, fun x2 y2 h => h⟩ (fun i d ρ st' Y hd ⟨e1, cur, x, y, x4, e2, hiv, hwy, hg⟩ hY => ?_) (fun ρ st' ⟨e1, cur, x, y, x4, e2, hiv, hwy, hg⟩ => ?_)
  · subst e1 e2
    rw [List.getElem?_map] at hd
    obtain ⟨o, ho, rfl⟩ := Option.map_eq_some_iff.mp hd
    have hi := (List.getElem?_eq_some_iff.mp ho).1
    rw [drop_cons ho] at hwy hg
    cases hwy with
    | @cons _ _ P s' S _ g1 g2 g3 g4 g5 =>
      have hS := hm.st S (List.mem_of_getElem? g1)
      have hS2 : 0 < S.ps.sum ∧ S.ps.sum ≤ 100 := by have := hS.s; omega
      obtain ⟨b1, b2, b3⟩ := hiv.rm (by omega) hS2 g2
      refine ⟨_, rfl, seq_i fun X3 hX3 => ?_⟩
      simp [permN, permL, modD]
      refine ⟨_, at_map g1, ?_⟩
      simp [stD]
      refine within_ok (k := k) hS2 g2 (hiv.rx (by omega)) (hiv.ry (by omega)) b1 b2 b3 ?_
      refine hX3 _ _ ?_
      simp [wps_seq, modD]
      refine ⟨_, at_map g1, ?_⟩
      simp [stD, rowD, ti]
      refine ⟨_, at_row g4, hY _ _ ⟨rfl, s', x + y * pA S.ps o, y * pC S.ps P, some (.int (o : Nat)), by simp [modD, rowD, ti], hiv.step hS2 g2, g5, fun x2 y2 h => hg x2 y2 (.cons g1 g2 g4 h)⟩⟩
  · subst e1 e2
    have e : (List.map (D.int ∘ fun i : Nat => (i : Int)) way).length = way.length := by simp
    rw [e, List.drop_length] at hg
    refine hX2 _ _ ?_
    simp [wps_seq]
    exact hq x y (hg _ _ .nil)
theorem stretch_ok {n : Nat} {m : List Stt} (hm : Mok n m) {way : List Nat} (hy : Wy m 0 way) (hl : way.length ≤ 60)
    (hq : ∀ x y more, Sr m 0 0 1 way x y → Q (str x y) (st ++ more)) : F (k + 9) 23 [modD m, rowD way] st Q := by
  refine run_step (fd := ⟨2, 2, b23⟩) rfl rfl ?_
  unfold b23
  refine seq_i fun X hX => ?_
  simp [startD, permN, permL]
  refine need_model_ok (k := k) hm fun l1 => hX _ _ (seq_i fun X2 hX2 => ?_)
  simp [permN, permL]
  refine need_way_ok (k := k + 4) hm hy (hX2 _ _ ?_)
  simp [wps_seq, permN, permL]
  exact raw_stretch_ok (k := k + 2) hm hy hl fun x y h => hq x y l1 h
end Cb.K51

namespace Cb.K51
open PySem PySem.Spec PyProof.Rows L2
variable {k : Nat} {st : Store} {Q : K1}
theorem common_ok {a b : Int} (q : Q (.int (Nat.gcd a.natAbs b.natAbs : Nat)) st) : F (k + 1) 29 [.int a, .int b] st Q := by
  refine run_step (fd := ⟨2, 2, b29⟩) rfl rfl ?_
  unfold b29
  refine seq_i fun X hX => ?_
  simp [startD]
  rw [abs_nat, abs_nat]
  refine hX _ _ (seq_i fun X2 hX2 => ?_)
  simp only [wps_whil]
  refine while_inv (fun m ρ st' => st' = st ∧ ∃ x y : Nat, ρ = [some (.int (x : Nat)), some (.int (y : Nat))] ∧ Nat.gcd x y = Nat.gcd a.natAbs b.natAbs ∧ m = y) (fun m ρ st' Y ⟨e1, x, y, e2, h1, h2⟩ hY => ?_) (m := b.natAbs) ⟨rfl, a.natAbs, b.natAbs, rfl, rfl, rfl⟩
  subst e1 e2 h2
  simp
  refine Br.dec (fun hy => ?_) (fun hy => ?_)
  · simp [wps_seq]
    refine ⟨by omega, hY (x % m) _ _ (Nat.mod_lt _ (by omega)) ⟨rfl, m, x % m, by simp, ?_, rfl⟩⟩
    rw [← h1, Nat.gcd_comm x m, Nat.gcd_rec m x, Nat.gcd_comm]
  · have : m = 0 := by omega
    subst this
    rw [Nat.gcd_zero_right] at h1
    refine hX2 _ _ ?_
    simp [wps_seq, h1]
    exact q
theorem lfraction_ok {a : Int} {b : Nat} (hb : 0 < b) (hb2 : b.log2 < 9000) (q : Q (frR (mkRat a b)) st) : F (k + 2) 30 [.int a, .int (b : Nat)] st Q := by
  have hg : 0 < Nat.gcd a.natAbs b := Nat.gcd_pos_of_pos_right _ hb
  have hg2 : Nat.gcd a.natAbs b ≤ b := Nat.gcd_le_right _ hb
  have hg3 : il ((Nat.gcd a.natAbs b : Nat) : Int) < 9000 := by
    rw [il_nat]
    exact Nat.lt_of_le_of_lt (log2_mono hg2) hb2
  rw [← frR_mk a hb] at q
  refine run_step (fd := ⟨2, 3, b30⟩) rfl rfl ?_
  unfold b30
  refine seq_i fun X hX => ite_i fun A B hA hB => ?_
  simp [startD]
  refine Br.gf (decide_eq_false (by omega)) (hB _ (hX _ _ (seq_i fun X2 hX2 => ?_)))
  simp [startD, permN, permL]
  refine common_ok (hX2 _ _ ?_)
  rw [Int.natAbs_natCast]
  simp [wps_seq]
  exact ⟨div_okB (by omega) hg3, div_okB (by omega) hg3, q⟩
theorem lplus_ok {x y : Rat} (hx : RB 4000 x) (hy : RB 4000 y) (q : Q (frR (x + y)) st) : F (k + 3) 31 [frR x, frR y] st Q := by
  have e1 := il_nat x.den
  have e2 := il_nat y.den
  have := hx.n
  have := hx.d
  have := hy.n
  have := hy.d
  have := log2_mul x.den y.den
  refine run_step (fd := ⟨2, 2, b31⟩) rfl rfl ?_
  simp [b31, startD, wps_seq, permN, permL, frR]
  refine ⟨mul_okB (by omega) (by omega), mul_okB (by omega) (by omega), mul_okB (by omega) (by omega), ?_⟩
  rw [add_mk] at q
  rw [← Int.natCast_mul]
  exact lfraction_ok (Nat.mul_pos (den_pos x) (den_pos y)) (by omega) q
theorem ltimes_ok {x y : Rat} (hx : RB 4000 x) (hy : RB 4000 y) (q : Q (frR (x * y)) st) : F (k + 3) 32 [frR x, frR y] st Q := by
  have e1 := il_nat x.den
  have e2 := il_nat y.den
  have := hx.n
  have := hx.d
  have := hy.n
  have := hy.d
  have := log2_mul x.den y.den
  refine run_step (fd := ⟨2, 2, b32⟩) rfl rfl ?_
  simp [b32, startD, wps_seq, permN, permL, frR]
  refine ⟨mul_okB (by omega) (by omega), mul_okB (by omega) (by omega), ?_⟩
  rw [mul_mk] at q
  rw [← Int.natCast_mul]
  exact lfraction_ok (Nat.mul_pos (den_pos x) (den_pos y)) (by omega) q
theorem less_ok {x y : Rat} (hx : RB 4000 x) (hy : RB 4000 y) (q : Q (.bl (decide (x < y))) st) : F (k + 1) 34 [frR x, frR y] st Q := by
  have e1 := il_nat x.den
  have e2 := il_nat y.den
  have := hx.n
  have := hx.d
  have := hy.n
  have := hy.d
  refine run_step (fd := ⟨2, 2, b34⟩) rfl rfl ?_
  simp [b34, startD, wps_seq, frR]
  refine ⟨mul_okB (by omega) (by omega), mul_okB (by omega) (by omega), ?_⟩
  have e : decide (x.num * (y.den : Int) < y.num * (x.den : Int)) = decide (x < y) := by
    have := Rat.lt_iff x y
    by_cases h : x < y
    · rw [decide_eq_true h, decide_eq_true (this.mp h)]
    · rw [decide_eq_false h, decide_eq_false fun z => h (this.mpr z)]
  rw [e]
  exact q
/-- sums of such as are not below 0 -/
theorem sum_nn : ∀ {xs : List Rat}, (∀ x ∈ xs, 0 ≤ x) → 0 ≤ xs.sum
  | [], _ => by simp
  | x :: xs, h => by
    have h1 := h x List.mem_cons_self
    have h2 := sum_nn (xs := xs) fun y hy => h y (List.mem_cons_of_mem _ hy)
    rw [List.sum_cons]
    grind
theorem sum_take {xs : List Rat} (h : ∀ x ∈ xs, 0 ≤ x) (i : Nat) : 0 ≤ (xs.take i).sum ∧ (xs.take i).sum ≤ xs.sum := by
  have h1 := sum_nn (xs := xs.take i) fun x hx => h x (List.mem_of_mem_take hx)
  have h2 := sum_nn (xs := xs.drop i) fun x hx => h x (List.mem_of_mem_drop hx)
  have h3 : (xs.take i).sum + (xs.drop i).sum = xs.sum := by rw [← List.sum_append, List.take_append_drop]
  exact ⟨h1, by grind⟩
theorem sum_grid {N : Nat} (hN : 0 < N) : ∀ {xs : List Rat}, (∀ x ∈ xs, Grid N x) → Grid N xs.sum
  | [], _ => .zero
  | x :: xs, h => by
    rw [List.sum_cons]
    exact (h x List.mem_cons_self).add hN (sum_grid hN fun y hy => h y (List.mem_cons_of_mem _ hy))
structure Sums (N : Nat) (xs : List Rat) : Prop where
  n : 0 < N
  l : N.log2 < 3000
  g : ∀ x ∈ xs, Grid N x
  p : ∀ x ∈ xs, 0 ≤ x
  s : xs.sum ≤ 1
theorem Sums.rt {N : Nat} {xs : List Rat} (h : Sums N xs) (i : Nat) : RB 4000 (xs.take i).sum := by
  have h1 := sum_take h.p i
  have h2 := h.s
  exact (RB.grid h.n h1.1 (by grind) (sum_grid h.n fun x hx => h.g x (List.mem_of_mem_take hx)) h.l).mono (by omega)
theorem Sums.re {N : Nat} {xs : List Rat} (h : Sums N xs) {i : Nat} {x : Rat} (hx : xs[i]? = some x) : RB 4000 x := by
  have hm := List.mem_of_getElem? hx
  have h1 := sum_take h.p i
  have h2 := sum_take h.p (i + 1)
  rw [take_succ hx, List.sum_append] at h2
  have h3 := h.s
  have h4 := h.p x hm
  simp at h2
  exact (RB.grid h.n h4 (by grind) (h.g x hm) h.l).mono (by omega)
theorem frR_zero : D.tup [.int 0, .int 1] = frR 0 := by simp [frR]
theorem total_tup_ok {N : Nat} {xs : List Rat} (h : Sums N xs) (q : Q (frR xs.sum) st) : F (k + 4) 33 [.tup (xs.map frR)] st Q := by
  refine run_step (fd := ⟨1, 3, b33⟩) rfl rfl ?_
  unfold b33
  refine seq_i fun X hX => ?_
  simp [startD]
  refine hX _ _ (seq_i fun X2 hX2 => ?_)
  simp
  rw [frR_zero]
  refine for_seq (fun i ρ st' => st' = st ∧ ∃ (x2 : Option D), ρ = [some (.tup (xs.map frR)), some (frR (xs.take i).sum), x2]) ⟨rfl, none, by simp⟩ (fun i d ρ st' Y hd ⟨e1, x2, e2⟩ hY => ?_) (fun ρ st' ⟨e1, x2, e2⟩ => ?_)
  · subst e1 e2
    rw [List.getElem?_map] at hd
    obtain ⟨x, hx, rfl⟩ := Option.map_eq_some_iff.mp hd
    refine ⟨_, rfl, ?_⟩
    simp [wps_seq, permN, permL]
    refine lplus_ok (h.rt i) (h.re hx) (hY _ _ ⟨rfl, some (frR x), ?_⟩)
    rw [take_succ hx, List.sum_append]
    simp [Rat.add_zero]
  · subst e1 e2
    rw [List.length_map, List.take_length]
    refine hX2 _ _ ?_
    simp [wps_seq]
    exact q
theorem total_lst_ok {N n : Nat} {xs : List Rat} (h : Sums N xs) (hn : st[n]? = some (.lst (xs.map frR))) (q : Q (frR xs.sum) st) : F (k + 4) 33 [.ref n] st Q := by
  refine run_step (fd := ⟨1, 3, b33⟩) rfl rfl ?_
  unfold b33
  refine seq_i fun X hX => ?_
  simp [startD]
  refine hX _ _ (seq_i fun X2 hX2 => ?_)
  simp [srcOf, hn]
  rw [frR_zero]
  refine for_live (n := n) (xs := xs.map frR) (fun i ρ st' => st' = st ∧ ∃ (x2 : Option D), ρ = [some (.ref n), some (frR (xs.take i).sum), x2]) ⟨rfl, none, by simp⟩ (fun i ρ st' ⟨e1, _⟩ => by subst e1; simp only [Src.at, hn]) (fun i d ρ st' Y hd ⟨e1, x2, e2⟩ hY => ?_) (fun ρ st' ⟨e1, x2, e2⟩ => ?_)
  · subst e1 e2
    rw [List.getElem?_map] at hd
    obtain ⟨x, hx, rfl⟩ := Option.map_eq_some_iff.mp hd
    refine ⟨_, rfl, ?_⟩
    simp [wps_seq, permN, permL]
    refine lplus_ok (h.rt i) (h.re hx) (hY _ _ ⟨rfl, some (frR x), ?_⟩)
    rw [take_succ hx, List.sum_append]
    simp [Rat.add_zero]
  · subst e1 e2
    rw [List.length_map, List.take_length]
    refine hX2 _ _ ?_
    simp [wps_seq]
    exact q
end Cb.K51

namespace Cb.K51
open PySem PySem.Spec PyProof.Rows L2
variable {k : Nat} {st : Store} {Q : K1} {r c : Nat}
theorem ixN_last {n : Nat} (h : 0 < n) : ixN n (-1) = some (n - 1) := by
  unfold ixN
  rw [if_neg (by omega), if_pos (by omega)]
  congr 1
  omega
theorem listS_lst {n : Nat} {xs : List D} (h : st[n]? = some (.lst xs)) : listS st (.ref n) = some xs := by simp only [listS, h]
def btm : List D := [.int 2, .int 3, .int 4, .int 5, .int 6, .int 7, .int 8, .int 10, .int 16, .int 60, .int 100, .int 97]
theorem btm_ok {x : D} (h : x ∈ btm) : ∃ b : Nat, x = .int (b : Nat) ∧ 2 ≤ b ∧ b ≤ 100 := by
  simp [btm] at h
  rcases h with rfl | rfl | rfl | rfl | rfl | rfl | rfl | rfl | rfl | rfl | rfl | rfl
  · exact ⟨2, rfl, by omega, by omega⟩
  · exact ⟨3, rfl, by omega, by omega⟩
  · exact ⟨4, rfl, by omega, by omega⟩
  · exact ⟨5, rfl, by omega, by omega⟩
  · exact ⟨6, rfl, by omega, by omega⟩
  · exact ⟨7, rfl, by omega, by omega⟩
  · exact ⟨8, rfl, by omega, by omega⟩
  · exact ⟨10, rfl, by omega, by omega⟩
  · exact ⟨16, rfl, by omega, by omega⟩
  · exact ⟨60, rfl, by omega, by omega⟩
  · exact ⟨100, rfl, by omega, by omega⟩
  · exact ⟨97, rfl, by omega, by omega⟩
structure Pl (st0 st : Store) (r c pn : Nat) (ps : List Nat) : Prop where
  d : Dk st r c
  f : Fr r c st0 st
  h : st[pn]? = some (.lst (ps.map nd))
  g : st0.length ≤ pn
theorem Pl.fr {st0 st' : Store} {pn : Nat} {ps : List Nat} (hr : r < st0.length ∧ c < st0.length) (h : Pl st0 st r c pn ps) (d : Dk st' r c) (f : Fr r c st st') : Pl st0 st' r c pn ps := by
  have := h.g
  exact ⟨d, h.f.trans f, f.keep h.h (by omega) (by omega), h.g⟩
theorem Pl.set {st0 : Store} {pn : Nat} {ps qs : List Nat} (hr : r < st0.length ∧ c < st0.length) (h : Pl st0 st r c pn ps) : Pl st0 (st.set pn (.lst (qs.map nd))) r c pn qs := by
  have := h.g
  exact ⟨Deck.set h.d (by omega) (by omega), fr_setNew h.f h.g, get_set h.h, h.g⟩
theorem at_last {ps : List Nat} {x : Nat} : atI ((ps ++ [x]).map nd) (-1) = some (nd x) := by
  unfold atI
  rw [ixN_last (by simp)]
  simp
theorem table_ok {n bn : Nat} (hD : Dk st r c) (hn : 1 ≤ n ∧ n ≤ 8) (hb : st[bn]? = some (.lst btm)) (b1 : bn ≠ r) (b2 : bn ≠ c) (q : ∀ ps st', ps.length = n → (1 ≤ ps.sum ∧ ps.sum ≤ 100) → Dk st' r c → Fr r c st st' → Q (tabD ps) st') : F (k + 3) 35 [.ref r, .int (n : Nat), .ref bn] st Q := by
  have hr := hD.lt
  refine run_step (fd := ⟨3, 8, b35⟩) rfl rfl ?_
  unfold b35
  refine seq_i fun X hX => ?_
  simp [startD, permN, permL]
  refine pick_ok (k := k) hD hb b1 b2 (by simp [btm]) (by simp [btm]) fun x st1 hx d1 f1 => ?_
  obtain ⟨bo, rfl, hbo1, hbo2⟩ := btm_ok hx
  refine hX _ _ (seq_i fun X2 hX2 => ?_)
  clear hX X
  simp
  refine hX2 _ _ (seq_i fun X3 hX3 => ?_)
  clear hX2 X2
  have S0 : Pl st (st1 ++ [Cell.lst []]) r c st1.length [] := ⟨d1.app _, f1.app _, by simp, f1.1⟩
  generalize st1.length = pn at S0 ⊢
  generalize st1 ++ [Cell.lst []] = st2 at S0 ⊢
  clear d1 f1 st1
  have en : (n : Int) - 1 = ((n - 1 : Nat) : Int) := by omega
  simp
  rw [if_pos (small62_of (by omega))]
  simp
  refine for_rng (fun i ρ st' => ∃ (ps : List Nat) (left : Nat) (x6 x7 : Option D), ρ = [some (.ref r), some (.int (n : Nat)), some (.ref bn), some (.int (bo : Nat)), some (.ref pn), some (.int (left : Nat)), x6, x7] ∧ ps.length = i ∧ ps.sum + left = bo ∧ Pl st st' r c pn ps) ⟨[], bo, none, none, rfl, rfl, by simp, S0⟩ (fun i ρ st3 Y hi ⟨ps, left, x6, x7, e1, h1, h2, S⟩ hY => ?_) (fun ρ st3 ⟨ps, left, x6, x7, e1, h1, h2, S⟩ => ?_)
  · subst e1
    clear S0
    refine ⟨_, rfl, seq_i fun X4 hX4 => ?_⟩
    -- the part drawn
    have fin : ∀ (v : Nat) st5, v ≤ left → Pl st st5 r c pn ps → mthS .append (.ref pn) [.int (v : Nat)] st5 fun x st1 => X4 [some (.ref r), some (.int (n : Nat)), some (.ref bn), some (.int (bo : Nat)), some (.ref pn), some (.int (left : Nat)), some (.int (i : Nat)), x7] st1 := fun v st5 hv S5 => by
      refine ⟨pn, _, _, rfl, rfl, S5.h, by first | omega | (simp; omega) | (rw [sizeLine_eq]; simp; omega), ?_⟩
      have S6 := S5.set (qs := ps ++ [v]) hr
      have e : ps.map nd ++ [.int (v : Nat)] = (ps ++ [v]).map nd := by simp [nd]
      rw [e]
      refine hX4 _ _ ?_
      generalize st5.set pn (.lst ((ps ++ [v]).map nd)) = st6 at S6 ⊢
      simp [wps_seq]
      refine ⟨nd v, by simp only [idxS, S6.h]; exact at_last, ?_⟩
      have e2 : (left : Int) - (v : Int) = ((left - v : Nat) : Int) := by omega
      simp [nd]
      rw [e2]
      exact hY _ _ ⟨ps ++ [v], left - v, _, _, rfl, by simp [h1], by simp; omega, S6⟩
    simp [permN, permL]
    refine ⟨_, listS_lst S.h, ?_⟩
    refine drawN_ok (k := k + 1) (many := 3) S.d (by omega) (by omega) fun v st4 hv d4 f4 => ?_
    have S4 := S.fr hr d4 f4
    simp
    refine Br.dec (fun _ => ?_) (fun _ => ?_)
    · refine drawN_ok (k := k + 1) S4.d (by omega) (by omega) fun v st5 hv d5 f5 => ?_
      exact fin v st5 (by omega) (S4.fr hr d5 f5)
    · have hdn : 0 ≤ 2 * (bo : Int) / (n : Int) ∧ 2 * (bo : Int) / (n : Int) ≤ 2 * bo := ⟨Int.ediv_nonneg (by omega) (by omega), Int.ediv_le_self _ (by omega)⟩
      refine ⟨mul_okL (by omega), div_ok (by omega) (by omega), ?_⟩
      refine drawN_ok (k := k + 1) S4.d (by omega) (by omega) fun v st5 hv d5 f5 => ?_
      simp
      by_cases hlt : v < left
      · rw [if_pos hlt]
        exact fin v st5 (by omega) (S4.fr hr d5 f5)
      · rw [if_neg hlt]
        exact fin left st5 (by omega) (S4.fr hr d5 f5)
  · subst e1
    refine hX3 _ _ (seq_i fun X4 hX4 => ?_)
    clear hX3 X3 S0
    simp
    refine ⟨_, listS_lst S.h, pn, _, _, rfl, rfl, S.h, by first | omega | (simp; omega) | (rw [sizeLine_eq]; simp; omega), ?_⟩
    have S2 := S.set (qs := ps ++ [left]) hr
    have e : ps.map nd ++ [.int (left : Nat)] = (ps ++ [left]).map nd := by simp [nd]
    rw [e]
    generalize st3.set pn (.lst ((ps ++ [left]).map nd)) = st4 at S2 ⊢
    have hsum : (ps ++ [left]).sum = bo := by simp; omega
    have hlen : (ps ++ [left]).length = n := by simp; omega
    have hlast : atI ((ps ++ [left]).map nd) (-1) = some (nd left) := at_last
    have hlast2 : (ps ++ [left])[n - 1]? = some left := by
      rw [List.getElem?_append_right (by omega)]
      have : n - 1 - ps.length = 0 := by omega
      rw [this]
      rfl
    generalize ps ++ [left] = qs at S2 hsum hlen hlast hlast2 ⊢
    clear S e h1 h2
    refine hX4 _ _ (seq_i fun X5 hX5 => ?_)
    clear hX4 X4
    simp [permN, permL]
    refine drawN_ok (k := k + 1) S2.d (by omega) (by omega) fun v st5 hv d5 f5 => ?_
    have S5 := S2.fr hr d5 f5
    clear S2 d5 f5
    refine hX5 _ _ (seq_i fun X6 hX6 => ?_)
    clear hX5 X5
    have hv' : v < qs.length := by omega
    have hat : qs[v]? = some qs[v] := List.getElem?_eq_getElem hv'
    have hn1 : n - 1 < qs.length := by omega
    have hl2 : qs[n - 1] = left := by
      have := List.getElem?_eq_getElem hn1
      rw [hlast2] at this
      exact (Option.some.inj this).symm
    simp
    refine ⟨nd left, by simp only [idxS, S5.h]; exact hlast, nd qs[v], by simp only [idxS, S5.h]; exact at_map hat, ?_⟩
    refine ⟨_, _, ⟨rfl, rfl⟩, ?_⟩
    refine ⟨pn, rfl, .inl ⟨_, (v : Int), v, S5.h, rfl, by rw [List.length_map]; exact ixN_nat hv', ?_⟩⟩
    rw [map_setN]
    have S6 := S5.set (qs := qs.set v left) hr
    generalize st5.set pn (.lst ((qs.set v left).map nd)) = st6 at S6 ⊢
    refine ⟨pn, rfl, .inl ⟨_, -1, n - 1, S6.h, rfl, by rw [List.length_map, List.length_set, hlen]; exact ixN_last (by omega), ?_⟩⟩
    rw [map_setN]
    have S7 := S6.set (qs := (qs.set v left).set (n - 1) qs[v]) hr
    generalize st6.set pn (.lst (((qs.set v left).set (n - 1) qs[v]).map nd)) = st7 at S7 ⊢
    have hperm := List.set_set_perm hv' hn1
    rw [hl2] at hperm
    have hs2 : ((qs.set v left).set (n - 1) qs[v]).sum = bo := by rw [hperm.sum_nat]; exact hsum
    have hl3 : ((qs.set v left).set (n - 1) qs[v]).length = n := by simp [hlen]
    generalize (qs.set v left).set (n - 1) qs[v] = ws at S7 hs2 hl3 ⊢
    clear S5 S6 hperm hl2 hat hv' hlast hlast2 hn1 hsum hlen
    refine hX6 _ _ ?_
    simp [wps_seq, srcOf, S7.h]
    refine lc_live (n := pn) (xs := ws.map nd) (fun i acc st8 => st8 = st7 ∧ acc = (ws.take i).map (fp ws.sum)) ⟨rfl, by simp⟩ (fun i acc st8 ⟨e1, _⟩ => by subst e1; simp only [Src.at, S7.h]) (fun i d acc st8 Z hd ⟨e1, e2⟩ hZ => ?_) (fun acc st8 ⟨e1, e2⟩ => ?_)
    · rw [List.getElem?_map] at hd
      obtain ⟨P, hP, rfl⟩ := Option.map_eq_some_iff.mp hd
      have hi := (List.getElem?_eq_some_iff.mp hP).1
      subst e1 e2
      refine ⟨_, rfl, ?_⟩
      simp [wipeD, permN, permL, nd]
      have hlog := log2_mono hbo2
      have h100 : (100 : Nat).log2 = 6 := by decide +kernel
      refine lfraction_ok (k := k) (by omega) (by omega) ?_
      refine ⟨by first | omega | (rw [sizeLine_eq]; simp; omega), hZ _ _ ⟨rfl, ?_⟩⟩
      rw [take_succ hP]
      have e3 : frR (mkRat (P : Int) bo) = fp ws.sum P := by
        rw [fp_rat (by omega), hs2, U_mk _ (by omega)]
        rfl
      rw [e3]
      simp
    · subst e1 e2
      rw [List.length_map, List.take_length]
      rw [bl_tupL get_last]
      exact q ws _ hl3 (by omega) (S7.d.app _) (S7.f.app _)
end Cb.K51

namespace Cb.K51
open PySem PySem.Spec PyProof.Rows L2
variable {k : Nat} {st : Store} {Q : K1} {r c : Nat}
def Bits (bs : List Int) : Prop := ∀ b ∈ bs, b = 0 ∨ b = 1
theorem bl_tupB {n : Nat} {bs : List Int} (h : st[n]? = some (.lst (bs.map D.int))) (q : Q (ti bs) st) : bltS .tuple [.ref n] st Q := by
  rw [bl_tupL h]
  exact q
theorem bits_ok {many : Nat} (hD : Dk st r c) (hm : many ≤ 1000) (q : ∀ bs st', Bits bs → bs.length = many → Dk st' r c → Q (ti bs) st') : F (k + 2) 36 [.ref r, .int (many : Nat)] st Q := by
  refine run_step (fd := ⟨2, 3, b36⟩) rfl rfl ?_
  simp [b36, startD, wps_seq]
  rw [if_pos (small62_of (by omega))]
  simp
  refine lc_rng (fun i acc st' => ∃ bs : List Int, acc = bs.map D.int ∧ bs.length = i ∧ Bits bs ∧ Dk st' r c) ⟨[], rfl, rfl, by simp [Bits], hD⟩ (fun i acc st' Z hi ⟨bs, e1, h1, h2, d3⟩ hZ => ?_) (fun acc st' ⟨bs, e1, h1, h2, d3⟩ => ?_)
  · subst e1
    refine ⟨_, rfl, ?_⟩
    simp [wipeD, permN, permL]
    refine drawN_ok (k := k) (many := 2) d3 (by omega) (by omega) fun b st3 hb d4 f4 => ?_
    refine ⟨by omega, hZ _ _ ⟨bs ++ [(b : Int)], by simp, by simp [h1], fun x hx => ?_, d4⟩⟩
    rcases List.mem_append.mp hx with hx | hx
    · exact h2 x hx
    · simp at hx
      omega
  · subst e1
    exact bl_tupB get_last (q bs _ h2 h1 (d3.app _))
theorem model_ok {bn : Nat} (hD : Dk st r c) (hb : st[bn]? = some (.lst btm)) (b1 : bn ≠ r) (b2 : bn ≠ c) (q : ∀ n m st', Mok n m → n ≤ 5 → Dk st' r c → Q (modD m) st') : F (k + 4) 38 [.ref r, .int 6, .ref bn] st Q := by
  have hr := hD.lt
  refine run_step (fd := ⟨3, 9, b38⟩) rfl rfl ?_
  unfold b38
  refine seq_i fun X hX => ?_
  simp [startD, permN, permL]
  refine drawN_ok (k := k + 2) (many := 6) hD (by omega) (by omega) fun m0 st1 hm0 d1 f1 => ?_
  have hb1 := f1.keep hb b1 b2
  have lt1 := d1.lt
  simp
  refine pick_ok (k := k + 1) (xs := [.int 2, .int 3, .int 2, .int 4, .int 5, .int 1]) (d1.app _) get_last (by omega) (by omega) (by simp) (by simp) fun x st2 hx d2 f2 => ?_
  have hb2 := f2.keep (get_app hb1 _) b1 b2
  obtain ⟨n, rfl, hn⟩ : ∃ n : Nat, x = .int (n : Nat) ∧ (1 ≤ n ∧ n ≤ 5) := by
    simp at hx
    rcases hx with rfl | rfl | rfl | rfl | rfl | rfl
    · exact ⟨2, rfl, by omega⟩
    · exact ⟨3, rfl, by omega⟩
    · exact ⟨2, rfl, by omega⟩
    · exact ⟨4, rfl, by omega⟩
    · exact ⟨5, rfl, by omega⟩
    · exact ⟨1, rfl, by omega⟩
  have em : (1 : Int) + (m0 : Nat) = ((1 + m0 : Nat) : Int) := by push_cast; rfl
  rw [em]
  have hmm : 1 ≤ 1 + m0 ∧ 1 + m0 ≤ 6 := by omega
  generalize 1 + m0 = many at hmm ⊢
  refine hX _ _ (seq_i fun X2 hX2 => ?_)
  clear hX X f1 f2 d1 lt1 hb1 em hx
  simp
  refine hX2 _ _ (seq_i fun X3 hX3 => ?_)
  clear hX2 X2
  have hr2 := d2.lt
  have hbl := (List.getElem?_eq_some_iff.mp hb2).1
  have d3 := d2.app [Cell.lst []]
  have hb3 := get_app hb2 [Cell.lst []]
  have hf3 : (st2 ++ [Cell.lst []])[st2.length]? = some (Cell.lst (([] : List Stt).map stD)) := by simp
  obtain ⟨fn, hfn⟩ : ∃ fn, fn = st2.length := ⟨_, rfl⟩
  rw [← hfn] at hf3 ⊢
  generalize st2 ++ [Cell.lst []] = st3 at d3 hb3 hf3 ⊢
  clear d2
  simp
  rw [if_pos (small62_of (by omega))]
  simp
  refine for_rng (fun i ρ st4 => ∃ (m : List Stt) (x6 x7 x8 : Option D), ρ = [some (.ref r), some (.int 6), some (.ref bn), some (.int (many : Nat)), some (.int (n : Nat)), some (.ref fn), x6, x7, x8] ∧ m.length = i ∧ (∀ s ∈ m, Sok n many s) ∧ Dk st4 r c ∧ st4[fn]? = some (.lst (m.map stD)) ∧ st4[bn]? = some (.lst btm)) ⟨[], none, none, none, rfl, rfl, by simp, d3, hf3, hb3⟩ (fun i ρ st4 Y hi ⟨m, x6, x7, x8, e1, h1, h2, d4, hf, hb4⟩ hY => ?_) (fun ρ st4 ⟨m, x6, x7, x8, e1, h1, h2, d4, hf, hb4⟩ => ?_)
  · subst e1
    clear d3 hf3 hb3 hb2
    refine ⟨_, rfl, seq_i fun X5 hX5 => ?_⟩
    simp [permN, permL]
    refine table_ok (k := k) (n := n) d4 (by omega) hb4 b1 b2 fun ps st5 p1 p2 d5 f5 => ?_
    have hf5 := f5.keep hf (by omega) (by omega)
    have hb5 := f5.keep hb4 b1 b2
    refine hX5 _ _ ?_
    simp [wps_seq]
    refine ⟨_, listS_lst hf5, ?_⟩
    rw [if_pos (small62_of (by omega))]
    simp
    refine lc_rng (fun i acc st6 => ∃ fs : List Nat, acc = fs.map nd ∧ fs.length = i ∧ (∀ p ∈ fs, p < many) ∧ Dk st6 r c ∧ st6[fn]? = some (.lst (m.map stD)) ∧ st6[bn]? = some (.lst btm)) ⟨[], rfl, rfl, by simp, d5, hf5, hb5⟩ (fun i acc st6 Z hi ⟨fs, e1, g1, g2, d6, hf6, hb6⟩ hZ => ?_) (fun acc st6 ⟨fs, e1, g1, g2, d6, hf6, hb6⟩ => ?_)
    · subst e1
      refine ⟨_, rfl, ?_⟩
      simp [wipeD, permN, permL]
      refine drawN_ok (k := k + 2) d6 (by omega) (by omega) fun v st7 hv d7 f7 => ?_
      refine ⟨by first | omega | (simp; omega) | (rw [sizeLine_eq]; simp; omega), hZ _ _ ⟨fs ++ [v], by simp [nd], by simp [g1], fun p hp => ?_, d7, f7.keep hf6 (by omega) (by omega), f7.keep hb6 b1 b2⟩⟩
      rcases List.mem_append.mp hp with hp | hp
      · exact g2 p hp
      · simp at hp
        omega
    · subst e1
      rw [bl_tupL get_last]
      have d7 := d6.app [Cell.lst (fs.map nd)]
      have hf7 := get_app hf6 [Cell.lst (fs.map nd)]
      have hb7 := get_app hb6 [Cell.lst (fs.map nd)]
      generalize st6 ++ [Cell.lst (fs.map nd)] = st7 at d7 hf7 hb7
      refine ⟨fn, _, _, rfl, rfl, hf7, by first | omega | (simp; omega) | (rw [sizeLine_eq]; simp; omega), hY _ _ ⟨m ++ [⟨ps, fs⟩], _, _, _, rfl, by simp [h1], fun s hs => ?_, Deck.set d7 (by omega) (by omega), ?_, ?_⟩⟩
      · rcases List.mem_append.mp hs with hs | hs
        · exact h2 s hs
        · simp at hs
          subst hs
          exact ⟨p1, g1, g2, p2⟩
      · rw [get_set hf7]
        simp [stD, rowD, ti, nd, Function.comp_def]
      · rw [List.getElem?_set_ne (by omega)]
        exact hb7
  · subst e1
    refine hX3 _ _ ?_
    simp [wps_seq]
    rw [bl_tupL hf]
    refine q n m _ ⟨by omega, by omega, fun s hs => ?_⟩ (by omega) d4
    rw [h1]
    exact h2 s hs
theorem way_ok {n many : Nat} {m : List Stt} (hm : Mok n m) (hD : Dk st r c) (hmost : many ≤ 60) (q : ∀ way st', Wy m 0 way → way.length = many → Dk st' r c → Q (rowD way) st') : F (k + 3) 39 [.ref r, modD m, .int (many : Nat)] st Q := by
  have hlen := hm.len
  refine run_step (fd := ⟨3, 10, b39⟩) rfl rfl ?_
  unfold b39
  refine seq_i fun X hX => ?_
  simp [startD]
  refine hX _ _ (seq_i fun X2 hX2 => ?_)
  clear hX X
  simp
  rw [if_pos (small62_of (by omega))]
  simp
  refine for_rng (fun i ρ st2 => ∃ (way : List Nat) (cur : Nat) (x5 x6 x7 x8 x9 : Option D), ρ = [some (.ref r), some (modD m), some (.int (many : Nat)), some (.int (cur : Nat)), some (rowD way), x5, x6, x7, x8, x9] ∧ Wt m 0 way cur ∧ way.length = i ∧ Dk st2 r c) ⟨[], 0, none, none, none, none, none, by simp [rowD, ti], .nil (by omega), rfl, hD⟩ (fun i ρ st2 Y hi ⟨way, cur, x5, x6, x7, x8, x9, e1, hw, hwl, d2⟩ hY => ?_) (fun ρ st2 ⟨way, cur, x5, x6, x7, x8, x9, e1, hw, hwl, d2⟩ => ?_)
  · subst e1
    obtain ⟨S, hS⟩ : ∃ S, m[cur]? = some S := ⟨_, List.getElem?_eq_getElem hw.lt⟩
    have hSo := hm.st S (List.mem_of_getElem? hS)
    have hsum := hSo.s
    have hpl := hSo.pl
    have hn := hm.hn
    refine ⟨_, rfl, seq_i fun X3 hX3 => ?_⟩
    simp [modD]
    refine ⟨_, at_map hS, ?_⟩
    simp [stD]
    refine hX3 _ _ (seq_i fun X4 hX4 => ?_)
    clear hX3 X3
    simp [permN, permL, tabD]
    rw [if_pos (small62_of (by omega))]
    simp
    refine lc_rng (fun j acc st3 => st3 = st2 ∧ ∃ os : List Nat, acc = os.map nd ∧ Pi S.ps j os) ⟨rfl, [], rfl, .nil⟩ (fun j acc st3 Z hj ⟨e1, os, e2, hp⟩ hZ => ?_) (fun acc st3 ⟨e1, os, e2, hp⟩ => ?_)
    · have hP : S.ps[j]? = some S.ps[j] := List.getElem?_eq_getElem hj
      generalize S.ps[j] = P at hP
      have hol := hp.l
      subst e1 e2
      refine ⟨_, rfl, ?_⟩
      simp [wipeD]
      refine ⟨_, at_map hP, ?_⟩
      simp [fp, fr]
      refine Br.dec (fun hp0 => ⟨by first | omega | (rw [sizeLine_eq]; omega), hZ _ _ ⟨rfl, os ++ [j], by simp [nd], hp.yes hP ?_⟩⟩) (fun hp0 => hZ _ _ ⟨rfl, os, rfl, hp.no hP fun h0 => ?_⟩)
      · refine Nat.pos_of_ne_zero fun z => ?_
        subst z
        simp at hp0
      · have := fp_top (S := S.ps.sum) (P := P) (by omega) h0
        omega
    · subst e1 e2
      have h0 := hp.pos hsum.1
      have hol := hp.l
      have lt := d2.lt
      refine pick_ok (k := k) (d2.app _) get_last (by omega) (by omega) (by simpa using h0) (by simp; omega) fun x st4 hx d4 f4 => ?_
      obtain ⟨o, ho, rfl⟩ := List.mem_map.mp hx
      obtain ⟨P, hP, hP0⟩ := hp.p o ho
      obtain ⟨s', hs', hs2⟩ := hSo.nxt hP
      simp [nd]
      refine hX4 _ _ ?_
      simp [wps_seq, rowD, ti]
      refine ⟨by first | omega | (rw [sizeLine_eq]; simp; omega), _, at_row hs', hY _ _ ⟨way ++ [o], s', some (.int (i : Nat)), some (tabD S.ps), some (rowD S.fs), some (.int (o : Nat)), x9, by simp [rowD, ti, modD, tabD], .snoc hw hS hP hP0 hs' hs2, by simp [hwl], d4⟩⟩
  · subst e1
    refine hX2 _ _ ?_
    simp [wps_seq]
    exact q way st2 hw.wy hwl d2
end Cb.K51

namespace Cb.K51
open PySem PySem.Spec PyProof.Rows L2
variable {k : Nat} {st : Store} {Q : K1} {r c : Nat}
/-- the parts ahead, as a row of numbers -/
theorem sums_take {ps : List Nat} {o P : Nat} (hS : 0 < ps.sum ∧ ps.sum ≤ 100) (hP : ps[o]? = some P) : Sums ps.sum ((ps.take o).map fun p : Nat => (p : Rat) * U ps.sum) ∧ ((ps.take o).map fun p : Nat => (p : Rat) * U ps.sum).sum = pA ps o := by
  have e : ∀ xs : List Nat, (xs.map fun p : Nat => (p : Rat) * U ps.sum).sum = ((xs.sum : Nat) : Rat) * U ps.sum := by
    intro xs
    induction xs with
    | nil => simp
    | cons x xs ih =>
      rw [List.map_cons, List.sum_cons, List.sum_cons, ih, Rat.natCast_add]
      grind
  have p := part_ok hS.1 hP
  have h6 := log_100 hS.2
  refine ⟨⟨hS.1, by omega, fun x hx => ?_, fun x hx => ?_, ?_⟩, by rw [e]; rfl⟩
  · obtain ⟨y, _, rfl⟩ := List.mem_map.mp hx
    exact U_gr hS.1
  · obtain ⟨y, _, rfl⟩ := List.mem_map.mp hx
    exact U_nn hS.1
  · rw [e]
    show pA ps o ≤ 1
    have h1 := p.s
    have h2 := p.c0
    grind
theorem fp_map {ps : List Nat} (hS : 0 < ps.sum) (xs : List Nat) : xs.map (fp ps.sum) = (xs.map fun p : Nat => (p : Rat) * U ps.sum).map frR := by
  rw [List.map_map]
  exact List.map_congr_left fun x _ => fp_rat hS
theorem law_stretch_ok {n : Nat} {m : List Stt} (hm : Mok n m) {way : List Nat} (hy : Wy m 0 way) (hl : way.length ≤ 60)
    (hq : ∀ x y, Sr m 0 0 1 way x y → Q (str x y) st) : F (k + 5) 40 [modD m, rowD way] st Q := by
  refine run_step (fd := ⟨2, 8, b40⟩) rfl rfl ?_
  unfold b40
  refine seq_i fun X hX => ?_
  simp [startD]
  refine hX _ _ (seq_i fun X2 hX2 => ?_)
  clear hX X
  have e0 : D.tup [D.int 0, D.int 1] = frR 0 := by simp [frR]
  have e1 : D.tup [D.int 1, D.int 1] = frR 1 := by simp [frR]
  rw [e0, e1]
  simp [rowD, ti]
  refine for_seq (fun i ρ st' => st' = st ∧ ∃ (cur : Nat) (x y : Rat) (x5 x6 x7 : Option D), ρ = [some (modD m), some (rowD way), some (frR x), some (frR y), some (.int (cur : Nat)), x5, x6, x7] ∧ Iv i x y ∧ Wy m cur (way.drop i) ∧ ∀ x2 y2, Sr m cur x y (way.drop i) x2 y2 → Sr m 0 0 1 way x2 y2) ⟨rfl, 0, 0, 1, none, none, none, by simp [rowD, ti], Iv.one, hy, fun x2 y2 h => h⟩ (fun i d ρ st' Y hd ⟨e1, cur, x, y, x5, x6, x7, e2, hiv, hwy, hg⟩ hY => ?_) (fun ρ st' ⟨e1, cur, x, y, x5, x6, x7, e2, hiv, hwy, hg⟩ => ?_)
  · subst e1 e2
    rw [List.getElem?_map] at hd
    obtain ⟨o, ho, rfl⟩ := Option.map_eq_some_iff.mp hd
    have hi := (List.getElem?_eq_some_iff.mp ho).1
    rw [drop_cons ho] at hwy hg
    cases hwy with
    | @cons _ _ P s' S _ g1 g2 g3 g4 g5 =>
      have hS := hm.st S (List.mem_of_getElem? g1)
      have hS2 : 0 < S.ps.sum ∧ S.ps.sum ≤ 100 := by have := hS.s; omega
      obtain ⟨b1, b2, b3⟩ := hiv.rm (by omega) hS2 g2
      obtain ⟨sm1, sm2⟩ := sums_take hS2 g2
      refine ⟨_, rfl, seq_i fun X3 hX3 => ?_⟩
      simp [modD]
      refine ⟨_, at_map g1, ?_⟩
      simp [stD]
      refine hX3 _ _ (seq_i fun X4 hX4 => ?_)
      clear hX3 X3
      simp [permN, permL, tabD]
      rw [cut_to, ← List.map_take, fp_map hS2.1]
      refine total_tup_ok (k := k) sm1 ?_
      rw [sm2]
      refine ltimes_ok (k := k + 1) ((hiv.ry (by omega)).mono (by omega)) (b1.mono (by omega)) ?_
      refine lplus_ok (k := k + 1) ((hiv.rx (by omega)).mono (by omega)) b3 ?_
      refine hX4 _ _ ?_
      clear hX4 X4
      simp [wps_seq, permN, permL]
      refine ⟨_, at_map g2, ?_⟩
      rw [fp_rat hS2.1]
      refine ltimes_ok (k := k + 1) ((hiv.ry (by omega)).mono (by omega)) (b2.mono (by omega)) ?_
      simp [rowD, ti]
      refine ⟨_, at_row g4, hY _ _ ⟨rfl, s', x + y * pA S.ps o, y * pC S.ps P, some (.int (o : Nat)), some (tabD S.ps), some (rowD S.fs), by simp [modD, rowD, ti, tabD, pC], hiv.step hS2 g2, g5, fun x2 y2 h => hg x2 y2 (.cons g1 g2 g4 h)⟩⟩
  · subst e1 e2
    have e : (List.map (D.int ∘ fun i : Nat => (i : Int)) way).length = way.length := by simp
    rw [e, List.drop_length] at hg
    refine hX2 _ _ ?_
    simp [wps_seq]
    exact hq x y (hg _ _ .nil)
/-- from state a by a way to state b -/
inductive Go (m : List Stt) : Nat → List Nat → Nat → Prop
  | nil {a : Nat} : a < m.length → Go m a [] a
  | cons {a o P b e : Nat} {S : Stt} {os : List Nat} : m[a]? = some S → S.ps[o]? = some P → 0 < P → S.fs[o]? = some b → Go m b os e → Go m a (o :: os) e
theorem Go.snoc {m : List Stt} {a b : Nat} {os : List Nat} (h : Go m a os b) : ∀ {o P e : Nat} {S : Stt}, m[b]? = some S → S.ps[o]? = some P → 0 < P → S.fs[o]? = some e → e < m.length → Go m a (os ++ [o]) e := by
  induction h with
  | nil => exact fun h1 h2 h3 h4 h5 => .cons h1 h2 h3 h4 (.nil h5)
  | cons g1 g2 g3 g4 _ ih => exact fun h1 h2 h3 h4 h5 => .cons g1 g2 g3 g4 (ih h1 h2 h3 h4 h5)
theorem Wy.go {m : List Stt} {n : Nat} (hm : Mok n m) {a : Nat} {os : List Nat} (h : Wy m a os) : ∃ b, Go m a os b ∧ b < m.length := by
  induction h with
  | nil h => exact ⟨_, .nil h, h⟩
  | cons g1 g2 g3 g4 _ ih =>
    obtain ⟨b, h1, h2⟩ := ih
    exact ⟨b, .cons g1 g2 g3 g4 h1, h2⟩
theorem Go.wy {m : List Stt} {a b : Nat} {os : List Nat} (h : Go m a os b) : Wy m a os := by
  induction h with
  | nil h => exact .nil h
  | cons g1 g2 g3 g4 _ ih => exact .cons g1 g2 g3 g4 ih
theorem whole_ok {x : Int} (q : Q (.bl true) st) : F (k + 1) 28 [.int x] st Q := by
  refine run_step (fd := ⟨1, 1, b28⟩) rfl rfl ?_
  simp [b28, startD, isTy, wps_seq, q]
theorem law_is_way_ok {n : Nat} {m : List Stt} (hm : Mok n m) {way : List Nat} {cur o P : Nat} {S : Stt} (hw : Go m 0 way cur) (hS : m[cur]? = some S) (hP : S.ps[o]? = some P) (q : Q (.bl (decide (0 < P))) st) : F (k + 2) 37 [modD m, rowD (way ++ [o])] st Q := by
  refine run_step (fd := ⟨2, 6, b37⟩) rfl rfl ?_
  unfold b37
  refine seq_i fun X hX => ite_i fun A B hA hB => ?_
  simp [startD, isTy, rowD, ti]
  refine hB _ (hX _ _ (seq_i fun X2 hX2 => ?_))
  clear hA hB hX A B X
  simp [startD]
  refine hX2 _ _ (seq_i fun X3 hX3 => ?_)
  clear hX2 X2
  have e0 : (List.map (D.int ∘ fun i : Nat => (i : Int)) way ++ [D.int o]) = (way ++ [o]).map (D.int ∘ fun i : Nat => (i : Int)) := by simp
  simp [rowD, ti]
  rw [e0]
  refine for_seq (fun i ρ st' => st' = st ∧ ∃ (a : Nat) (x3 x4 x5 : Option D), ρ = [some (modD m), some (rowD (way ++ [o])), some (.int (a : Nat)), x3, x4, x5] ∧ (i ≤ way.length → Go m a (way.drop i) cur) ∧ (way.length < i → 0 < P)) ⟨rfl, 0, none, none, none, by simp [rowD, ti], fun _ => hw, fun h => by omega⟩ (fun i d ρ st' Y hd ⟨e1, a, x3, x4, x5, e2, h1, h2⟩ hY => ?_) (fun ρ st' ⟨e1, a, x3, x4, x5, e2, h1, h2⟩ => ?_)
  · subst e1 e2
    rw [List.getElem?_map] at hd
    obtain ⟨o', ho, rfl⟩ := Option.map_eq_some_iff.mp hd
    have hi := (List.getElem?_eq_some_iff.mp ho).1
    simp at hi
    have hgo := h1 (by omega)
    -- one outcome, in its state
    have one : ∀ (S' : Stt) (P' b : Nat), m[a]? = some S' → S'.ps[o']? = some P' → S'.fs[o']? = some b → (0 < P' → Y [some (modD m), some (rowD (way ++ [o])), some (.int (b : Nat)), some (.int (o' : Nat)), some (tabD S'.ps), some (rowD S'.fs)] st') → (P' = 0 → Q (.bl false) st') → wps (F (k + 1)) (.seq (.asg (.tup (.cons (.name 4) (.cons (.name 5) .nil))) (.idx (.var 0) (.var 2))) (.seq (.ite (.tor (.tnot (.tval (.call 28 1 0 [0] (.cons (.var 3) .nil) .nil))) (.tor (.tnot (.chain .le .lt (.cst (.int 0)) (.var 3) (.blt .len (.cons (.var 4) .nil)))) (.cmp .eq (.idx (.idx (.var 4) (.var 3)) (.cst (.int 0))) (.cst (.int 0))))) (.seq (.ret (.cst (.bl false))) .done) .done) (.seq (.asg (.name 2) (.idx (.var 5) (.var 3))) .done))) [some (modD m), some (rowD (way ++ [o])), some (.int (a : Nat)), some (.int (o' : Nat)), x4, x5] st' { nx := Y, rt := Q, bk := X3, ct := Y } := fun S' P' b g1 g2 g4 yes no => by
      have hS' := hm.st S' (List.mem_of_getElem? g1)
      have hsum := hS'.s
      have hlt := (List.getElem?_eq_some_iff.mp g2).1
      refine seq_i fun X4 hX4 => ?_
      simp [modD]
      refine ⟨_, at_map g1, ?_⟩
      simp [stD]
      refine hX4 _ _ (seq_i fun X5 hX5 => ite_i fun A B hA hB => ?_)
      simp [permN, permL]
      refine whole_ok ?_
      simp [tabD]
      refine .inr ⟨hlt, ?_⟩
      refine ⟨_, at_map g2, ?_⟩
      simp [fp, fr]
      by_cases hp : P' = 0
      · subst hp
        refine Br.gt (by simp) (hA _ ?_)
        simp [wps_seq]
        exact no rfl
      · have ht := fp_top (S := S'.ps.sum) (P := P') (by omega) (by omega)
        have hne : ¬ (((P' / Nat.gcd P' S'.ps.sum : Nat) : Int) = 0) := by omega
        refine Br.gf (by simpa using hne) (hB _ (hX5 _ _ ?_))
        simp [wps_seq, rowD, ti]
        refine ⟨_, at_row g4, ?_⟩
        have := yes (by omega)
        simpa [modD, rowD, ti, tabD] using this
    refine ⟨_, rfl, ?_⟩
    by_cases hlt : i < way.length
    · have ho' : way[i]? = some o' := by rw [List.getElem?_append_left hlt] at ho; exact ho
      rw [drop_cons ho'] at hgo
      cases hgo with
      | @cons _ _ P' b _ S' _ g1 g2 g3 g4 g5 =>
        exact one S' P' b g1 g2 g4 (fun _ => hY _ _ ⟨rfl, b, _, _, _, rfl, fun _ => g5, fun h => by omega⟩) (fun h => by omega)
    · have ei : i = way.length := by omega
      subst ei
      rw [List.getElem?_append_right (Nat.le_refl _), Nat.sub_self] at ho
      obtain rfl : o = o' := by simpa using ho
      rw [List.drop_length] at hgo
      cases hgo with
      | nil hlt2 =>
        have hSo := hm.st S (List.mem_of_getElem? hS)
        obtain ⟨b, hb, hb2⟩ := hSo.nxt hP
        refine one S P b hS hP hb (fun hp => hY _ _ ⟨rfl, b, _, _, _, rfl, fun h => by omega, fun _ => hp⟩) (fun h => ?_)
        subst h
        simpa using q
  · subst e1 e2
    have hp : 0 < P := h2 (by simp)
    rw [decide_eq_true hp] at q
    refine hX3 _ _ ?_
    simp [wps_seq]
    exact q
end Cb.K51

namespace Cb.K51
open PySem PySem.Spec PyProof.Rows L2
variable {k : Nat} {st : Store} {Q : K1} {r c : Nat}
theorem lies_ok {a b x y : Rat} (ha : RB 1900 a) (hb : RB 1900 b) (hx : RB 1900 x) (hy : RB 1900 y) (h1 : RB 4000 (x + y)) (h2 : RB 4000 (a + b)) (q : Q (.bl (decide (x ≤ a ∧ a + b ≤ x + y))) st) : F (k + 4) 43 [str a b, str x y] st Q := by
  refine run_step (fd := ⟨2, 2, b43⟩) rfl rfl ?_
  unfold b43
  refine seq_i fun X hX => ite_i fun A B hA hB => ?_
  simp [startD, str, permN, permL]
  refine less_ok (k := k + 2) (ha.mono (by omega)) (hx.mono (by omega)) ?_
  simp
  refine Br.dec (fun hlt => hA _ ?_) (fun hlt => hB _ (hX _ _ ?_))
  · simp [wps_seq]
    have e : decide (x ≤ a ∧ a + b ≤ x + y) = false := decide_eq_false fun z => by grind
    rw [e] at q
    exact q
  · simp [startD, wps_seq, str, permN, permL]
    refine lplus_ok (k := k) (hx.mono (by omega)) (hy.mono (by omega)) ?_
    refine lplus_ok (k := k) (ha.mono (by omega)) (hb.mono (by omega)) ?_
    refine less_ok (k := k + 2) h1 h2 ?_
    simp
    have e : decide (x ≤ a ∧ a + b ≤ x + y) = decide (a + b ≤ x + y) := by
      by_cases h : a + b ≤ x + y
      · rw [decide_eq_true h]
        exact decide_eq_true ⟨by grind, h⟩
      · rw [decide_eq_false h]
        exact decide_eq_false fun z => h z.2
    rw [e] at q
    by_cases h : a + b ≤ x + y
    · rw [decide_eq_true h] at q
      exact .inl ⟨by grind, q⟩
    · rw [decide_eq_false h] at q
      exact .inr ⟨by grind, q⟩
theorem sm_str {x y : Rat} (hx : RB 1900 x) (hy : RB 1900 y) : Big.sm (str x y) = true := by
  have h1 := (sm_frR hx).1
  have h2 := (sm_frR hy).1
  simp [str, Big.sm, Big.smAll, h1, h2]
theorem sm_str2 {x y : Rat} (hx : RB 1900 x) (hy : RB 1900 y) : Big.Sm (.tup [str x y, str x y]) := by
  have h := sm_str hx hy
  refine ⟨by simp [Big.sm, Big.smAll, h], ?_, ?_⟩
  · simp [str, frR, dep, depAll]
  · simp [str, frR, cnt, cntAll]
/-- the part of an outcome -/
def gp (ps : List Nat) (o : Nat) : Nat := (ps[o]?).getD 0
theorem gp_at {ps : List Nat} {o P : Nat} (h : ps[o]? = some P) : gp ps o = P := by simp [gp, h]
theorem Sr.snoc {m : List Stt} {a b o P e : Nat} {S : Stt} {os : List Nat} {x y x2 y2 : Rat} (h : Sr m a x y os x2 y2) (hg : Go m a os b) (h1 : m[b]? = some S) (h2 : S.ps[o]? = some P) (h3 : S.fs[o]? = some e) : Sr m a x y (os ++ [o]) (x2 + y2 * pA S.ps o) (y2 * pC S.ps P) := by
  induction h with
  | nil =>
    cases hg with
    | nil => exact .cons h1 h2 h3 .nil
  | cons g1 g2 g3 _ ih =>
    cases hg with
    | cons g1' g2' g3' g4' g5' =>
      rw [g1] at g1'
      cases g1'
      rw [g2] at g2'
      cases g2'
      rw [g3] at g4'
      cases g4'
      exact .cons g1 g2 g3 (ih g5')
theorem is_right_ok {n : Nat} {m : List Stt} (hm : Mok n m) {way : List Nat} (hy : Wy m 0 way) (hl : way.length ≤ 50) {dk : D}
    (hq : ∀ more, Q (.bl true) (st ++ more)) : F (k + 10) 47 [dk, modD m, rowD way] st Q := by
  have hn := hm.hn
  have hm1 := hm.len
  obtain ⟨cur, hgo, hcl⟩ := hy.go hm
  obtain ⟨S, hS⟩ : ∃ S, m[cur]? = some S := ⟨_, List.getElem?_eq_getElem hcl⟩
  have hSo := hm.st S (List.mem_of_getElem? hS)
  have hpl := hSo.pl
  have hS2 : 0 < S.ps.sum ∧ S.ps.sum ≤ 100 := by have := hSo.s; omega
  obtain ⟨S0, hS0⟩ : ∃ S0, m[0]? = some S0 := ⟨_, List.getElem?_eq_getElem (by omega)⟩
  have hS0l := (hm.st S0 (List.mem_of_getElem? hS0)).pl
  have a0 : atI (m.map stD) 0 = some (stD S0) := at_map (i := 0) hS0
  refine run_step (fd := ⟨3, 10, b47⟩) rfl rfl ?_
  unfold b47
  refine seq_i fun X hX => ?_
  simp [startD, permN, permL]
  refine law_stretch_ok (k := k + 4) hm hy (by omega) fun x y hxy => ?_
  have hiv := hxy.iv hm Iv.one
  rw [Nat.zero_add] at hiv
  have rx := (hiv.rx (by omega)).mono (show 1000 ≤ 1900 by omega)
  have ry := (hiv.ry (by omega)).mono (show 1000 ≤ 1900 by omega)
  refine hX _ _ (seq_i fun X2 hX2 => ite_i fun A B hA hB => ?_)
  clear hX X
  simp [permN, permL]
  refine stretch_ok (k := k) hm hy (by omega) fun x1 y1 l1 h1 => ?_
  obtain ⟨rfl, rfl⟩ := hxy.fn h1
  refine stretch_ok (k := k) hm hy (by omega) fun x1 y1 l2 h2 => ?_
  obtain ⟨rfl, rfl⟩ := hxy.fn h2
  simp
  refine Big.bl_repr (sm_str2 rx ry) (Big.bl_repr (sm_str2 rx ry) ?_)
  simp
  refine hB _ (hX2 _ _ (seq_i fun X3 hX3 => ?_))
  clear hA hB hX2 A B X2 h1 h2
  -- the ways that go on
  simp [modD, a0, stD, tabD]
  rw [if_pos (small62_of (by omega))]
  simp
  refine lc_rng (fun j acc st2 => st2 = st ++ (l1 ++ l2) ∧ ∃ os : List Nat, acc = os.map (fun o => rowD (way ++ [o])) ∧ Pi S.ps j os ∧ (os.map (gp S.ps)).sum = (S.ps.take j).sum) ⟨rfl, [], rfl, .nil, by simp⟩ (fun j acc st2 Z hj ⟨e1, os, e2, hp, hsum⟩ hZ => ?_) (fun acc st2 ⟨e1, os, e2, hp, hsum⟩ => ?_)
  · subst e2
    have hj' : j < S.ps.length := by omega
    have hP : S.ps[j]? = some S.ps[j] := List.getElem?_eq_getElem hj'
    generalize S.ps[j] = P at hP
    have hol := hp.l
    refine ⟨_, rfl, ?_⟩
    simp [wipeD, rowD, ti, permN, permL]
    have er : D.tup (way.map (D.int ∘ fun i : Nat => (i : Int)) ++ [D.int (j : Nat)]) = rowD (way ++ [j]) := by simp [rowD, ti]
    have em : D.tup (m.map stD) = modD m := rfl
    rw [er, em]
    refine ⟨by first | omega | (rw [sizeLine_eq]; omega), ?_⟩
    refine law_is_way_ok (k := k + 7) hm hgo hS hP ?_
    simp
    refine Br.dec (fun h0 => ⟨by first | omega | (rw [sizeLine_eq]; omega), by first | omega | (rw [sizeLine_eq]; omega), hZ _ _ ⟨e1, os ++ [j], ?_, hp.yes hP h0, ?_⟩⟩) (fun h0 => hZ _ _ ⟨e1, os, by simp [rowD, ti], hp.no hP h0, ?_⟩)
    · simp [rowD, ti]
    · rw [List.map_append, List.sum_append, hsum, take_succ hP, List.sum_append]
      simp [gp_at hP]
    · rw [hsum, take_succ hP, List.sum_append]
      simp
      omega
  subst e1 e2
  have hlen0 : S0.ps.length = S.ps.length := by omega
  rw [hlen0] at hp hsum
  rw [List.take_length] at hsum
  have hmn : ((st ++ (l1 ++ l2)) ++ [Cell.lst (os.map fun o => rowD (way ++ [o]))])[(st ++ (l1 ++ l2)).length]? = some (Cell.lst (os.map fun o => rowD (way ++ [o]))) := get_last
  have hex : ∃ more, (st ++ (l1 ++ l2)) ++ [Cell.lst (os.map fun o => rowD (way ++ [o]))] = st ++ more := ⟨l1 ++ l2 ++ [Cell.lst (os.map fun o => rowD (way ++ [o]))], by simp⟩
  refine hX3 _ _ (seq_i fun X4 hX4 => ?_)
  clear hX3 X3
  generalize (st ++ (l1 ++ l2)).length = mn at hmn ⊢
  generalize (st ++ (l1 ++ l2)) ++ [Cell.lst (os.map fun o => rowD (way ++ [o]))] = st3 at hmn hex ⊢
  simp [srcOf, hmn]
  have hgl : ∀ o ∈ os, ∃ P e, S.ps[o]? = some P ∧ 0 < P ∧ S.fs[o]? = some e ∧ e < m.length := fun o ho => by
    obtain ⟨P, h1, h2⟩ := hp.p o ho
    obtain ⟨e, h3, h4⟩ := hSo.nxt h1
    exact ⟨P, e, h1, h2, h3, h4⟩
  have hol := hp.l
  refine lc_live (n := mn) (xs := os.map fun o => rowD (way ++ [o])) (fun j acc st4 => (∃ more, st4 = st3 ++ more) ∧ acc = (os.take j).map fun o => str (x + y * pA S.ps o) (y * pC S.ps (gp S.ps o))) ⟨⟨[], by simp⟩, by simp⟩ (fun j acc st4 ⟨⟨more, e1⟩, _⟩ => by subst e1; simp only [Src.at, get_app hmn more]) (fun j d acc st4 Z hd ⟨⟨more, e1⟩, e2⟩ hZ => ?_) (fun acc st4 ⟨⟨more, e1⟩, e2⟩ => ?_)
  · rw [List.getElem?_map] at hd
    obtain ⟨o, ho, rfl⟩ := Option.map_eq_some_iff.mp hd
    obtain ⟨P, e, g1, g2, g3, g4⟩ := hgl o (List.mem_of_getElem? ho)
    subst e2
    refine ⟨_, rfl, ?_⟩
    simp [wipeD, permN, permL]
    have hyo := (hgo.snoc hS g1 g2 g3 g4).wy
    refine stretch_ok (k := k) hm hyo (by simp; omega) fun x1 y1 l3 h3 => ?_
    obtain ⟨rfl, rfl⟩ := (hxy.snoc hgo hS g1 g3).fn h3
    have hjl := (List.getElem?_eq_some_iff.mp ho).1
    refine ⟨by first | omega | (rw [sizeLine_eq]; simp; omega), hZ _ _ ⟨⟨more ++ l3, by rw [e1]; simp⟩, ?_⟩⟩
    rw [take_succ ho]
    simp [gp_at g1]
  subst e2
  rw [List.length_map, List.take_length]
  have hsn : (st4 ++ [Cell.lst (os.map fun o => str (x + y * pA S.ps o) (y * pC S.ps (gp S.ps o)))])[st4.length]? = some (Cell.lst (os.map fun o => str (x + y * pA S.ps o) (y * pC S.ps (gp S.ps o)))) := get_last
  have hex2 : ∃ more, st4 ++ [Cell.lst (os.map fun o => str (x + y * pA S.ps o) (y * pC S.ps (gp S.ps o)))] = st ++ more := by
    obtain ⟨m0, e0⟩ := hex
    exact ⟨m0 ++ more ++ [Cell.lst (os.map fun o => str (x + y * pA S.ps o) (y * pC S.ps (gp S.ps o)))], by rw [e1, e0]; simp⟩
  generalize st4.length = sn at hsn ⊢
  generalize st4 ++ [Cell.lst (os.map fun o => str (x + y * pA S.ps o) (y * pC S.ps (gp S.ps o)))] = st5 at hsn hex2 ⊢
  refine hX4 _ _ (seq_i fun X5 hX5 => ite_i fun A B hA hB => ?_)
  clear hX4 X4 hmn hex
  -- each lies within
  have hin : ∀ o ∈ os, RB 1900 (x + y * pA S.ps o) ∧ RB 1900 (y * pC S.ps (gp S.ps o)) ∧ x ≤ x + y * pA S.ps o ∧ x + y * pA S.ps o + y * pC S.ps (gp S.ps o) ≤ x + y ∧ RB 4000 (x + y * pA S.ps o + y * pC S.ps (gp S.ps o)) := fun o ho => by
    obtain ⟨P, e, g1, g2, g3, g4⟩ := hgl o ho
    rw [gp_at g1]
    have iv2 := hiv.step hS2 g1
    have p := part_ok hS2.1 g1
    have m1 := Rat.mul_nonneg hiv.y0 p.a0
    have m3 := Rat.mul_le_mul_of_nonneg_left p.s hiv.y0
    obtain ⟨⟨N, n1, n2, g5, g6⟩, z0, z1, z2⟩ := iv2
    have r3 : RB 4000 (x + y * pA S.ps o + y * pC S.ps P) := RB.grid n1 (by grind) z2 (g5.add n1 g6) (by omega)
    exact ⟨((hiv.step hS2 g1).rx (by omega)).mono (by omega), ((hiv.step hS2 g1).ry (by omega)).mono (by omega), by grind, by grind, r3⟩
  have rxy : RB 4000 (x + y) := by
    obtain ⟨⟨N, n1, n2, g5, g6⟩, z0, z1, z2⟩ := hiv
    exact RB.grid n1 (by grind) z2 (g5.add n1 g6) (by omega)
  simp [srcOf, hsn]
  refine lc_live (n := sn) (xs := os.map fun o => str (x + y * pA S.ps o) (y * pC S.ps (gp S.ps o))) (fun j acc st6 => st6 = st5 ∧ acc = []) ⟨rfl, rfl⟩ (fun j acc st6 ⟨e1, _⟩ => by subst e1; simp only [Src.at, hsn]) (fun j d acc st6 Z hd ⟨e1, e2⟩ hZ => ?_) (fun acc st6 ⟨e1, e2⟩ => ?_)
  · rw [List.getElem?_map] at hd
    obtain ⟨o, ho, rfl⟩ := Option.map_eq_some_iff.mp hd
    obtain ⟨i1, i2, i3, i4, i5⟩ := hin o (List.mem_of_getElem? ho)
    subst e1 e2
    refine ⟨_, rfl, ?_⟩
    simp [wipeD, permN, permL]
    refine lies_ok (k := k + 5) i1 i2 rx ry rxy i5 ?_
    rw [decide_eq_true ⟨i3, i4⟩]
    simp
    exact hZ _ _ ⟨rfl, rfl⟩
  subst e1 e2
  simp
  refine ne_nil' (ns := []) (c := st6.length) (e := st6.length + 1) (by simp) (by rw [List.getElem?_append_right (by omega)]; simp) ?_
  simp
  refine hB _ (hX5 _ _ ?_)
  clear hA hB hX5 A B X5
  have hsn2 := get_app hsn [Cell.lst [], Cell.lst []]
  have hex3 : ∃ more, st6 ++ [Cell.lst [], Cell.lst []] = st ++ more := by
    obtain ⟨m0, e0⟩ := hex2
    exact ⟨m0 ++ [Cell.lst [], Cell.lst []], by rw [e0]; simp⟩
  generalize st6 ++ [Cell.lst [], Cell.lst []] = st7 at hsn2 hex3 ⊢
  simp [wps_seq, srcOf, hsn2]
  refine lc_live (n := sn) (xs := os.map fun o => str (x + y * pA S.ps o) (y * pC S.ps (gp S.ps o))) (fun j acc st8 => st8 = st7 ∧ acc = ((os.take j).map fun o => y * pC S.ps (gp S.ps o)).map frR) ⟨rfl, by simp⟩ (fun j acc st8 ⟨e1, _⟩ => by subst e1; simp only [Src.at, hsn2]) (fun j d acc st8 Z hd ⟨e1, e2⟩ hZ => ?_) (fun acc st8 ⟨e1, e2⟩ => ?_)
  · rw [List.getElem?_map] at hd
    obtain ⟨o, ho, rfl⟩ := Option.map_eq_some_iff.mp hd
    have hjl := (List.getElem?_eq_some_iff.mp ho).1
    subst e1 e2
    refine ⟨_, rfl, ?_⟩
    simp [wipeD]
    refine ⟨by first | omega | (rw [sizeLine_eq]; simp; omega), hZ _ _ ⟨rfl, ?_⟩⟩
    rw [take_succ ho]
    simp
  subst e1 e2
  rw [List.length_map, List.take_length]
  -- the sizes' sum
  have hall : ∀ qs : List Nat, (qs.map fun o => y * pC S.ps (gp S.ps o)).sum = y * (((qs.map (gp S.ps)).sum : Nat) : Rat) * U S.ps.sum := fun qs => by
    induction qs with
    | nil => simp
    | cons q qs ih =>
      rw [List.map_cons, List.sum_cons, List.map_cons, List.sum_cons, ih, Rat.natCast_add]
      unfold pC
      grind
  have htot : (os.map fun o => y * pC S.ps (gp S.ps o)).sum = y := by
    rw [hall, hsum]
    have := U_one hS2.1
    grind
  have hsums : ∃ N, Sums N (os.map fun o => y * pC S.ps (gp S.ps o)) := by
    obtain ⟨⟨N, n1, n2, g5, g6⟩, z0, z1, z2⟩ := hiv
    have hl1 := log2_mul N S.ps.sum
    have h6 := log_100 hS2.2
    refine ⟨N * S.ps.sum, Nat.mul_pos n1 hS2.1, by omega, fun q hq => ?_, fun q hq => ?_, ?_⟩
    · obtain ⟨o, ho, rfl⟩ := List.mem_map.mp hq
      exact g6.mul n1 hS2.1 (U_gr hS2.1)
    · obtain ⟨o, ho, rfl⟩ := List.mem_map.mp hq
      exact Rat.mul_nonneg z1 (U_nn hS2.1)
    · rw [htot]
      grind
  obtain ⟨N, hsums⟩ := hsums
  simp [permN, permL]
  rw [← List.map_map]
  refine total_lst_ok (k := k + 5) hsums get_last ?_
  rw [htot]
  refine Big.bl_repr (sm_frR ry) ?_
  simp [str]
  refine Big.bl_repr (sm_frR ry) ?_
  simp
  obtain ⟨m0, e0⟩ := hex3
  have := hq (m0 ++ [Cell.lst ((os.map fun o => y * pC S.ps (gp S.ps o)).map frR)])
  rw [e0]
  simpa using this
end Cb.K51

namespace Cb.K51
open PySem PySem.Spec PyProof.Rows L2
variable {k : Nat} {st : Store} {Q : K1} {r c : Nat}
/-! ### all ways of a length, one behind another -/
def ex1 (m : List Stt) (p : List Nat × Nat) : List (List Nat × Nat) := match m[p.2]? with
  | some S => ((List.range S.ps.length).filter fun i => decide (0 < gp S.ps i)).map fun i => (p.1 ++ [i], gp S.fs i)
  | none => []
def exA (m : List Stt) (ws : List (List Nat × Nat)) : List (List Nat × Nat) := (ws.map (ex1 m)).flatten
inductive Adj (m : List Stt) : List (List Nat × Nat) → Rat → Rat → Prop
  | nil {lo : Rat} : Adj m [] lo lo
  | cons {w : List Nat} {a : Nat} {ws : List (List Nat × Nat)} {x y hi : Rat} : Go m 0 w a → a < m.length → Sr m 0 0 1 w x y → 0 < y → Adj m ws (x + y) hi → Adj m ((w, a) :: ws) x hi
theorem Adj.app {m : List Stt} {us vs : List (List Nat × Nat)} {lo mid hi : Rat} (h : Adj m us lo mid) : Adj m vs mid hi → Adj m (us ++ vs) lo hi := by
  induction h with
  | nil => exact fun g => g
  | cons a b c d _ ih => exact fun g => .cons a b c d (ih g)
theorem Adj.all {m : List Stt} {ws : List (List Nat × Nat)} {lo hi : Rat} (h : Adj m ws lo hi) : ∀ p ∈ ws, Go m 0 p.1 p.2 ∧ p.2 < m.length := by
  induction h with
  | nil => simp
  | cons a b c d _ ih =>
    intro p hp
    rcases List.mem_cons.mp hp with rfl | hp
    · exact ⟨a, b⟩
    · exact ih p hp
theorem pA_zero {ps : List Nat} : pA ps 0 = 0 := by simp [pA]
theorem pA_all {ps : List Nat} (hS : 0 < ps.sum) : pA ps ps.length = 1 := by
  unfold pA
  rw [List.take_length]
  exact U_one hS
theorem pA_succ {ps : List Nat} {j P : Nat} (h : ps[j]? = some P) : pA ps (j + 1) = pA ps j + pC ps P := by
  unfold pA pC
  rw [take_succ h, List.sum_append, Rat.natCast_add]
  simp
  grind
theorem ex1_adj {m : List Stt} {n : Nat} (hm : Mok n m) {w : List Nat} {a : Nat} {x y : Rat} (hg : Go m 0 w a) (ha : a < m.length) (hs : Sr m 0 0 1 w x y) (hy : 0 < y) : Adj m (ex1 m (w, a)) x (x + y) := by
  obtain ⟨S, hS⟩ : ∃ S, m[a]? = some S := ⟨_, List.getElem?_eq_getElem ha⟩
  have hSo := hm.st S (List.mem_of_getElem? hS)
  have hsum : 0 < S.ps.sum := by have := hSo.s; omega
  have h : ∀ j, j ≤ S.ps.length → Adj m (((List.range j).filter fun i => decide (0 < gp S.ps i)).map fun i => (w ++ [i], gp S.fs i)) x (x + y * pA S.ps j) := by
    intro j
    induction j with
    | zero =>
      intro _
      rw [pA_zero, Rat.mul_zero, Rat.add_zero]
      exact .nil
    | succ j ih =>
      intro hj
      have hP : S.ps[j]? = some S.ps[j] := List.getElem?_eq_getElem (by omega)
      generalize S.ps[j] = P at hP
      have h0 := ih (by omega)
      rw [List.range_succ, List.filter_append, List.map_append, pA_succ hP]
      by_cases hp : 0 < P
      · obtain ⟨b, hb, hb2⟩ := hSo.nxt hP
        have e : ([j].filter fun i => decide (0 < gp S.ps i)) = [j] := by simp [gp_at hP, hp]
        rw [e]
        refine h0.app ?_
        have e2 : gp S.fs j = b := gp_at hb
        show Adj m [(w ++ [j], gp S.fs j)] _ _
        rw [e2]
        refine .cons (hg.snoc hS hP hp hb hb2) hb2 (hs.snoc hg hS hP hb) (Rat.mul_pos hy (pC_pos hsum hp)) ?_
        have e3 : x + y * pA S.ps j + y * pC S.ps P = x + y * (pA S.ps j + pC S.ps P) := by grind
        rw [e3]
        exact .nil
      · have e : ([j].filter fun i => decide (0 < gp S.ps i)) = [] := by simp [gp_at hP, hp]
        have hp0 : P = 0 := by omega
        subst hp0
        have e2 : pC S.ps 0 = 0 := by simp [pC]
        rw [e, e2, Rat.add_zero]
        simpa using h0
  have := h S.ps.length (Nat.le_refl _)
  rw [pA_all hsum, Rat.mul_one] at this
  unfold ex1
  simp only [hS]
  exact this
theorem exA_adj {m : List Stt} {n : Nat} (hm : Mok n m) {ws : List (List Nat × Nat)} {lo hi : Rat} (h : Adj m ws lo hi) : Adj m (exA m ws) lo hi := by
  induction h with
  | nil => exact .nil
  | cons a b c d _ ih =>
    unfold exA
    rw [List.map_cons, List.flatten_cons]
    exact (ex1_adj hm a b c d).app ih
theorem ex1_len {m : List Stt} {n : Nat} (hm : Mok n m) {p : List Nat × Nat} : (ex1 m p).length ≤ n := by
  unfold ex1
  split
  · rename_i S hS
    have h := (hm.st S (List.mem_of_getElem? hS)).pl
    rw [List.length_map]
    refine Nat.le_trans (List.length_filter_le _ _) ?_
    rw [List.length_range]
    omega
  · simp
theorem exA_len {m : List Stt} {n : Nat} (hm : Mok n m) : ∀ ws : List (List Nat × Nat), (exA m ws).length ≤ ws.length * n
  | [] => by simp [exA]
  | p :: ws => by
    have h1 := ex1_len hm (p := p)
    have h2 := exA_len hm ws
    unfold exA at h2 ⊢
    rw [List.map_cons, List.flatten_cons, List.length_append, List.length_cons, Nat.add_mul, Nat.one_mul]
    omega
theorem ex1_fst {m : List Stt} {p q : List Nat × Nat} (h : q ∈ ex1 m p) : q.1.length = p.1.length + 1 := by
  unfold ex1 at h
  split at h
  · obtain ⟨i, _, rfl⟩ := List.mem_map.mp h
    simp
  · cases h
theorem exA_fst {m : List Stt} {ws : List (List Nat × Nat)} {t : Nat} (h : ∀ p ∈ ws, p.1.length = t) : ∀ q ∈ exA m ws, q.1.length = t + 1 := fun q hq => by
  unfold exA at hq
  obtain ⟨l, hl, hq⟩ := List.mem_flatten.mp hq
  obtain ⟨p, hp, rfl⟩ := List.mem_map.mp hl
  rw [ex1_fst hq, h p hp]
def pD (p : List Nat × Nat) : D := .tup [rowD p.1, .int (p.2 : Nat)]
theorem exA_take {m : List Stt} {ws : List (List Nat × Nat)} {j : Nat} {p : List Nat × Nat} (h : ws[j]? = some p) : exA m (ws.take (j + 1)) = exA m (ws.take j) ++ ex1 m p := by
  unfold exA
  rw [take_succ h]
  simp
theorem set_new {s0 more : Store} {n : Nat} {x : Cell} (h : s0.length ≤ n) : ∃ more', (s0 ++ more).set n x = s0 ++ more' := ⟨more.set (n - s0.length) x, by rw [List.set_append_right _ _ h]⟩
theorem ways_ok {n many : Nat} {m : List Stt} (hm : Mok n m) (h60 : n ^ many ≤ 60) (h4 : many ≤ 10)
    (hq : ∀ ws nn more, Adj m ws 0 1 → (∀ p ∈ ws, p.1.length = many) → (st ++ more)[nn]? = some (.lst (ws.map fun p => rowD p.1)) → Q (.ref nn) (st ++ more)) : F (k + 1) 41 [modD m, .int (many : Nat)] st Q := by
  have hn := hm.hn
  have hlen := hm.len
  have hpw : ∀ t, t ≤ many → n ^ t ≤ 60 := fun t ht => Nat.le_trans (Nat.pow_le_pow_right hn.1 ht) h60
  refine run_step (fd := ⟨2, 10, b41⟩) rfl rfl ?_
  unfold b41
  refine seq_i fun X hX => ?_
  simp [startD]
  refine hX _ _ (seq_i fun X2 hX2 => ?_)
  clear hX X
  simp
  rw [if_pos (small62_of (by omega))]
  simp
  have one_y : (0 : Rat) < 1 := by decide +kernel
  refine for_rng (fun t ρ st2 => ∃ (ws : List (List Nat × Nat)) (fn : Nat) (more : Store) (x3 x4 x5 x6 x7 x8 x9 : Option D), ρ = [some (modD m), some (.int (many : Nat)), some (.ref fn), x3, x4, x5, x6, x7, x8, x9] ∧ st2 = st ++ more ∧ st2[fn]? = some (.lst (ws.map pD)) ∧ Adj m ws 0 1 ∧ (∀ p ∈ ws, p.1.length = t) ∧ ws.length ≤ n ^ t) ⟨[([], 0)], st.length, [Cell.lst [pD ([], 0)]], none, none, none, none, none, none, none, rfl, by simp [pD, rowD, ti], by simp [pD, rowD, ti], .cons (.nil (by omega)) (by omega) .nil one_y (by rw [Rat.zero_add]; exact .nil), by simp, by simp⟩ (fun t ρ st2 Y ht ⟨ws, fn, more, x3, x4, x5, x6, x7, x8, x9, e1, e2, hfn, hadj, hl, hwl⟩ hY => ?_) (fun ρ st2 ⟨ws, fn, more, x3, x4, x5, x6, x7, x8, x9, e1, e2, hfn, hadj, hl, hwl⟩ => ?_)
  · subst e1
    have hw60 := hpw t (by omega)
    have hw61 := hpw (t + 1) (by omega)
    have hfl := (List.getElem?_eq_some_iff.mp hfn).1
    refine ⟨_, rfl, seq_i fun X3 hX3 => ?_⟩
    simp
    refine hX3 _ _ (seq_i fun X4 hX4 => ?_)
    clear hX3 X3
    have hfn1 := get_app hfn [Cell.lst []]
    simp [srcOf, hfn1]
    have hall := hadj.all
    refine for_live (n := fn) (xs := ws.map pD) (fun j ρ st3 => ∃ (more3 : Store) (x5 x6 x7 x8 : Option D), ρ = [some (modD m), some (.int (many : Nat)), some (.ref fn), some (.int (t : Nat)), some (.ref st2.length), x5, x6, x7, x8, x9] ∧ st3 = st2 ++ more3 ∧ st3[st2.length]? = some (.lst ((exA m (ws.take j)).map pD))) ⟨[Cell.lst []], x5, x6, x7, x8, rfl, rfl, by simp [exA]⟩ (fun j ρ st3 ⟨more3, _, _, _, _, _, e, _⟩ => by subst e; simp only [Src.at, get_app hfn more3]) (fun j d ρ st3 Z hd ⟨more3, x5, x6, x7, x8, e1, e3, hln⟩ hZ => ?_) (fun ρ st3 ⟨more3, x5, x6, x7, x8, e1, e3, hln⟩ => ?_)
    · rw [List.getElem?_map] at hd
      obtain ⟨⟨w, a⟩, hp, rfl⟩ := Option.map_eq_some_iff.mp hd
      have hj := (List.getElem?_eq_some_iff.mp hp).1
      obtain ⟨hgo, ha⟩ := hall (w, a) (List.mem_of_getElem? hp)
      have hwt := hl (w, a) (List.mem_of_getElem? hp)
      simp at hgo ha hwt
      obtain ⟨S, hS⟩ : ∃ S, m[a]? = some S := ⟨_, List.getElem?_eq_getElem ha⟩
      have hSo := hm.st S (List.mem_of_getElem? hS)
      have hpl := hSo.pl
      have hfl2 := hSo.fl
      have hsum := hSo.s
      subst e1
      simp [pD]
      refine seq_i fun X5 hX5 => ?_
      simp [modD]
      refine ⟨_, at_map hS, ?_⟩
      simp [stD]
      refine hX5 _ _ ?_
      clear hX5 X5
      simp [wps_seq, tabD]
      refine ⟨_, listS_lst hln, ?_⟩
      rw [if_pos (small62_of (by omega))]
      simp
      refine lc_rng (fun i acc st4 => st4 = st3 ∧ acc = ((((List.range i).filter fun i => decide (0 < gp S.ps i)).map fun i => (w ++ [i], gp S.fs i)).map pD)) ⟨rfl, by simp⟩ (fun i acc st4 W hi ⟨e1, e4⟩ hW => ?_) (fun acc st4 ⟨e1, e4⟩ => ?_)
      · subst e1 e4
        have hP : S.ps[i]? = some S.ps[i] := List.getElem?_eq_getElem hi
        generalize S.ps[i] = P at hP
        have hfl3 := List.length_filter_le (fun i => decide (0 < gp S.ps i)) (List.range i)
        rw [List.length_range] at hfl3
        refine ⟨_, rfl, ?_⟩
        simp [wipeD]
        refine ⟨_, at_map hP, ?_⟩
        simp [fp, fr]
        have yes : 0 < P → W ((((List.range (i + 1)).filter fun i => decide (0 < gp S.ps i)).map fun i => (w ++ [i], gp S.fs i)).map pD) st4 := fun _ => hW _ _ ⟨rfl, rfl⟩
        rw [List.range_succ, List.filter_append] at yes
        have no : ¬ 0 < P → W ((((List.range (i + 1)).filter fun i => decide (0 < gp S.ps i)).map fun i => (w ++ [i], gp S.fs i)).map pD) st4 := fun _ => hW _ _ ⟨rfl, rfl⟩
        rw [List.range_succ, List.filter_append] at no
        by_cases h0 : 0 < P
        · have ht2 := fp_top (S := S.ps.sum) (P := P) (by omega) h0
          have y := yes h0
          obtain ⟨b, hb, _⟩ := hSo.nxt hP
          have ee : ([i].filter fun i => decide (0 < gp S.ps i)) = [i] := by simp [gp_at hP, h0]
          rw [ee] at y
          refine Br.gt (decide_eq_true (by omega)) ?_
          simp [rowD, ti]
          refine ⟨by first | omega | (rw [sizeLine_eq]; omega), _, at_row hb, by first | omega | (rw [sizeLine_eq]; omega), ?_⟩
          simpa [pD, rowD, ti, gp_at hb, Function.comp_def] using y
        · have hp0 : P = 0 := by omega
          have y := no h0
          subst hp0
          have ee : ([i].filter fun i => decide (0 < gp S.ps i)) = [] := by simp [gp_at hP]
          rw [ee] at y
          refine Br.gf (by simp) ?_
          simpa [pD, rowD, ti, Function.comp_def] using y
      · subst e1 e4
        have ee : (((List.range S.ps.length).filter fun i => decide (0 < gp S.ps i)).map fun i => (w ++ [i], gp S.fs i)) = ex1 m (w, a) := by
          unfold ex1
          simp only [hS]
        rw [ee]
        have hln2 := get_app hln [Cell.lst ((ex1 m (w, a)).map pD)]
        have l1 := ex1_len hm (p := (w, a))
        have l2 := exA_len hm (ws.take j)
        have l3 : (ws.take j).length ≤ ws.length := by rw [List.length_take]; omega
        have l4 : (ws.take j).length * n ≤ 60 * 8 := Nat.mul_le_mul (by omega) hn.2
        refine ⟨st2.length, _, st4.length, _, rfl, rfl, hln2, get_last, by first | omega | (rw [sizeLine_eq]; simp; omega), ?_⟩
        have hex : ∃ more4, (st4 ++ [Cell.lst ((ex1 m (w, a)).map pD)]).set st2.length (.lst ((exA m (ws.take j)).map pD ++ (ex1 m (w, a)).map pD)) = st2 ++ more4 := by
          rw [e3, List.append_assoc]
          exact set_new (Nat.le_refl _)
        obtain ⟨more4, e5⟩ := hex
        have hg2 := get_set (y := .lst ((exA m (ws.take j)).map pD ++ (ex1 m (w, a)).map pD)) hln2
        rw [← List.map_append, ← exA_take hp] at hg2 e5
        rw [← List.map_append, ← exA_take hp]
        exact hZ _ _ ⟨more4, _, _, _, _, rfl, e5, hg2⟩
    · subst e1
      rw [List.length_map, List.take_length] at hln
      refine hX4 _ _ ?_
      simp [wps_seq]
      have l2 := exA_len hm ws
      have l3 : ws.length * n ≤ n ^ t * n := Nat.mul_le_mul_right _ hwl
      exact hY _ _ ⟨exA m ws, st2.length, more ++ more3, _, _, _, _, _, _, _, rfl, by rw [e3, e2]; simp, hln, exA_adj hm hadj, exA_fst hl, by rw [Nat.pow_succ]; omega⟩
  · subst e1
    have hw60 := hpw many (Nat.le_refl _)
    refine hX2 _ _ ?_
    simp [wps_seq, srcOf, hfn]
    refine lc_live (n := fn) (xs := ws.map pD) (fun j acc st3 => st3 = st2 ∧ acc = (ws.take j).map fun p => rowD p.1) ⟨rfl, by simp⟩ (fun j acc st3 ⟨e1, _⟩ => by subst e1; simp only [Src.at, hfn]) (fun j d acc st3 Z hd ⟨e1, e3⟩ hZ => ?_) (fun acc st3 ⟨e1, e3⟩ => ?_)
    · rw [List.getElem?_map] at hd
      obtain ⟨⟨w, a⟩, hp, rfl⟩ := Option.map_eq_some_iff.mp hd
      have hj := (List.getElem?_eq_some_iff.mp hp).1
      subst e1 e3
      refine ⟨_, rfl, ?_⟩
      simp [wipeD]
      refine ⟨by first | omega | (rw [sizeLine_eq]; simp; omega), hZ _ _ ⟨rfl, ?_⟩⟩
      rw [take_succ hp]
      simp
    · subst e1 e3
      rw [List.length_map, List.take_length]
      have := hq ws st3.length (more ++ [Cell.lst (ws.map fun p => rowD p.1)]) hadj hl
      rw [← List.append_assoc, ← e2] at this
      exact this get_last
end Cb.K51

namespace Cb.K51
open PySem PySem.Spec PyProof.Rows L2
variable {k : Nat} {st : Store} {Q : K1} {r c : Nat}
theorem are_few_ok {n many : Nat} {m : List Stt} (hm : Mok n m) (h4 : many ≤ 10) (q : Q (.bl (decide (n ^ many ≤ 60))) st) : F (k + 1) 46 [modD m, .int (many : Nat)] st Q := by
  have hn := hm.hn
  have hm1 := hm.len
  obtain ⟨S0, hS0⟩ : ∃ S0, m[0]? = some S0 := ⟨_, List.getElem?_eq_getElem (by omega)⟩
  have hS0l := (hm.st S0 (List.mem_of_getElem? hS0)).pl
  have a0 : atI (m.map stD) 0 = some (stD S0) := at_map (i := 0) hS0
  refine run_step (fd := ⟨2, 4, b46⟩) rfl rfl ?_
  unfold b46
  refine seq_i fun X hX => ?_
  simp [startD]
  refine hX _ _ (seq_i fun X2 hX2 => ?_)
  clear hX X
  simp
  rw [if_pos (small62_of (by omega))]
  simp
  have hpw : ∀ t, t ≤ many → n ^ t ≤ 8 ^ 10 := fun t ht => Nat.le_trans (Nat.pow_le_pow_left hn.2 t) (Nat.pow_le_pow_right (by decide) (by omega))
  have e8 : (8 : Nat) ^ 10 = 1073741824 := by decide
  refine for_rng (fun t ρ st2 => st2 = st ∧ ∃ (x3 : Option D), ρ = [some (modD m), some (.int (many : Nat)), some (.int ((n ^ t : Nat) : Int)), x3]) ⟨rfl, none, by simp⟩ (fun t ρ st2 Y ht ⟨e1, x3, e2⟩ hY => ?_) (fun ρ st2 ⟨e1, x3, e2⟩ => ?_)
  · subst e1 e2
    have := hpw t (by omega)
    refine ⟨_, rfl, ?_⟩
    simp [wps_seq, modD, a0, stD, tabD]
    refine ⟨mul_okR (by omega), hY _ _ ⟨rfl, some (.int (t : Nat)), ?_⟩⟩
    rw [hS0l, Nat.pow_succ]
    simp [modD]
  · subst e1 e2
    refine hX2 _ _ ?_
    simp [wps_seq]
    have e : decide ((n : Int) ^ many ≤ 60) = decide (n ^ many ≤ 60) := by
      have : ((n ^ many : Nat) : Int) = (n : Int) ^ many := by push_cast; rfl
      by_cases h : n ^ many ≤ 60
      · rw [decide_eq_true h]; exact decide_eq_true (by omega)
      · rw [decide_eq_false h]; exact decide_eq_false (by omega)
    first
      | (rw [e]; exact q)
      | exact q
theorem lie_beside_ok {n many : Nat} {m : List Stt} (hm : Mok n m) (h60 : n ^ many ≤ 60) (h4 : many ≤ 10) (hq : ∀ more, Q (.bl true) (st ++ more)) : F (k + 10) 45 [modD m, .int (many : Nat)] st Q := by
  refine run_step (fd := ⟨2, 5, b45⟩) rfl rfl ?_
  unfold b45
  refine seq_i fun X hX => ?_
  simp [startD]
  refine hX _ _ (seq_i fun X2 hX2 => ?_)
  clear hX X
  have e0 : D.tup [D.int 0, D.int 1] = frR 0 := by simp [frR]
  rw [e0]
  simp [permN, permL]
  refine ways_ok (k := k + 8) hm h60 h4 fun ws nn more hadj hl hnn => ?_
  simp [srcOf, hnn]
  have one1 : RB 1000 (1 : Rat) := ⟨by decide +kernel, by decide +kernel⟩
  have zero1 : RB 1000 (0 : Rat) := ⟨by decide +kernel, by decide +kernel⟩
  refine for_live (n := nn) (xs := ws.map fun p => rowD p.1) (fun j ρ st3 => ∃ (more3 : Store) (lo : Rat) (x3 x4 : Option D), ρ = [some (modD m), some (.int (many : Nat)), some (frR lo), x3, x4] ∧ st3 = (st ++ more) ++ more3 ∧ Adj m (ws.drop j) lo 1) ⟨[], 0, none, none, rfl, by simp, hadj⟩ (fun j ρ st3 ⟨more3, lo, x3, x4, e1, e2, _⟩ => by rw [e2]; simp only [Src.at, get_app hnn more3]) (fun j d ρ st3 Z hd ⟨more3, lo, x3, x4, e1, e2, ha⟩ hZ => ?_) (fun ρ st3 ⟨more3, lo, x3, x4, e1, e2, ha⟩ => ?_)
  · rw [List.getElem?_map] at hd
    obtain ⟨⟨w, a⟩, hp, rfl⟩ := Option.map_eq_some_iff.mp hd
    have hwt := hl (w, a) (List.mem_of_getElem? hp)
    simp at hwt
    rw [drop_cons hp] at ha
    cases ha with
    | @cons _ _ _ _ y _ g1 g2 g3 g4 g5 =>
      have hiv := g3.iv hm Iv.one
      rw [Nat.zero_add] at hiv
      have rx := hiv.rx (by omega)
      have ry := hiv.ry (by omega)
      subst e1
      refine ⟨_, rfl, seq_i fun X3 hX3 => ?_⟩
      simp [permN, permL]
      refine stretch_ok (k := k) hm g1.wy (by omega) fun x1 y1 l1 h1 => ?_
      obtain ⟨rfl, rfl⟩ := g3.fn h1
      refine hX3 _ _ (seq_i fun X4 hX4 => ite_i fun A B hA hB => ?_)
      clear hX3 X3
      simp [str, permN, permL]
      refine Big.bl_repr (sm_frR (rx.mono (by omega))) (Big.bl_repr (sm_frR (rx.mono (by omega))) ?_)
      simp
      rw [frR_zero]
      refine less_ok (k := k + 8) (zero1.mono (by omega)) (ry.mono (by omega)) ?_
      rw [decide_eq_true g4]
      simp
      refine hB _ (hX4 _ _ ?_)
      simp [wps_seq, permN, permL, str]
      refine lplus_ok (k := k + 6) (rx.mono (by omega)) (ry.mono (by omega)) ?_
      exact hZ _ _ ⟨more3 ++ l1, _, _, _, rfl, by rw [e2]; simp, g5⟩
  · subst e1
    rw [List.length_map, List.drop_length] at ha
    cases ha with
    | nil =>
      refine hX2 _ _ ?_
      simp [wps_seq]
      have e1 : D.tup [D.int 1, D.int 1] = frR 1 := by simp [frR]
      rw [e1]
      refine Big.c_eqP (x := frR 1) (y := frR 1) ⟨_, rfl⟩ pl_frR pl_frR (by have := dep_frR (x := (1 : Rat)); omega) (by have := dep_frR (x := (1 : Rat)); omega) ⟨fun _ => ?_, fun h => absurd rfl h⟩
      have := hq (more ++ more3)
      rw [e2, List.append_assoc]
      exact this
end Cb.K51

namespace Cb.K51
open PySem PySem.Spec PyProof.Rows L2
/-! ### rows of bits as numbers -/
def valF (a : Int) : List Int → Int
  | [] => a
  | b :: bs => valF (2 * a + b) bs
def val (bs : List Int) : Int := valF 0 bs
theorem valF_app (a : Int) : ∀ (bs cs : List Int), valF a (bs ++ cs) = valF (valF a bs) cs := by
  intro bs
  induction bs generalizing a with
  | nil => intro cs; rfl
  | cons b bs ih => intro cs; exact ih (2 * a + b) cs
theorem valF_lin (a : Int) : ∀ bs : List Int, valF a bs = a * 2 ^ bs.length + val bs := by
  intro bs
  induction bs generalizing a with
  | nil => simp [valF, val]
  | cons b bs ih =>
    show valF (2 * a + b) bs = _
    have e : val (b :: bs) = valF (2 * 0 + b) bs := rfl
    rw [e, ih (2 * a + b), ih (2 * 0 + b), List.length_cons, Int.pow_succ]
    grind
theorem val_app (bs cs : List Int) : val (bs ++ cs) = val bs * 2 ^ cs.length + val cs := by
  unfold val
  rw [valF_app, valF_lin]
  rfl
theorem val_bd {bs : List Int} (h : Bits bs) : 0 ≤ val bs ∧ val bs < 2 ^ bs.length := by
  induction bs with
  | nil => simp [val, valF]
  | cons b bs ih =>
    have h1 := ih fun x hx => h x (List.mem_cons_of_mem _ hx)
    have h2 := h b List.mem_cons_self
    have e : val (b :: bs) = valF (2 * 0 + b) bs := rfl
    rw [e, valF_lin, List.length_cons, Int.pow_succ]
    rcases h2 with rfl | rfl <;> grind
theorem val_inj : ∀ {bs cs : List Int}, Bits bs → Bits cs → bs.length = cs.length → val bs = val cs → bs = cs
  | [], [], _, _, _, _ => rfl
  | [], _ :: _, _, _, h, _ => by simp at h
  | _ :: _, [], _, _, h, _ => by simp at h
  | b :: bs, d :: cs, h1, h2, hl, he => by
    have hb := val_bd fun x hx => h1 x (List.mem_cons_of_mem _ hx)
    have hc := val_bd fun x hx => h2 x (List.mem_cons_of_mem _ hx)
    have e1 : val (b :: bs) = valF (2 * 0 + b) bs := rfl
    have e2 : val (d :: cs) = valF (2 * 0 + d) cs := rfl
    have hl' : bs.length = cs.length := by simpa using hl
    rw [e1, e2, valF_lin, valF_lin, hl'] at he
    rw [hl'] at hb
    have x1 := h1 b List.mem_cons_self
    have x2 := h2 d List.mem_cons_self
    have hbd : b = d := by
      rcases x1 with rfl | rfl <;> rcases x2 with rfl | rfl <;> first | rfl | (exfalso; omega)
    subst hbd
    rw [val_inj (fun x hx => h1 x (List.mem_cons_of_mem _ hx)) (fun x hx => h2 x (List.mem_cons_of_mem _ hx)) hl' (by omega)]
/-- where the stretch of bits begins, how long it is -/
def bx (bs : List Int) : Rat := ((val bs : Int) : Rat) * U (2 ^ bs.length)
def bsz (n : Nat) : Rat := U (2 ^ n)
theorem two_pos (n : Nat) : 0 < 2 ^ n := Nat.pow_pos (by decide)
theorem U_split (n d : Nat) : U (2 ^ n) = ((2 ^ d : Nat) : Rat) * U (2 ^ (n + d)) := by
  have h1 := U_one (two_pos n)
  have h2 := U_one (two_pos (n + d))
  rw [Nat.pow_add, Rat.natCast_mul] at h2
  have e : U (2 ^ n) = U (2 ^ n) * (((2 ^ n : Nat) : Rat) * ((2 ^ d : Nat) : Rat) * U (2 ^ n * 2 ^ d)) := by rw [h2, Rat.mul_one]
  rw [Nat.pow_add]
  grind
theorem int_le {a b : Int} {u : Rat} (hu : 0 < u) : (a : Rat) * u ≤ (b : Rat) * u ↔ a ≤ b := by
  constructor
  · intro h
    refine Classical.byContradiction fun hn => ?_
    have h1 : ((b + 1 : Int) : Rat) ≤ (a : Rat) := Rat.intCast_le_intCast.mpr (by omega)
    have h2 := Rat.mul_le_mul_of_nonneg_right h1 (show 0 ≤ u by grind)
    rw [Rat.intCast_add] at h2
    have e : ((1 : Int) : Rat) = 1 := rfl
    rw [e] at h2
    grind
  · intro h
    exact Rat.mul_le_mul_of_nonneg_right (Rat.intCast_le_intCast.mpr h) (by grind)
/-- the stretch of a row lies within that of another exactly if it begins with it -/
theorem lies_iff {bs o : List Int} (hb : Bits bs) (ho : Bits o) : (bx bs ≤ bx o ∧ bx o + bsz o.length ≤ bx bs + bsz bs.length) ↔ o.take bs.length = bs := by
  rcases Nat.le_total bs.length o.length with h | h
  · obtain ⟨d, hd⟩ := Nat.exists_eq_add_of_le h
    have hu := U_pos (two_pos o.length)
    have e1 : o = o.take bs.length ++ o.drop bs.length := (List.take_append_drop _ _).symm
    have l1 : (o.take bs.length).length = bs.length := by rw [List.length_take]; omega
    have l2 : (o.drop bs.length).length = d := by rw [List.length_drop]; omega
    have hv : val o = val (o.take bs.length) * 2 ^ d + val (o.drop bs.length) := by
      conv => lhs; rw [e1]
      rw [val_app, l2]
    have b1 : Bits (o.take bs.length) := fun x hx => ho x (List.mem_of_mem_take hx)
    have b2 := val_bd (bs := o.drop bs.length) fun x hx => ho x (List.mem_of_mem_drop hx)
    rw [l2] at b2
    have hs := U_split bs.length d
    rw [← hd] at hs
    have hD : ((2 ^ d : Nat) : Rat) = (((2 : Int) ^ d : Int) : Rat) := by
      have : ((2 ^ d : Nat) : Int) = (2 : Int) ^ d := by push_cast; rfl
      rw [← this]
      rfl
    rw [hD] at hs
    have x1 : bx bs = ((val bs * 2 ^ d : Int) : Rat) * U (2 ^ o.length) := by
      unfold bx
      rw [hs, Rat.intCast_mul]
      grind
    have x2 : bx bs + bsz bs.length = (((val bs + 1) * 2 ^ d : Int) : Rat) * U (2 ^ o.length) := by
      unfold bx bsz
      rw [hs, Rat.intCast_mul, Rat.intCast_add]
      have e : ((1 : Int) : Rat) = 1 := rfl
      rw [e]
      grind
    have x3 : bx o + bsz o.length = ((val o + 1 : Int) : Rat) * U (2 ^ o.length) := by
      unfold bx bsz
      rw [Rat.intCast_add]
      have e : ((1 : Int) : Rat) = 1 := rfl
      rw [e]
      grind
    have x4 : bx o = ((val o : Int) : Rat) * U (2 ^ o.length) := rfl
    rw [x2, x3, x1, x4, int_le hu, int_le hu, hv]
    have hp : (0 : Int) < 2 ^ d := Int.pow_pos (by decide)
    constructor
    · intro ⟨g1, g2⟩
      refine val_inj b1 hb l1 ?_
      generalize (2 : Int) ^ d = D at *
      generalize val (o.take bs.length) = B at *
      generalize val bs = A at *
      generalize val (o.drop bs.length) = r at *
      have h1 : A ≤ B := by
        refine Classical.byContradiction fun hn => ?_
        have : (B + 1) * D ≤ A * D := Int.mul_le_mul_of_nonneg_right (by omega) (by omega)
        rw [Int.add_mul] at this
        omega
      have h2 : B ≤ A := by
        refine Classical.byContradiction fun hn => ?_
        have : (A + 1) * D ≤ B * D := Int.mul_le_mul_of_nonneg_right (by omega) (by omega)
        omega
      omega
    · intro g
      rw [g, Int.add_mul]
      omega
  · by_cases he : o.length = bs.length
    · -- alike long
      have : o.take bs.length = o := by rw [← he, List.take_length]
      have hu := U_pos (two_pos o.length)
      have b1 := val_bd ho
      have x3 : bx o + bsz o.length = ((val o + 1 : Int) : Rat) * U (2 ^ o.length) := by
        unfold bx bsz
        rw [Rat.intCast_add]
        have e : ((1 : Int) : Rat) = 1 := rfl
        rw [e]
        grind
      have x2 : bx bs + bsz bs.length = ((val bs + 1 : Int) : Rat) * U (2 ^ o.length) := by
        unfold bx bsz
        rw [← he, Rat.intCast_add]
        have e : ((1 : Int) : Rat) = 1 := rfl
        rw [e]
        grind
      have x1 : bx bs = ((val bs : Int) : Rat) * U (2 ^ o.length) := by unfold bx; rw [← he]
      have x4 : bx o = ((val o : Int) : Rat) * U (2 ^ o.length) := rfl
      rw [this, x2, x3, x1, x4, int_le hu, int_le hu]
      constructor
      · intro ⟨g1, g2⟩
        exact val_inj ho hb he (by omega)
      · rintro rfl
        omega
    · obtain ⟨d, hd⟩ := Nat.exists_eq_add_of_lt (show o.length < bs.length by omega)
      constructor
      · intro ⟨g1, g2⟩
        exfalso
        have hs := U_split o.length (d + 1)
        have hd2 : o.length + (d + 1) = bs.length := by omega
        rw [hd2] at hs
        have hu := U_pos (two_pos bs.length)
        have h2 : ((2 : Nat) : Rat) ≤ ((2 ^ (d + 1) : Nat) : Rat) := Rat.natCast_le_natCast.mpr (by
          rw [Nat.pow_succ]
          have := two_pos d
          omega)
        have h3 := Rat.mul_le_mul_of_nonneg_right h2 (show 0 ≤ U (2 ^ bs.length) by grind)
        have e2 : ((2 : Nat) : Rat) = 2 := rfl
        rw [e2] at h3
        unfold bsz at g2
        rw [hs] at g2
        grind
      · intro g
        have := congrArg List.length g
        rw [List.length_take] at this
        omega
theorem frR_one2 (n : Nat) : D.tup [.int 1, .int ((2 ^ n : Nat) : Int)] = frR (U (2 ^ n)) := by
  have h := frR_mk 1 (two_pos n)
  have e : U (2 ^ n) = mkRat 1 (2 ^ n) := rfl
  rw [e, ← h]
  simp
theorem bx_mk (bs : List Int) : mkRat (val bs) (2 ^ bs.length) = bx bs := U_mk _ (two_pos _)
theorem bx_rb {bs : List Int} (h : Bits bs) (hl : bs.length ≤ 900) : RB 1000 (bx bs) ∧ RB 1000 (bsz bs.length) ∧ RB 4000 (bx bs + bsz bs.length) := by
  have hu := U_pos (two_pos bs.length)
  have hb := val_bd h
  have e : ((1 : Int) : Rat) = 1 := rfl
  have hN : ((2 ^ bs.length : Nat) : Int) = (2 : Int) ^ bs.length := by push_cast; rfl
  have hone : (((2 : Int) ^ bs.length : Int) : Rat) * U (2 ^ bs.length) = 1 := by
    rw [← hN]
    exact U_one (two_pos _)
  have h0 : 0 ≤ bx bs := Rat.mul_nonneg (by have := Rat.intCast_le_intCast.mpr hb.1; exact this) (by grind)
  have h1 : bx bs + bsz bs.length ≤ 1 := by
    have := (int_le hu).mpr (show val bs + 1 ≤ 2 ^ bs.length by omega)
    rw [hone, Rat.intCast_add, e] at this
    unfold bx bsz
    grind
  have g1 : Grid (2 ^ bs.length) (bx bs) := ⟨val bs, (bx_mk bs).symm⟩
  have g2 : Grid (2 ^ bs.length) (bsz bs.length) := ⟨1, rfl⟩
  have hlog : (2 ^ bs.length).log2 = bs.length := log2_pow2 _
  have hbl : 0 < bsz bs.length := hu
  exact ⟨RB.grid (two_pos _) h0 (by grind) g1 (by omega), RB.grid (two_pos _) (by grind) (by grind) g2 (by omega), RB.grid (two_pos _) (by grind) h1 (g1.add (two_pos _) g2) (by omega)⟩
/-! ### the plain model: its stretches are those of bits -/
def plain : List Stt := [⟨[1, 1], [0, 0]⟩]
theorem plain_ok : Mok 2 plain := ⟨by decide, by decide, fun s hs => by
  simp [plain] at hs
  subst hs
  exact ⟨rfl, rfl, by decide, by decide⟩⟩
def nats (bs : List Int) : List Nat := bs.map Int.toNat
theorem nats_ti {bs : List Int} (h : Bits bs) : rowD (nats bs) = ti bs := by
  unfold rowD nats
  rw [List.map_map]
  congr 1
  have : ∀ b ∈ bs, ((fun i : Nat => (i : Int)) ∘ Int.toNat) b = b := fun b hb => by
    rcases h b hb with rfl | rfl <;> rfl
  exact (List.map_congr_left this).trans (List.map_id' bs)
theorem plain_sr {bs : List Int} (h : Bits bs) : ∀ x y : Rat, Wy plain 0 (nats bs) ∧ Sr plain 0 x y (nats bs) (x + y * bx bs) (y * bsz bs.length) := by
  induction bs with
  | nil =>
    intro x y
    refine ⟨.nil (by decide), ?_⟩
    have e1 : bx [] = 0 := by simp [bx, val, valF]
    have e2 : bsz 0 = 1 := by decide +kernel
    show Sr plain 0 x y [] (x + y * bx []) (y * bsz 0)
    rw [e1, e2, Rat.mul_zero, Rat.add_zero, Rat.mul_one]
    exact .nil
  | cons b bs ih =>
    intro x y
    have h2 : Bits bs := fun z hz => h z (List.mem_cons_of_mem _ hz)
    have hb := h b List.mem_cons_self
    obtain ⟨w, _⟩ := ih h2 x y
    have hs := U_split bs.length 1
    have hU : U (2 ^ 1) = (1 / 2 : Rat) := by decide +kernel
    have hp0 : pA [1, 1] 0 = 0 := by decide +kernel
    have hp1 : pA [1, 1] 1 = (1 / 2 : Rat) := by decide +kernel
    have hc : pC [1, 1] 1 = (1 / 2 : Rat) := by decide +kernel
    have e : val (b :: bs) = b * 2 ^ bs.length + val bs := by
      have : val (b :: bs) = valF (2 * 0 + b) bs := rfl
      rw [this, valF_lin]
      simp
    have h2' : bsz (b :: bs).length = (1 / 2 : Rat) * bsz bs.length := by
      unfold bsz
      rw [hs, List.length_cons]
      have : ((2 ^ 1 : Nat) : Rat) = 2 := rfl
      rw [this]
      grind
    have hN : ((2 ^ bs.length : Nat) : Int) = (2 : Int) ^ bs.length := by push_cast; rfl
    have hone : (((2 : Int) ^ bs.length : Int) : Rat) * U (2 ^ bs.length) = 1 := by
      rw [← hN]
      exact U_one (two_pos _)
    have hx : bx (b :: bs) = (1 / 2 : Rat) * ((b : Rat) + bx bs) := by
      unfold bx
      rw [e, List.length_cons, Rat.intCast_add, Rat.intCast_mul]
      have hh : U (2 ^ (bs.length + 1)) = (1 / 2 : Rat) * U (2 ^ bs.length) := by
        have : ((2 ^ 1 : Nat) : Rat) = 2 := rfl
        rw [hs, this]
        grind
      rw [hh]
      grind
    rcases hb with rfl | rfl
    · refine ⟨.cons (P := 1) (s' := 0) (S := ⟨[1, 1], [0, 0]⟩) rfl rfl (by decide) rfl w, ?_⟩
      obtain ⟨_, s⟩ := ih h2 (x + y * pA [1, 1] 0) (y * pC [1, 1] 1)
      have := Sr.cons (m := plain) (a := 0) (o := 0) (P := 1) (b := 0) (S := ⟨[1, 1], [0, 0]⟩) rfl rfl rfl s
      rw [hp0, hc] at this
      rw [hx, h2']
      have e1 : x + y * 0 + y * (1 / 2) * bx bs = x + y * (1 / 2 * (((0 : Int) : Rat) + bx bs)) := by
        have : ((0 : Int) : Rat) = 0 := rfl
        rw [this]
        grind
      have e2 : y * (1 / 2) * bsz bs.length = y * (1 / 2 * bsz bs.length) := by grind
      rw [e1, e2] at this
      exact this
    · refine ⟨.cons (P := 1) (s' := 0) (S := ⟨[1, 1], [0, 0]⟩) rfl rfl (by decide) rfl w, ?_⟩
      obtain ⟨_, s⟩ := ih h2 (x + y * pA [1, 1] 1) (y * pC [1, 1] 1)
      have := Sr.cons (m := plain) (a := 0) (o := 1) (P := 1) (b := 0) (S := ⟨[1, 1], [0, 0]⟩) rfl rfl rfl s
      rw [hp1, hc] at this
      rw [hx, h2']
      have e1 : x + y * (1 / 2) + y * (1 / 2) * bx bs = x + y * (1 / 2 * (((1 : Int) : Rat) + bx bs)) := by
        have : ((1 : Int) : Rat) = 1 := rfl
        rw [this]
        grind
      have e2 : y * (1 / 2) * bsz bs.length = y * (1 / 2 * bsz bs.length) := by grind
      rw [e1, e2] at this
      exact this
end Cb.K51

namespace Cb.K51
open PySem PySem.Spec PyProof.Rows L2
variable {k : Nat} {st : Store} {Q : K1} {r c : Nat}
theorem need_bits_ok {bs : List Int} (h : Bits bs) (hl : bs.length ≤ 1000) (q : ∀ x, Q .non (st ++ [x])) : F (k + 5) 22 [ti bs] st Q := by
  refine run_step (fd := ⟨1, 1, b22⟩) rfl rfl ?_
  simp [b22, startD, permN, permL, wps_seq, wps_ite]
  refine run_step (k := k + 3) (fd := ⟨1, 1, b3⟩) rfl rfl ?_
  simp [b3, startD, permN, permL, wps_seq]
  refine are_between_ok (k := k) (fun b hb => by have := h b hb; omega) hl fun x => ?_
  simpa using q x
theorem val_take {bs : List Int} {i : Nat} {b : Int} (h : bs[i]? = some b) : val (bs.take (i + 1)) = val (bs.take i) * 2 + b := by
  rw [take_succ h, val_app]
  simp [val, valF]
theorem number_ok {bs : List Int} (q : Q (.int (val bs)) st) : F (k + 1) 12 [ti bs] st Q := by
  refine run_step (fd := ⟨1, 3, b12⟩) rfl rfl ?_
  unfold b12
  refine seq_i fun X hX => ?_
  simp [startD]
  refine hX _ _ (seq_i fun X2 hX2 => ?_)
  simp [ti]
  refine for_seq (fun i ρ st' => st' = st ∧ ∃ (x2 : Option D), ρ = [some (ti bs), some (.int (val (bs.take i))), x2]) ⟨rfl, none, by simp [ti, val, valF]⟩ (fun i d ρ st' Y hd ⟨e1, x2, e2⟩ hY => ?_) (fun ρ st' ⟨e1, x2, e2⟩ => ?_)
  · subst e1 e2
    rw [List.getElem?_map] at hd
    obtain ⟨b, hb, rfl⟩ := Option.map_eq_some_iff.mp hd
    refine ⟨_, rfl, ?_⟩
    simp [wps_seq]
    refine ⟨mul_okR (by omega), hY _ _ ⟨rfl, some (.int b), ?_⟩⟩
    rw [val_take hb]
  · subst e1 e2
    rw [List.length_map, List.take_length]
    refine hX2 _ _ ?_
    simp [wps_seq]
    exact q
def bstr (bs : List Int) : D := str (bx bs) (bsz bs.length)
theorem pow_cast (n : Nat) : ((2 : Int) ^ n) = ((2 ^ n : Nat) : Int) := by push_cast; rfl
theorem of_bits_ok {bs : List Int} (hl : bs.length ≤ 1000) (q : Q (bstr bs) st) : F (k + 3) 21 [ti bs] st Q := by
  have hlog : (2 ^ bs.length).log2 = bs.length := log2_pow2 _
  refine run_step (fd := ⟨1, 1, b21⟩) rfl rfl ?_
  simp [b21, startD, permN, permL, wps_seq]
  refine number_ok (k := k + 1) ?_
  simp [ti]
  refine ⟨shl_ok (by omega) (by omega) (by omega), ?_⟩
  rw [pow_cast]
  refine lowR_ok (k := k) (two_pos _) (by omega) ?_
  refine ⟨shl_ok (by omega) (by omega) (by omega), ?_⟩
  refine lowR_ok (k := k) (two_pos _) (by omega) ?_
  rw [bx_mk]
  exact q
theorem bits_stretch_ok {bs : List Int} (h : Bits bs) (hl : bs.length ≤ 1000) (q : ∀ x, Q (bstr bs) (st ++ [x])) : F (k + 6) 24 [ti bs] st Q := by
  refine run_step (fd := ⟨1, 1, b24⟩) rfl rfl ?_
  unfold b24
  refine seq_i fun X hX => ?_
  simp [startD, permN, permL]
  refine need_bits_ok (k := k) h hl fun x => hX _ _ ?_
  simp [wps_seq, permN, permL]
  exact of_bits_ok (k := k + 2) hl (q x)
theorem law_bits_stretch_ok {bs : List Int} (hl : bs.length ≤ 1000) (q : Q (bstr bs) st) : F (k + 3) 42 [ti bs] st Q := by
  have hlog : (2 ^ bs.length).log2 = bs.length := log2_pow2 _
  refine run_step (fd := ⟨1, 3, b42⟩) rfl rfl ?_
  unfold b42
  refine seq_i fun X hX => ?_
  simp [startD]
  refine hX _ _ (seq_i fun X2 hX2 => ?_)
  simp [ti]
  refine for_seq (fun i ρ st' => st' = st ∧ ∃ (x2 : Option D), ρ = [some (ti bs), some (.int (val (bs.take i))), x2]) ⟨rfl, none, by simp [ti, val, valF]⟩ (fun i d ρ st' Y hd ⟨e1, x2, e2⟩ hY => ?_) (fun ρ st' ⟨e1, x2, e2⟩ => ?_)
  · subst e1 e2
    rw [List.getElem?_map] at hd
    obtain ⟨b, hb, rfl⟩ := Option.map_eq_some_iff.mp hd
    refine ⟨_, rfl, ?_⟩
    simp [wps_seq]
    refine ⟨mul_okL (by omega), hY _ _ ⟨rfl, some (.int b), ?_⟩⟩
    rw [val_take hb, Int.mul_comm]
  · subst e1 e2
    rw [List.length_map, List.take_length]
    refine hX2 _ _ ?_
    simp [wps_seq, permN, permL, ti]
    refine ⟨shl_ok (by omega) (by omega) (by omega), ?_⟩
    rw [pow_cast]
    refine lfraction_ok (k := k) (two_pos _) (by omega) ?_
    refine ⟨shl_ok (by omega) (by omega) (by omega), ?_⟩
    rw [bx_mk, frR_one2]
    exact q
theorem sm_bstr {bs : List Int} (h : Bits bs) (hl : bs.length ≤ 900) : Big.Sm (bstr bs) ∧ Big.Sm (.tup [bstr bs, bstr bs]) := by
  obtain ⟨h1, h2, _⟩ := bx_rb h hl
  refine ⟨⟨sm_str (h1.mono (by omega)) (h2.mono (by omega)), ?_, ?_⟩, sm_str2 (h1.mono (by omega)) (h2.mono (by omega))⟩
  · simp [bstr, str, frR, dep, depAll]
  · simp [bstr, str, frR, cnt, cntAll]
theorem pl_ti {bs : List Int} : Big.pl (ti bs) = true := by
  simp only [ti, Big.pl]
  exact Big.plAll_map fun x _ => by simp [Big.pl]
theorem plain_D : D.tup [D.tup [D.tup [D.tup [D.int 1, D.int 2], D.tup [D.int 1, D.int 2]], D.tup [D.int 0, D.int 0]]] = modD plain := by
  simp [modD, plain, stD, tabD, fp, fr, rowD, ti]
theorem are_bits_right_ok {many : Nat} (hD : Dk st r c) (hm : many ≤ 500) (hq : ∀ st', Dk st' r c → Q (.bl true) st') : F (k + 10) 48 [.ref r, .int (many : Nat)] st Q := by
  refine run_step (fd := ⟨2, 7, b48⟩) rfl rfl ?_
  unfold b48
  refine seq_i fun X hX => ?_
  simp [startD, permN, permL]
  refine bits_ok (k := k + 7) hD (by omega) fun bs st1 hb hbl d1 => ?_
  have hl : bs.length ≤ 500 := by omega
  obtain ⟨s1, s2⟩ := sm_bstr hb (by omega)
  rw [plain_D]
  refine hX _ _ (seq_i fun X2 hX2 => ?_)
  clear hX X
  simp [permN, permL]
  refine law_bits_stretch_ok (k := k + 6) (by omega) ?_
  refine hX2 _ _ (seq_i fun X3 hX3 => ite_i fun A B hA hB => ?_)
  clear hX2 X2
  simp [permN, permL]
  refine bits_stretch_ok (k := k + 3) hb (by omega) fun x1 => ?_
  refine bits_stretch_ok (k := k + 3) hb (by omega) fun x2 => ?_
  simp
  refine Big.bl_repr s2 (Big.bl_repr s2 ?_)
  simp
  have d2 := d1.app [x1, x2]
  generalize st1 ++ [x1, x2] = st2 at d2 ⊢
  refine hB _ (hX3 _ _ (seq_i fun X4 hX4 => ite_i fun A2 B2 hA2 hB2 => ?_))
  clear hA hB hX3 A B X3 d1
  have rest : ∀ st3, Dk st3 r c → B2 st3 := fun st3 d3 => hB2 _ (hX4 _ _ (seq_i fun X5 hX5 => ?_))
  · simp [permN, permL]
    refine Br.dec (fun h40 => ?_) (fun _ => rest st2 d2)
    obtain ⟨wy, sr⟩ := plain_sr hb 0 1
    have hln : (nats bs).length ≤ 60 := by simp [nats]; omega
    rw [← nats_ti hb]
    refine stretch_ok (k := k) plain_ok wy hln fun x y more hsr => ?_
    obtain ⟨rfl, rfl⟩ := sr.fn hsr
    have e1 : (0 : Rat) + 1 * bx bs = bx bs := by grind
    have e2 : (1 : Rat) * bsz bs.length = bsz bs.length := by grind
    rw [e1, e2]
    change bltS Blt.repr [bstr bs] (st2 ++ more) _
    refine Big.bl_repr s1 (Big.bl_repr s1 ?_)
    simp
    exact rest _ (d2.app more)
  · clear hA2 hB2 hX4 A2 B2 X4 d2
    simp [permN, permL]
    refine drawN_ok (k := k + 8) d3 (by omega) (by omega) fun j st4 hj d4 f4 => ?_
    simp [ti]
    rw [cut_to, ← List.map_take]
    refine drawN_ok (k := k + 8) (many := 3) d4 (by omega) (by omega) fun e st5 he d5 f5 => ?_
    refine bits_ok (k := k + 7) d5 (by omega) fun es st6 hes hel d6 => ?_
    simp [ti]
    have ho : Bits (bs.take j ++ es) := fun x hx => (List.mem_append.mp hx).elim (fun h => hb x (List.mem_of_mem_take h)) (hes x)
    have hol : (bs.take j ++ es).length ≤ 510 := by
      rw [List.length_append, List.length_take]
      omega
    have eo : D.tup ((bs.take j).map D.int ++ es.map D.int) = ti (bs.take j ++ es) := by simp [ti]
    refine ⟨by first | omega | (simp; omega) | (rw [sizeLine_eq]; simp; omega), ?_⟩
    first
      | rw [eo]
      | (rw [← List.map_take, eo])
    generalize bs.take j ++ es = o at ho hol ⊢
    refine hX5 _ _ (seq_i fun X6 hX6 => ?_)
    clear hX5 X5 d3 d4 d5 f4 f5
    simp [ti]
    rw [cut_to, ← List.map_take]
    have fin : ∀ b : Bool, b = decide (o.take many = bs) → X6 [some (.ref r), some (.int (many : Nat)), some (ti bs), some (modD plain), some (bstr bs), some (ti o), some (.bl b)] st6 := fun b eb => by
      refine hX6 _ _ ?_
      simp [wps_seq, permN, permL]
      refine bits_stretch_ok (k := k + 3) ho (by omega) fun x3 => ?_
      obtain ⟨r1, r2, r3⟩ := bx_rb hb (by omega)
      obtain ⟨r4, r5, r6⟩ := bx_rb ho (by omega)
      refine lies_ok (k := k + 5) (r4.mono (by omega)) (r5.mono (by omega)) (r1.mono (by omega)) (r2.mono (by omega)) r3 r6 ?_
      have e3 : decide (bx bs ≤ bx o ∧ bx o + bsz o.length ≤ bx bs + bsz bs.length) = b := by
        rw [eb, ← hbl]
        have := lies_iff hb ho
        by_cases h : o.take bs.length = bs
        · rw [decide_eq_true h]; exact decide_eq_true (this.mpr h)
        · rw [decide_eq_false h]; exact decide_eq_false fun z => h (this.mp z)
      rw [e3]
      simp [cmpS, pyEq]
      exact hq _ (d6.app _)
    refine Big.c_eqP (x := ti (o.take many)) (y := ti bs) ⟨_, rfl⟩ pl_ti pl_ti (by have := dep_ti (w := o.take many); omega) (by have := dep_ti (w := bs); omega) ⟨fun he => ?_, fun he => ?_⟩
    · exact fin true (decide_eq_true (ti_inj he)).symm
    · exact fin false (decide_eq_false fun z => he (by rw [z])).symm
end Cb.K51

namespace Cb.K51
open PySem PySem.Spec PyProof.Rows L2
variable {k : Nat} {st : Store} {Q : K1} {r c : Nat}
theorem chances_ok (q : Q (.ref st.length) (st ++ [.lst btm])) : F (k + 1) 44 [] st Q := by
  refine run_step (fd := ⟨0, 0, b44⟩) rfl rfl ?_
  simp [b44, startD, wps_seq]
  exact q
theorem holds (ns : List Int) (hlen : ns.length ≤ 63) : F 100 49 [.ref 0] [.frz (ns.map D.int)] (fun d _ => d = .bl true) := by
  refine run_step (k := 99) (fd := ⟨1, 4, b49⟩) rfl rfl ?_
  unfold b49
  refine seq_i fun X hX => ?_
  simp [startD, permN, permL]
  refine run_step (k := 98) (fd := ⟨1, 3, b25⟩) rfl rfl (deck_wps (kd := "draws") (k0 := 13737264) (k1 := 69621) (k2 := 2147483629) (k3 := 161) (k4 := 2147483587) (by decide) (by decide) (by decide) (n := 0) rfl hlen fun st1 r c hD _ _ _ _ => ?_)
  refine hX _ _ (seq_i fun X2 hX2 => ?_)
  clear hX X
  simp [permN, permL]
  refine chances_ok (k := 98) ?_
  have lt := hD.lt
  refine model_ok (k := 95) (hD.app _) get_last (by omega) (by omega) fun n m st2 hm hn5 d2 => ?_
  clear hD lt
  refine hX2 _ _ (seq_i fun X3 hX3 => ?_)
  clear hX2 X2
  simp [permN, permL]
  refine drawN_ok (k := 98) (many := 12) d2 (by omega) (by omega) fun v st3 hv d3 f3 => ?_
  refine drawN_ok (k := 98) (many := 5) d3 (by omega) (by omega) fun u st4 hu d4 f4 => ?_
  clear d2 d3 f3 f4
  -- the first loop
  have l1 : ∀ w : Int, (0 ≤ w ∧ w ≤ 39) → ∃ n_1, forLoop (ItD.src (Src.seq [D.int 0, D.int 1, D.int 3, D.int (v : Nat), D.int w])).step (fun d ρ => setTg (.name 3) d ρ) (wps (Run prg.T 99) (.seq (.ite (.tnot (.tval (.call 47 3 0 [0, 1, 2] (.cons (.var 1) (.cons (.var 2) (.cons (.call 39 3 0 [0, 1, 2] (.cons (.var 1) (.cons (.var 2) (.cons (.var 3) .nil))) .nil) .nil))) .nil))) (.seq (.ret (.cst (.bl false))) .done) .done) .done)) ⟨X3, fun d _ => d = .bl true, fun _ _ => False, fun _ _ => False⟩ n_1 0 [some (.ref 0), some (.ref r), some (modD m), none] st4 := fun w hw => by
    refine for_seq (fun i ρ st' => (∃ x3, ρ = [some (.ref 0), some (.ref r), some (modD m), x3]) ∧ Dk st' r c) ⟨⟨none, rfl⟩, d4⟩ (fun i d ρ st' Y hd ⟨⟨x3, e⟩, dk⟩ hY => ?_) (fun ρ st' ⟨⟨x3, e⟩, dk⟩ => ?_)
    · obtain ⟨a, rfl, ha⟩ : ∃ a : Nat, d = .int (a : Nat) ∧ a ≤ 39 := by
        have := List.mem_of_getElem? hd
        simp at this
        rcases this with rfl | rfl | rfl | rfl | rfl
        · exact ⟨0, rfl, by omega⟩
        · exact ⟨1, rfl, by omega⟩
        · exact ⟨3, rfl, by omega⟩
        · exact ⟨v, rfl, by omega⟩
        · exact ⟨w.toNat, by congr 1; omega, by omega⟩
      subst e
      refine ⟨_, rfl, seq_i fun X4 hX4 => ite_i fun A B hA hB => ?_⟩
      simp [permN, permL]
      refine way_ok (k := 96) hm dk (by omega) fun way st5 hy hwl d5 => ?_
      refine is_right_ok (k := 89) hm hy (by omega) fun more => ?_
      simp
      refine hB _ (hX4 _ _ ?_)
      simp
      exact hY _ _ ⟨⟨_, rfl⟩, d5.app _⟩
    · subst e
      refine hX3 _ _ (seq_i fun X4 hX4 => ?_)
      clear hX3 X3 d4
      simp
      rw [if_pos (small62_of (by omega))]
      simp
      refine for_rng (fun i ρ st' => (∃ x3, ρ = [some (.ref 0), some (.ref r), some (modD m), x3]) ∧ Dk st' r c) ⟨⟨x3, rfl⟩, dk⟩ (fun i ρ st5 Y hi ⟨⟨x3, e⟩, dk⟩ hY => ?_) (fun ρ st5 ⟨⟨x3, e⟩, dk⟩ => ?_)
      · subst e
        refine ⟨_, rfl, seq_i fun X5 hX5 => ite_i fun A B hA hB => ?_⟩
        simp [permN, permL]
        refine are_few_ok (k := 98) hm (by omega) ?_
        have out : ∀ st6, Dk st6 r c → B st6 := fun st6 d6 => hB _ (hX5 _ _ (by simp; exact hY _ _ ⟨⟨_, rfl⟩, d6⟩))
        simp
        refine Br.dec (fun h60 => ?_) (fun _ => out _ dk)
        refine lie_beside_ok (k := 89) hm h60 (by omega) fun more => ?_
        simp
        exact out _ (dk.app _)
      · subst e
        refine hX4 _ _ (seq_i fun X5 hX5 => ?_)
        clear hX4 X4
        simp [permN, permL]
        refine drawN_ok (k := 98) (many := 12) dk (by omega) (by omega) fun v2 st6 hv2 d6 f6 => ?_
        refine drawN_ok (k := 98) (many := 8) d6 (by omega) (by omega) fun u2 st7 hu2 d7 f7 => ?_
        clear d6 f6 f7
        have l2 : ∀ w : Int, (0 ≤ w ∧ w ≤ 398) → ∃ n_1, forLoop (ItD.src (Src.seq [D.int 0, D.int 1, D.int (v2 : Nat), D.int w])).step (fun d ρ => setTg (.name 3) d ρ) (wps (Run prg.T 99) (.seq (.ite (.tnot (.tval (.call 48 2 0 [0, 1] (.cons (.var 1) (.cons (.var 3) .nil)) .nil))) (.seq (.ret (.cst (.bl false))) .done) .done) .done)) ⟨X5, fun d _ => d = .bl true, fun _ _ => False, fun _ _ => False⟩ n_1 0 [some (.ref 0), some (.ref r), some (modD m), x3] st7 := fun w hw => by
          refine for_seq (fun i ρ st' => (∃ x3, ρ = [some (.ref 0), some (.ref r), some (modD m), x3]) ∧ Dk st' r c) ⟨⟨x3, rfl⟩, d7⟩ (fun i d ρ st' Y hd ⟨⟨x3, e⟩, dk⟩ hY => ?_) (fun ρ st' ⟨⟨x3, e⟩, dk⟩ => ?_)
          · obtain ⟨a, rfl, ha⟩ : ∃ a : Nat, d = .int (a : Nat) ∧ a ≤ 398 := by
              have := List.mem_of_getElem? hd
              simp at this
              rcases this with rfl | rfl | rfl | rfl
              · exact ⟨0, rfl, by omega⟩
              · exact ⟨1, rfl, by omega⟩
              · exact ⟨v2, rfl, by omega⟩
              · exact ⟨w.toNat, by congr 1; omega, by omega⟩
            subst e
            refine ⟨_, rfl, seq_i fun X6 hX6 => ite_i fun A B hA hB => ?_⟩
            simp [permN, permL]
            refine are_bits_right_ok (k := 89) dk (by omega) fun st8 d8 => ?_
            simp
            refine hB _ (hX6 _ _ ?_)
            simp
            exact hY _ _ ⟨⟨_, rfl⟩, d8⟩
          · subst e
            refine hX5 _ _ ?_
            simp [wps_seq, permN, permL]
            refine stretch_ok (k := 90) (way := []) hm (.nil (by have := hm.len; omega)) (by simp) fun x y more hs => ?_
            obtain ⟨rfl, rfl⟩ := (Sr.nil (m := m) (a := 0)).fn hs
            have s0 : Big.Sm (str 0 1) := ⟨sm_str ⟨by decide +kernel, by decide +kernel⟩ ⟨by decide +kernel, by decide +kernel⟩, by simp [str, frR, dep, depAll], by simp [str, frR, cnt, cntAll]⟩
            have e01 : D.tup [D.tup [D.int 0, D.int 1], D.tup [D.int 1, D.int 1]] = str 0 1 := by simp [str, frR]
            rw [e01]
            refine Big.bl_repr s0 (Big.bl_repr s0 ?_)
            simp
        simp
        refine Br.dec (fun _ => ?_) (fun _ => ?_)
        · exact l2 398 (by omega)
        · exact l2 30 (by omega)
  simp
  refine Br.dec (fun _ => ?_) (fun _ => ?_)
  · exact l1 39 (by omega)
  · exact l1 6 (by omega)
end Cb.K51

open PySem PySem.W PyProof.Rows
set_option maxRecDepth 100000 in
set_option maxHeartbeats 8000000 in
theorem PySem.Challenge.cw_coinblind_k51_whole_stretches_holds : PySem.Challenge.rw_coinblind_k51_whole_stretches.Holds := by
  w_on; o_law; k_head; (case hw => w_witness2)
  k_fill
  refine Cb.walk_prg (p := Cb.K51.prg) (ix := 49) (k := 100) rfl (by decide) rfl ⟨rfl, by decide, by decide⟩ (fun w h Y => PySem.W.kIn_of Y) ?nl Cb.K51.prg_ok rfl rfl rfl rfl ?F Cb.K51.holds
  case nl => intro w; kernel_rfl
  case F =>
    intro w mg h KX G
    refine Cb.left_of KX G (fun d hd => ?D) (fun x hx => ?B) (fun c hc => ?C)
    case D =>
      simp only [Cb.K51.prg, List.mem_cons, List.not_mem_nil, or_false] at hd
      rcases hd with rfl | rfl | rfl | rfl | rfl | rfl | rfl | rfl | rfl | rfl | rfl | rfl | rfl | rfl | rfl | rfl | rfl | rfl | rfl | rfl | rfl | rfl | rfl | rfl | rfl | rfl | rfl | rfl | rfl | rfl | rfl | rfl | rfl | rfl | rfl | rfl | rfl | rfl | rfl | rfl | rfl | rfl | rfl | rfl | rfl | rfl | rfl | rfl | rfl | rfl
      all_goals first
        | (refine' Cb.LeftD.mk' ?h1 ?h2 ?h3 ?h4; (case h1 => k_is); (case h2 => k_is); (case h3 => k_is); (case h4 => k_is))
        | (refine' Cb.LeftD.mkM ?h0 ?h1 ?h2 ?h3 ?h4 ?h5; (case h0 => k_is); (case h1 => k_is); (case h2 => k_is); (case h3 => k_is); (case h4 => k_is); (case h5 => k_is))
    case B =>
      simp only [Cb.K51.prg, Cb.K51.bl, List.mem_cons, List.not_mem_nil, or_false] at hx
      rcases hx with rfl | rfl | rfl | rfl | rfl | rfl | rfl | rfl | rfl | rfl | rfl | rfl <;> k_is
    case C =>
      simp only [Cb.K51.prg, Cb.K51.consts, List.mem_cons, List.not_mem_nil, or_false] at hc
      rcases hc with rfl | rfl
      all_goals (refine' Cb.LeftC.mk' ?h1 ?h2 ?h3; (case h1 => k_is); (case h2 => kernel_rfl); (case h3 => decide +kernel))
