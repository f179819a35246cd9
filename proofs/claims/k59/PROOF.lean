import PyProof.Rows.All
import Wide.All
import OpenK.AllK
import Wide.FinOn
import HandS.ForMost
import HandS.TupAny
import HandS.TupMul
import HandS.Style
import HandS.WideBits
import HandS.IsInst
import HandS.Flow
import HandS.Deep
import HandS.Zip
import KE.SortData
import HandS.SortInts
import KE.DataMinMax
import KE.KMathGC
import KE.KRevSl
import HandS.Gcd
import HandS.Conv
import KE.GoesEnum
import KE.GoesMore
import KE.KDictZip
import HandS.ListItems
import HandS.GenList
import HandS.SetFor
import HandS.Ends
import PySem.Challenge.RW_coinblind_k59_whole_all_rows_of_bits_rea
set_option Elab.async false
set_option linter.all false
set_option autoImplicit false
set_option maxRecDepth 100000
set_option maxHeartbeats 4000000
namespace Cb
open PySem PySem.Spec PyProof.Rows L2

/-! ## values and stores -/
/-- a value by itself; ref n: the n-th changing thing of the store -/
inductive D where
  | non
  | bl (b : Bool)
  | int (i : Int)
  | str (s : Str)
  | tup (xs : List D)
  /-- a tuple among the module's constants -/
  | ktp (xs : List D)
  | ref (n : Nat)
/-- a class of the text's own: its name, the names of its instances' attributes -/
structure Kl where
  name : Str
  names : List Str
  deriving DecidableEq
/-- what changes: a list, the script (read alone), a dict by whole numbers and texts, an instance -/
inductive Cell where
  | lst (xs : List D)
  | frz (xs : List D)
  | dct (kvs : List (Key × D))
  /-- a dict by tuples of whole numbers and texts -/
  | dtt (kvs : List (List Key × D))
  | ins (c : Kl) (fs : List (Str × D))
  /-- dicts while they are walked -/
  | lkd (kvs : List (Key × D))
  | lkt (kvs : List (List Key × D))
abbrev Env1 := List (Option D)
abbrev Store := List Cell
abbrev K1 := D → Store → Prop
abbrev Fm := Nat → List D → Store → K1 → Prop

/-! ## how they lie in the heap of HandS -/
section
variable (K : PySem.W.Frag) (ι : List Addr) (H : Hp)
mutual
inductive DR : D → V → Prop
  | non : DR .non .non
  | bl (b : Bool) : DR (.bl b) (.bl b)
  | int (i : Int) : DR (.int i) (.int i)
  | str (s : Str) : DR (.str s) (.str s)
  | tup {a : Addr} {vs : List V} {ds : List D} : H a = some (.tup vs) → DRs ds vs → DR (.tup ds) (.ref a)
  | ktp {a : Addr} {vs : List V} {ds : List D} : SqT K H a vs → DRs ds vs → DR (.ktp ds) (.ref a)
  | ref {n : Nat} {a : Addr} : ι[n]? = some a → DR (.ref n) (.ref a)
inductive DRs : List D → List V → Prop
  | nil : DRs [] []
  | cons {d : D} {ds : List D} {v : V} {vs : List V} : DR d v → DRs ds vs → DRs (d :: ds) (v :: vs)
end
end
/-- what the heap keeps for ever: tuples and what is frozen -/
structure KeepT (H H' : Hp) : Prop where
  tup : ∀ a xs, H a = some (.tup xs) → H' a = some (.tup xs)
  frz : ∀ a o u, H a = some (.frz o u) → H' a = some (.frz o u)
theorem KeepT.refl (H : Hp) : KeepT H H := ⟨fun _ _ h => h, fun _ _ _ h => h⟩
theorem KeepT.trans {H H1 H2 : Hp} (a : KeepT H H1) (b : KeepT H1 H2) : KeepT H H2 := ⟨fun c x h => b.tup c x (a.tup c x h), fun c o u h => b.frz c o u (a.frz c o u h)⟩
theorem KeepT.seq {K : PySem.W.Frag} {H H' : Hp} {a : Addr} {xs : List V} (k : KeepT H H') (h : SqT K H a xs) : SqT K H' a xs := by
  rcases h with (h | ⟨o, h⟩) | h
  · exact .inl (.inl (k.tup _ _ h))
  · exact .inl (.inr ⟨o, k.frz _ _ _ h⟩)
  · exact .inr h
theorem KeepT.new {H : Hp} {p : Addr} {o : HO} (hp : H p = none) : KeepT H (upd H p o) :=
  ⟨fun a xs h => by rw [upd_ne (ne_of_none h hp)]; exact h, fun a o u h => by rw [upd_ne (ne_of_none h hp)]; exact h⟩
theorem KeepT.upd {H : Hp} {p : Addr} {o u : HO} (hp : H p = some u) (h1 : ∀ xs, u ≠ .tup xs) (h2 : ∀ o' u', u ≠ .frz o' u') : KeepT H (upd H p o) := by
  refine ⟨fun a xs h => ?_, fun a o u h => ?_⟩
  · rw [upd_ne]
    · exact h
    · rintro rfl
      rw [hp] at h
      exact h1 _ (Option.some.inj h)
  · rw [upd_ne]
    · exact h
    · rintro rfl
      rw [hp] at h
      exact h2 _ _ (Option.some.inj h)

/-- what is as it was: tuples, what is frozen, and all that stands at no place of the store; the store's new places are new -/
structure Keep (ι ι' : List Addr) (H H' : Hp) : Prop where
  tup : ∀ a xs, H a = some (.tup xs) → H' a = some (.tup xs)
  frz : ∀ a o u, H a = some (.frz o u) → H' a = some (.frz o u)
  out : ∀ a o, H a = some o → a ∉ ι → H' a = some o
  new : ∀ a, a ∈ ι' → a ∈ ι ∨ H a = none
theorem Keep.t {ι ι' : List Addr} {H H' : Hp} (k : Keep ι ι' H H') : KeepT H H' := ⟨k.tup, k.frz⟩
instance {ι ι' : List Addr} {H H' : Hp} : CoeOut (Keep ι ι' H H') (KeepT H H') := ⟨Keep.t⟩
theorem Keep.refl {ι : List Addr} (H : Hp) : Keep ι ι H H := ⟨fun _ _ h => h, fun _ _ _ h => h, fun _ _ h _ => h, fun _ h => .inl h⟩
theorem Keep.trans {ι ι1 ι2 : List Addr} {H H1 H2 : Hp} (a : Keep ι ι1 H H1) (b : Keep ι1 ι2 H1 H2) : Keep ι ι2 H H2 := by
  refine ⟨fun c x h => b.tup c x (a.tup c x h), fun c o u h => b.frz c o u (a.frz c o u h), fun c o h hn => ?_, fun c hc => ?_⟩
  · refine b.out c o (a.out c o h hn) fun z => ?_
    rcases a.new c z with z | z
    · exact hn z
    · rw [h] at z
      cases z
  · rcases b.new c hc with z | z
    · exact a.new c z
    · by_cases hm : c ∈ ι
      · exact .inl hm
      · right
        cases e : H c with
        | none => rfl
        | some o =>
          rw [a.out c o e hm] at z
          cases z
theorem Keep.new1 {ι : List Addr} {H : Hp} {p : Addr} {o : HO} (hp : H p = none) : Keep ι ι H (upd H p o) :=
  ⟨(KeepT.new hp).tup, (KeepT.new hp).frz, fun a u h _ => by rw [upd_ne (ne_of_none h hp)]; exact h, fun _ h => .inl h⟩
theorem Keep.newC {ι : List Addr} {H : Hp} {p : Addr} {o : HO} (hp : H p = none) : Keep ι (ι ++ [p]) H (upd H p o) :=
  ⟨(KeepT.new hp).tup, (KeepT.new hp).frz, fun a u h _ => by rw [upd_ne (ne_of_none h hp)]; exact h, fun a h => by
    rcases List.mem_append.mp h with h | h
    · exact .inl h
    · right
      rw [List.mem_singleton.mp h]
      exact hp⟩
theorem Keep.upd {ι : List Addr} {H : Hp} {p : Addr} {o u : HO} (hi : p ∈ ι) (hp : H p = some u) (h1 : ∀ xs, u ≠ .tup xs) (h2 : ∀ o' u', u ≠ .frz o' u') : Keep ι ι H (upd H p o) :=
  ⟨(KeepT.upd hp h1 h2).tup, (KeepT.upd hp h1 h2).frz, fun a x h hn => by
    rw [upd_ne]
    · exact h
    · rintro rfl
      exact hn hi, fun _ h => .inl h⟩

theorem pre_get {α : Type} {ι ι' : List α} (h : ι <+: ι') {n : Nat} {a : α} (e : ι[n]? = some a) : ι'[n]? = some a := by
  obtain ⟨t, rfl⟩ := h
  obtain ⟨hn, rfl⟩ := List.getElem?_eq_some_iff.mp e
  rw [List.getElem?_append_left hn]
  exact e
section
variable {K : PySem.W.Frag} {ι ι' : List Addr} {H H' : Hp}
mutual
theorem DR.mono (hι : ι <+: ι') (k : KeepT H H') : ∀ {d : D} {v : V}, DR K ι H d v → DR K ι' H' d v
  | _, _, .non => .non
  | _, _, .bl b => .bl b
  | _, _, .int i => .int i
  | _, _, .str s => .str s
  | _, _, .tup h1 h2 => .tup (k.tup _ _ h1) (DRs.mono hι k h2)
  | _, _, .ktp h1 h2 => .ktp (k.seq h1) (DRs.mono hι k h2)
  | _, _, .ref h => .ref (pre_get hι h)
theorem DRs.mono (hι : ι <+: ι') (k : KeepT H H') : ∀ {d : List D} {v : List V}, DRs K ι H d v → DRs K ι' H' d v
  | _, _, .nil => .nil
  | _, _, .cons h1 h2 => .cons (DR.mono hι k h1) (DRs.mono hι k h2)
end
theorem DRs.len : ∀ {ds : List D} {vs : List V}, DRs K ι H ds vs → ds.length = vs.length
  | _, _, .nil => rfl
  | _, _, .cons _ t => by rw [List.length_cons, List.length_cons, DRs.len t]
theorem DRs.get : ∀ {ds : List D} {vs : List V} {i : Nat} {d : D}, DRs K ι H ds vs → ds[i]? = some d → ∃ v, vs[i]? = some v ∧ DR K ι H d v
  | _, _, i, d, .nil, h => by simp at h
  | _, _, 0, d, .cons h1 _, h => by
    obtain rfl : _ = d := Option.some.inj h
    exact ⟨_, rfl, h1⟩
  | _, _, i + 1, d, .cons _ t, h => by
    obtain ⟨v, e, r⟩ := DRs.get (i := i) t (by simpa using h)
    exact ⟨v, by simpa using e, r⟩
theorem DRs.getV : ∀ {ds : List D} {vs : List V} {i : Nat} {v : V}, DRs K ι H ds vs → vs[i]? = some v → ∃ d, ds[i]? = some d ∧ DR K ι H d v
  | _, _, i, d, .nil, h => by simp at h
  | _, _, 0, d, .cons h1 _, h => by
    obtain rfl : _ = d := Option.some.inj h
    exact ⟨_, rfl, h1⟩
  | _, _, i + 1, d, .cons _ t, h => by
    obtain ⟨v, e, r⟩ := DRs.getV (i := i) t (by simpa using h)
    exact ⟨v, by simpa using e, r⟩
theorem DRs.append : ∀ {ds es : List D} {vs ws : List V}, DRs K ι H ds vs → DRs K ι H es ws → DRs K ι H (ds ++ es) (vs ++ ws)
  | _, _, _, _, .nil, s => s
  | _, _, _, _, .cons h t, s => .cons h (DRs.append t s)
theorem DRs.one {d : D} {v : V} (h : DR K ι H d v) : DRs K ι H [d] [v] := .cons h .nil
theorem DRs.take : ∀ {ds : List D} {vs : List V} (n : Nat), DRs K ι H ds vs → DRs K ι H (ds.take n) (vs.take n)
  | _, _, 0, _ => by rw [List.take_zero, List.take_zero]; exact .nil
  | _, _, _ + 1, .nil => .nil
  | _, _, n + 1, .cons h t => .cons h (DRs.take n t)
theorem DRs.drop : ∀ {ds : List D} {vs : List V} (n : Nat), DRs K ι H ds vs → DRs K ι H (ds.drop n) (vs.drop n)
  | _, _, 0, h => h
  | _, _, _ + 1, .nil => .nil
  | _, _, n + 1, .cons _ t => DRs.drop n t
theorem DRs.set {d : D} {v : V} (h : DR K ι H d v) : ∀ {ds : List D} {vs : List V} (n : Nat), DRs K ι H ds vs → DRs K ι H (ds.set n d) (vs.set n v)
  | _, _, _, .nil => .nil
  | _, _, 0, .cons _ t => .cons h t
  | _, _, n + 1, .cons q t => .cons q (DRs.set h n t)
theorem DRs.reverse : ∀ {ds : List D} {vs : List V}, DRs K ι H ds vs → DRs K ι H ds.reverse vs.reverse
  | _, _, .nil => .nil
  | _, _, .cons h t => by
    rw [List.reverse_cons, List.reverse_cons]
    exact (DRs.reverse t).append (.one h)
theorem DRs.erase : ∀ {ds : List D} {vs : List V} (n : Nat), DRs K ι H ds vs → DRs K ι H (ds.eraseIdx n) (vs.eraseIdx n)
  | _, _, _, .nil => .nil
  | _, _, 0, .cons _ t => t
  | _, _, n + 1, .cons h t => .cons h (DRs.erase n t)
theorem DRs.dropLast {ds : List D} {vs : List V} (h : DRs K ι H ds vs) : DRs K ι H ds.dropLast vs.dropLast := by
  rw [List.dropLast_eq_take, List.dropLast_eq_take, h.len]
  exact h.take _
theorem DRs.repl {ds : List D} {vs : List V} (h : DRs K ι H ds vs) : ∀ k, DRs K ι H (List.replicate k ds).flatten (List.replicate k vs).flatten
  | 0 => .nil
  | k + 1 => by
    rw [List.replicate_succ, List.replicate_succ, List.flatten_cons, List.flatten_cons]
    exact h.append (DRs.repl h k)
/-- the pairs of a dict -/
inductive DKs {κ : Type} (K : PySem.W.Frag) (ι : List Addr) (H : Hp) : List (κ × D) → List (κ × V) → Prop
  | nil : DKs K ι H [] []
  | cons {k : κ} {d : D} {ds : List (κ × D)} {v : V} {vs : List (κ × V)} : DR K ι H d v → DKs K ι H ds vs → DKs K ι H ((k, d) :: ds) ((k, v) :: vs)
theorem DKs.mono {κ : Type} (hι : ι <+: ι') (k : KeepT H H') : ∀ {d : List (κ × D)} {v : List (κ × V)}, DKs K ι H d v → DKs K ι' H' d v
  | _, _, .nil => .nil
  | _, _, .cons h1 h2 => .cons (DR.mono hι k h1) (DKs.mono hι k h2)
theorem DKs.len {κ : Type} : ∀ {ds : List (κ × D)} {vs : List (κ × V)}, DKs K ι H ds vs → ds.length = vs.length
  | _, _, .nil => rfl
  | _, _, .cons _ t => by rw [List.length_cons, List.length_cons, DKs.len t]
/-- the attributes of an instance -/
inductive DFs (K : PySem.W.Frag) (ι : List Addr) (H : Hp) : List (Str × D) → List (Str × V) → Prop
  | nil : DFs K ι H [] []
  | cons {k : Str} {d : D} {ds : List (Str × D)} {v : V} {vs : List (Str × V)} : DR K ι H d v → DFs K ι H ds vs → DFs K ι H ((k, d) :: ds) ((k, v) :: vs)
theorem DFs.mono (hι : ι <+: ι') (k : KeepT H H') : ∀ {d : List (Str × D)} {v : List (Str × V)}, DFs K ι H d v → DFs K ι' H' d v
  | _, _, .nil => .nil
  | _, _, .cons h1 h2 => .cons (DR.mono hι k h1) (DFs.mono hι k h2)
theorem DFs.len : ∀ {ds : List (Str × D)} {vs : List (Str × V)}, DFs K ι H ds vs → ds.length = vs.length
  | _, _, .nil => rfl
  | _, _, .cons _ t => by rw [List.length_cons, List.length_cons, DFs.len t]
theorem DFs.get {f : Str} {d : D} : ∀ {ds : List (Str × D)} {vs : List (Str × V)}, DFs K ι H ds vs → ds.lookup f = some d → ∃ v, vs.lookup f = some v ∧ DR K ι H d v
  | _, _, .nil, h => by cases h
  | (k, d') :: ds, _, .cons (v := v) h1 t, h => by
    rw [List.lookup_cons] at h
    rw [List.lookup_cons]
    cases e : f == k with
    | true =>
      rw [e] at h
      cases h
      exact ⟨v, rfl, h1⟩
    | false =>
      rw [e] at h
      exact DFs.get t h
theorem DFs.none {f : Str} : ∀ {ds : List (Str × D)} {vs : List (Str × V)}, DFs K ι H ds vs → ds.lookup f = none → vs.lookup f = none
  | _, _, .nil, h => rfl
  | (k, d') :: ds, _, .cons h1 t, h => by
    rw [List.lookup_cons] at h
    rw [List.lookup_cons]
    cases e : f == k with
    | true =>
      rw [e] at h
      cases h
    | false =>
      rw [e] at h
      exact DFs.none t h
/-- an attribute stored -/
def putFD (f : Str) (v : D) : List (Str × D) → List (Str × D)
  | [] => [(f, v)]
  | (g, x) :: r => if g = f then (g, v) :: r else (g, x) :: putFD f v r
theorem DFs.put {f : Str} {d : D} {v : V} (h : DR K ι H d v) : ∀ {ds : List (Str × D)} {vs : List (Str × V)}, DFs K ι H ds vs → DFs K ι H (putFD f d ds) (putF f v vs)
  | _, _, .nil => .cons h .nil
  | (k, d') :: ds, _, .cons (vs := vs) (v := w) h1 t => by
    unfold putFD putF
    by_cases e : k = f
    · rw [if_pos e, if_pos e]
      exact .cons h t
    · rw [if_neg e, if_neg e]
      exact .cons h1 (DFs.put h t)
theorem putFD_sub {f : Str} {d : D} : ∀ {ds : List (Str × D)} {p : Str × D}, p ∈ putFD f d ds → p.1 = f ∨ ∃ q ∈ ds, q.1 = p.1
  | [], p, h => by
    simp [putFD] at h
    exact .inl (by rw [h])
  | (g, x) :: r, p, h => by
    unfold putFD at h
    split at h
    · rename_i e
      rcases List.mem_cons.mp h with rfl | h
      · exact .inl e
      · exact .inr ⟨p, List.mem_cons_of_mem _ h, rfl⟩
    · rcases List.mem_cons.mp h with rfl | h
      · exact .inr ⟨_, List.mem_cons_self, rfl⟩
      · rcases putFD_sub h with h | ⟨q, h1, h2⟩
        · exact .inl h
        · exact .inr ⟨q, List.mem_cons_of_mem _ h1, h2⟩
/-- the class of an instance, as the text has left it -/
structure KlOk (K : PySem.W.Frag) (c : Kl) (C : Addr) : Prop where
  at_ : PySem.W.nsIn K mainGlobals c.name = some (some (.ref C))
  cls : Cls K C
  no : ∀ f ∈ c.names, NoAttr K C f
/-- what stands at an address -/
def CellR (K : PySem.W.Frag) (ι : List Addr) (H : Hp) (a : Addr) : Cell → Prop
  | .lst ds => ∃ vs, H a = some (.lst vs) ∧ DRs K ι H ds vs
  | .frz ds => ∃ o vs, H a = some (.frz o (.lst vs)) ∧ DRs K ι H ds vs
  | .dct kvs => ∃ vs, H a = some (.dK vs) ∧ DKs K ι H kvs vs
  | .dtt kvs => ∃ vs, H a = some (.dT vs) ∧ DKs K ι H kvs vs
  | .ins c fs => ∃ C dx vs, KlOk K c C ∧ H a = some (.ins C dx vs) ∧ DFs K ι H fs vs ∧ ∀ p ∈ fs, p.1 ∈ c.names
  | .lkd kvs => ∃ o vs, H a = some (.frz o (.dK vs)) ∧ DKs K ι H kvs vs
  | .lkt kvs => ∃ o vs, H a = some (.frz o (.dT vs)) ∧ DKs K ι H kvs vs
structure StR (K : PySem.W.Frag) (ι : List Addr) (H : Hp) (st : Store) : Prop where
  len : ι.length = st.length
  nd : ι.Nodup
  cell : ∀ (n : Nat) (c : Cell) (a : Addr), st[n]? = some c → ι[n]? = some a → CellR K ι H a c
/-- the names of a def -/
structure EnvR (K : PySem.W.Frag) (ι : List Addr) (H : Hp) (σ : L2.St) (ρ : Env1) : Prop where
  len : σ.length = ρ.length
  get : ∀ (i : Nat) (d : D), ρ[i]? = some (some d) → ∃ v, σ[i]? = some (some v) ∧ DR K ι H d v
theorem EnvR.mono {σ : L2.St} {ρ : Env1} (e : EnvR K ι H σ ρ) (hι : ι <+: ι') (k : KeepT H H') : EnvR K ι' H' σ ρ :=
  ⟨e.len, fun i d h => let ⟨v, h1, h2⟩ := e.get i d h; ⟨v, h1, h2.mono hι k⟩⟩
theorem EnvR.set {σ : L2.St} {ρ : Env1} (e : EnvR K ι H σ ρ) {d : D} {v : V} (h : DR K ι H d v) (i : Nat) : EnvR K ι H (σ.set i (some v)) (ρ.set i (some d)) := by
  refine ⟨by rw [List.length_set, List.length_set]; exact e.len, fun j d' hj => ?_⟩
  by_cases hij : i = j
  · subst hij
    by_cases hl : i < ρ.length
    · rw [List.getElem?_set_self hl] at hj
      cases hj
      exact ⟨v, by rw [List.getElem?_set_self (by rw [e.len]; exact hl)], h⟩
    · rw [List.getElem?_eq_none (by simpa using hl)] at hj
      cases hj
  · rw [List.getElem?_set_ne hij] at hj
    obtain ⟨w, h1, h2⟩ := e.get j d' hj
    exact ⟨w, by rw [List.getElem?_set_ne hij]; exact h1, h2⟩
theorem StR.at {st : Store} (s : StR K ι H st) {n : Nat} {a : Addr} {c : Cell} (e : st[n]? = some c) (h : ι[n]? = some a) : CellR K ι H a c := s.cell n c a e h
theorem StR.ix {st : Store} (s : StR K ι H st) {n : Nat} {c : Cell} (e : st[n]? = some c) : ∃ a, ι[n]? = some a := by
  obtain ⟨hn, _⟩ := List.getElem?_eq_some_iff.mp e
  exact ⟨ι[n]'(by rw [s.len]; exact hn), List.getElem?_eq_getElem _⟩
theorem CellR.mono {a : Addr} : ∀ {c : Cell}, CellR K ι H a c → ι <+: ι' → KeepT H H' → (H' a = H a) → CellR K ι' H' a c
  | .lst ds, ⟨vs, h1, h2⟩, hι, k, e => ⟨vs, by rw [e]; exact h1, h2.mono hι k⟩
  | .frz ds, ⟨o, vs, h1, h2⟩, hι, k, e => ⟨o, vs, by rw [e]; exact h1, h2.mono hι k⟩
  | .dct ds, ⟨vs, h1, h2⟩, hι, k, e => ⟨vs, by rw [e]; exact h1, h2.mono hι k⟩
  | .dtt ds, ⟨vs, h1, h2⟩, hι, k, e => ⟨vs, by rw [e]; exact h1, h2.mono hι k⟩
  | .ins c fs, ⟨C, dx, vs, h0, h1, h2, h3⟩, hι, k, e => ⟨C, dx, vs, h0, by rw [e]; exact h1, h2.mono hι k, h3⟩
  | .lkd ds, ⟨o, vs, h1, h2⟩, hι, k, e => ⟨o, vs, by rw [e]; exact h1, h2.mono hι k⟩
  | .lkt ds, ⟨o, vs, h1, h2⟩, hι, k, e => ⟨o, vs, by rw [e]; exact h1, h2.mono hι k⟩
theorem CellR.some {a : Addr} : ∀ {c : Cell}, CellR K ι H a c → ∃ o, H a = Option.some o
  | .lst ds, ⟨vs, h1, _⟩ => ⟨_, h1⟩
  | .frz ds, ⟨o, vs, h1, _⟩ => ⟨_, h1⟩
  | .dct ds, ⟨vs, h1, _⟩ => ⟨_, h1⟩
  | .dtt ds, ⟨vs, h1, _⟩ => ⟨_, h1⟩
  | .ins c fs, ⟨C, dx, vs, _, h1, _⟩ => ⟨_, h1⟩
  | .lkd ds, ⟨o, vs, h1, _⟩ => ⟨_, h1⟩
  | .lkt ds, ⟨o, vs, h1, _⟩ => ⟨_, h1⟩
theorem CellR.noTup {a : Addr} {xs : List V} : ∀ {c : Cell}, CellR K ι H a c → H a ≠ Option.some (.tup xs)
  | .lst ds, ⟨vs, h1, _⟩, h => by rw [h1] at h; cases h
  | .frz ds, ⟨o, vs, h1, _⟩, h => by rw [h1] at h; cases h
  | .dct ds, ⟨vs, h1, _⟩, h => by rw [h1] at h; cases h
  | .dtt ds, ⟨vs, h1, _⟩, h => by rw [h1] at h; cases h
  | .ins c fs, ⟨C, dx, vs, _, h1, _⟩, h => by rw [h1] at h; cases h
  | .lkd ds, ⟨o, vs, h1, _⟩, h => by rw [h1] at h; cases h
  | .lkt ds, ⟨o, vs, h1, _⟩, h => by rw [h1] at h; cases h
theorem nd_ne {ι : List Addr} (h : ι.Nodup) {n m : Nat} {a b : Addr} (hn : ι[n]? = some a) (hm : ι[m]? = some b) (e : n ≠ m) : b ≠ a := by
  rintro rfl
  obtain ⟨h1, e1⟩ := List.getElem?_eq_some_iff.mp hn
  obtain ⟨h2, e2⟩ := List.getElem?_eq_some_iff.mp hm
  exact e ((List.getElem_inj h).mp (e1.trans e2.symm))
/-- the heap has grown by untracked things alone (tuples) -/
theorem StR.grow {st : Store} (s : StR K ι H st) (k : KeepT H H') (same : ∀ (n : Nat) (a : Addr), ι[n]? = some a → H' a = H a) : StR K ι H' st :=
  ⟨s.len, s.nd, fun n c a e h => (s.cell n c a e h).mono (List.prefix_refl _) k (same n a h)⟩
theorem StR.newTup {st : Store} (s : StR K ι H st) {p : Addr} {o : HO} (hp : H p = none) : StR K ι (upd H p o) st :=
  s.grow (.new hp) fun n a h => by
    obtain ⟨hn, _⟩ := List.getElem?_eq_some_iff.mp h
    obtain ⟨o, e⟩ := (s.cell n _ a (List.getElem?_eq_getElem (by rw [← s.len]; exact hn)) h).some
    exact upd_ne (ne_of_none e hp)
/-- a new changing thing -/
theorem StR.newCell {st : Store} (s : StR K ι H st) {p : Addr} {o : HO} {c : Cell} (hp : H p = none) (hc : CellR K (ι ++ [p]) (upd H p o) p c) : StR K (ι ++ [p]) (upd H p o) (st ++ [c]) := by
  have hne : ∀ (n : Nat) (a : Addr), ι[n]? = some a → a ≠ p := fun n a h => by
    obtain ⟨hn, _⟩ := List.getElem?_eq_some_iff.mp h
    obtain ⟨o, e⟩ := (s.cell n _ a (List.getElem?_eq_getElem (by rw [← s.len]; exact hn)) h).some
    exact ne_of_none e hp
  refine ⟨by rw [List.length_append, List.length_append, s.len]; rfl, ?_, fun n c' a e h => ?_⟩
  · refine List.nodup_append.mpr ⟨s.nd, by simp, fun a ha b hb => ?_⟩
    have : b = p := by simpa using hb
    subst this
    obtain ⟨n, hn⟩ := List.getElem?_of_mem ha
    exact hne n a hn
  · by_cases hn : n < st.length
    · rw [List.getElem?_append_left hn] at e
      rw [List.getElem?_append_left (by rw [s.len]; exact hn)] at h
      exact (s.cell n c' a e h).mono (List.prefix_append _ _) (.new hp) (upd_ne (hne n a h))
    · have hl : n < (st ++ [c]).length := (List.getElem?_eq_some_iff.mp e).1
      have e0 : n = st.length := by
        rw [List.length_append] at hl
        simp only [List.length_singleton] at hl
        omega
      subst e0
      rw [List.getElem?_append_right (Nat.le_refl _), Nat.sub_self] at e
      rw [List.getElem?_append_right (by rw [s.len]; exact Nat.le_refl _), s.len, Nat.sub_self] at h
      obtain rfl : c = c' := Option.some.inj e
      obtain rfl : p = a := Option.some.inj h
      exact hc
/-- a changing thing has changed -/
theorem StR.put {st : Store} (s : StR K ι H st) {n : Nat} {p : Addr} {o : HO} {c : Cell} (hn : ι[n]? = some p) (k : KeepT H (upd H p o)) (hc : CellR K ι (upd H p o) p c) : StR K ι (upd H p o) (st.set n c) := by
  refine ⟨by rw [List.length_set]; exact s.len, s.nd, fun m c' a e h => ?_⟩
  by_cases hm : n = m
  · subst hm
    obtain ⟨hl, _⟩ := List.getElem?_eq_some_iff.mp hn
    rw [List.getElem?_set_self (by rw [← s.len]; exact hl)] at e
    obtain rfl : c = c' := Option.some.inj e
    rw [hn] at h
    obtain rfl : p = a := Option.some.inj h
    exact hc
  · rw [List.getElem?_set_ne hm] at e
    exact (s.cell m c' a e h).mono (List.prefix_refl _) k (upd_ne (nd_ne s.nd hn h hm))
theorem DR.last {p : Addr} {st : Store} (s : StR K ι H st) {H' : Hp} : DR K (ι ++ [p]) H' (.ref st.length) (.ref p) := by
  refine .ref ?_
  rw [List.getElem?_append_right (by rw [s.len]; exact Nat.le_refl _), s.len, Nat.sub_self]
  rfl
end

/-! ## what an operation asks, by values -/
/-- the data as a whole -/
def mapO {α β : Type} (f : α → Option β) : List α → Option (List β)
  | [] => some []
  | x :: xs => match f x, mapO f xs with
    | some y, some ys => some (y :: ys)
    | _, _ => none
def toPy (st : Store) : Nat → D → Option PyData
  | _, .non => some .none
  | _, .bl b => some (.bool b)
  | _, .int i => some (.int i)
  | _, .str s => some (.str s)
  | 0, _ => none
  | n + 1, .tup xs => (mapO (toPy st n) xs).map .tuple
  | n + 1, .ktp xs => (mapO (toPy st n) xs).map .tuple
  | n + 1, .ref r => match st[r]? with
    | some (.lst xs) => (mapO (toPy st n) xs).map .list
    | some (.frz xs) => (mapO (toPy st n) xs).map .list
    | _ => none
end Cb

namespace Cb
open PySem PySem.Spec PyProof.Rows L2

/-! ## the code -/
inductive Bop | add | sub | mul | fdiv | mod | pow | shl | shr | band | bor | bxor
  deriving DecidableEq
inductive Cop | eq | ne | lt | le | gt | ge | isn | notn | ins | nins
  deriving DecidableEq
inductive Ty | non | bool | int | str | list | tuple | dict
  deriving DecidableEq
inductive Blt | len | int | abs | max2 | min2 | repr | tuple | list | sum | all | any | max1 | min1 | bool | range1 | range2 | sorted
  deriving DecidableEq
inductive Mth | append | pop | popAt | extend
  deriving DecidableEq
/-- what a loop walks -/
inductive Ik | plain | range1 | range2 | enum | zip | keys | vals | items
  deriving DecidableEq
inductive Tg where
  | name (i : Nat)
  | nil
  | cons (t ts : Tg)
  | tup (ts : Tg)
inductive C where
  | var (i : Nat)
  | cst (d : D)
  | nil
  | cons (a as : C)
  | tup (as : C)
  | lst (as : C)
  | bin (o : Bop) (a b : C)
  | neg (a : C)
  | cmp (o : Cop) (a b : C)
  | chain (o o2 : Cop) (a b c : C)
  | chain3 (o o2 o3 : Cop) (a b c d : C)
  | and (a b : C)
  | or (a b : C)
  | tval (a : C)
  | tand (a b : C)
  | tor (a b : C)
  | tnot (a : C)
  | ite (c a b : C)
  | idx (a b : C)
  | slc (fl fh : Bool) (a lo hi : C)
  | revL (a : C)
  | call (f n m : Nat) (perm : List Nat) (as kw : C)
  | blt (b : Blt) (as : C)
  | mth (m : Mth) (o as : C)
  | isi (a : C) (ts : List Ty)
  | lc (own : List Nat) (tg : Tg) (k : Ik) (as c e : C)
  | dsp (ks : List Key) (as : C)
  | fld (a : C) (f : Str)
  | mcl (c : Kl) (m : Str) (f n : Nat) (o as : C)
  | mk (c : Kl) (f n : Nat) (as : C)
  | lc2 (own vs1 : List Nat) (tg : Tg) (k : Ik) (as c : C) (tg1 : Tg) (k1 : Ik) (as1 c1 e : C)
  | lz (as : C)
  | cmb (as : C)
  | lns (as : C)
  | dnw
  | dget (o k d : C)
  /-- c while the dict of the name i is locked -/
  | lck (i : Nat) (c : C)
inductive S where
  | done
  | seq (a r : S)
  | asg (t : Tg) (e : C)
  | par (is : List Nat) (as : C)
  | sto (e a i : C)
  | sto2 (e a i b j : C)
  | aug (i : Nat) (o : Bop) (e : C)
  | sfd (e a : C) (f : Str)
  | afd (a : C) (f : Str) (o : Bop) (e : C)
  | expr (e : C)
  | ret (e : C)
  | retN
  | ite (c : C) (a b : S)
  | loop (t : Tg) (k : Ik) (as : C) (b : S)
  | whil (c : C) (b : S)
  | brk
  | cont
  | pass
  | never
  | lck (i : Nat) (s : S)

/-! ## what the operations do -/
def som {α : Type} (o : Option α) (P : α → Prop) : Prop := ∃ y, o = some y ∧ P y
@[simp] theorem som_some {α : Type} {y : α} {P : α → Prop} : som (some y) P ↔ P y := by simp [som]
@[simp] theorem som_none {α : Type} {P : α → Prop} : som none P ↔ False := by simp [som]
theorem som.mk {α : Type} {o : Option α} {y : α} {P : α → Prop} (h : o = some y) (p : P y) : som o P := ⟨y, h, p⟩

def DivOk (i j : Int) : Prop := 0 < j ∧ Builtin.divisionGoesByPylong i j = false
def binS (o : Bop) (x y : D) (st : Store) (Q : K1) : Prop :=
  match o, x, y with
  | .add, .int i, .int j => Q (.int (i + j)) st
  | .sub, .int i, .int j => Q (.int (i - j)) st
  | .mul, .int i, .int j => IntMulOk i j ∧ Q (.int (i * j)) st
  | .fdiv, .int i, .int j => DivOk i j ∧ Q (.int (i / j)) st
  | .mod, .int i, .int j => 0 < j ∧ Q (.int (i % j)) st
  | .pow, .int i, .int j => CPow i j ∧ Q (.int (i ^ j.toNat)) st
  | .shl, .int i, .int j => CShl i j ∧ Q (.int (i * 2 ^ j.toNat)) st
  | .shr, .int i, .int j => 0 ≤ j ∧ Q (.int (i / 2 ^ j.toNat)) st
  | .band, .int i, .int j => Q (.int (Builtin.bitAnd i j)) st
  | .bor, .int i, .int j => Q (.int (Builtin.bitOr i j)) st
  | .bxor, .int i, .int j => Q (.int (Builtin.bitXor i j)) st
  | .add, .str a, .str b => a.length + b.length ≤ sizeLine ∧ Q (.str (a ++ b)) st
  | .add, .tup xs, .tup ys => xs.length + ys.length ≤ sizeLine ∧ Q (.tup (xs ++ ys)) st
  | .add, .ref n, .ref m => ∃ xs ys, st[n]? = some (.lst xs) ∧ st[m]? = some (.lst ys) ∧ xs.length + ys.length ≤ sizeLine ∧ Q (.ref st.length) (st ++ [.lst (xs ++ ys)])
  | .mul, .tup xs, .int k => (0 ≤ k ∧ k ≤ 1000 ∧ xs.length ≤ 1000) ∧ Q (.tup (List.replicate k.toNat xs).flatten) st
  | .mul, .ref n, .int k => ∃ xs, st[n]? = some (.lst xs) ∧ (0 ≤ k ∧ k < 2 ^ 63 ∧ xs.length * k.toNat ≤ sizeLine) ∧ Q (.ref st.length) (st ++ [.lst (List.replicate k.toNat xs).flatten])
  | _, _, _ => False
def pyEq (st : Store) (x y : D) : Option Bool :=
  match x, y with
  | .int i, .int j => some (decide (i = j))
  | .str a, .str b => some (decide (a = b))
  | .bl a, .bl b => some (decide (a = b))
  | _, _ => match toPy st 32 x, toPy st 32 y with
    | some p, some q => if (SeqAt.shaped p && SeqAt.shaped q) = true then some (PyData.eqv p q) else none
    | _, _ => none
def isNon : D → Bool
  | .non => true
  | _ => false
def getK {κ : Type} [DecidableEq κ] (kvs : List (κ × D)) (k : κ) : Option D := (kvs.find? fun kv => decide (kv.1 = k)).map (·.2)
def putKD {κ : Type} [DecidableEq κ] (kvs : List (κ × D)) (k : κ) (v : D) : List (κ × D) :=
  if (kvs.any fun kv => decide (kv.1 = k)) = true then kvs.map (fun kv => if kv.1 = k then (kv.1, v) else kv) else kvs ++ [(k, v)]
def keyOf : D → Option Key
  | .int i => some (.inl i)
  | .str s => some (.inr s)
  | _ => none
/-- a tuple as a key -/
def keyD : Key → D
  | .inl i => .int i
  | .inr s => .str s
def keyT : D → Option (List Key)
  | .tup xs => mapO keyOf xs
  | _ => none
/-- what a number is looked for in -/
def inSeq (st : Store) : D → Option (List D)
  | .tup xs => some xs
  | .ktp xs => some xs
  | .ref n => match st[n]? with
    | some (.lst xs) => some xs
    | some (.frz xs) => some xs
    | _ => none
  | _ => none
def inInt : D → Option Int
  | .int i => some i
  | _ => none
def cmpS (o : Cop) (x y : D) (st : Store) (Q : K1) : Prop :=
  match o with
  | .eq => som (pyEq st x y) fun b => Q (.bl b) st
  | .ne => som (pyEq st x y) fun b => Q (.bl (!b)) st
  | .lt => ∃ i j, x = .int i ∧ y = .int j ∧ Q (.bl (decide (i < j))) st
  | .le => ∃ i j, x = .int i ∧ y = .int j ∧ Q (.bl (decide (i ≤ j))) st
  | .gt => ∃ i j, x = .int i ∧ y = .int j ∧ Q (.bl (decide (j < i))) st
  | .ge => ∃ i j, x = .int i ∧ y = .int j ∧ Q (.bl (decide (j ≤ i))) st
  | .isn => (y = .non ∧ Q (.bl (isNon x)) st) ∨ ∃ a b, x = .bl a ∧ y = .bl b ∧ Q (.bl (decide (a = b))) st
  | .notn => (y = .non ∧ Q (.bl (!isNon x)) st) ∨ ∃ a b, x = .bl a ∧ y = .bl b ∧ Q (.bl (!decide (a = b))) st
  | .ins => (∃ n kvs k, y = .ref n ∧ st[n]? = some (.dct kvs) ∧ keyOf x = some k ∧ Q (.bl (getK kvs k).isSome) st) ∨ (∃ n kvs k, y = .ref n ∧ st[n]? = some (.dtt kvs) ∧ keyT x = some k ∧ Q (.bl (getK kvs k).isSome) st) ∨ ∃ i ys ns, x = .int i ∧ inSeq st y = some ys ∧ mapO inInt ys = some ns ∧ Q (.bl (decide (i ∈ ns))) st
  | .nins => (∃ n kvs k, y = .ref n ∧ st[n]? = some (.dct kvs) ∧ keyOf x = some k ∧ Q (.bl (!(getK kvs k).isSome)) st) ∨ (∃ n kvs k, y = .ref n ∧ st[n]? = some (.dtt kvs) ∧ keyT x = some k ∧ Q (.bl (!(getK kvs k).isSome)) st) ∨ ∃ i ys ns, x = .int i ∧ inSeq st y = some ys ∧ mapO inInt ys = some ns ∧ Q (.bl (!decide (i ∈ ns))) st
def truS (st : Store) : D → Option Bool
  | .non => some false
  | .bl b => some b
  | .int i => some (i != 0)
  | .tup xs => some (!xs.isEmpty)
  | .ktp xs => some (!xs.isEmpty)
  | .str _ => none
  | .ref n => match st[n]? with
    | some (.lst xs) => some (!xs.isEmpty)
    | some (.frz xs) => some (!xs.isEmpty)
    | some (.dct kvs) => some (!kvs.isEmpty)
    | some (.dtt _) => none
    | some (.ins _ _) => none
    | some (.lkd _) => none
    | some (.lkt _) => none
    | none => none
def idxS (st : Store) : D → D → Option D
  | .tup xs, .int i => atI xs i
  | .ktp xs, .int i => atI xs i
  | .ref n, k => match st[n]? with
    | some (.lst xs) => match k with
      | .int i => atI xs i
      | _ => none
    | some (.frz xs) => match k with
      | .int i => atI xs i
      | _ => none
    | some (.dct kvs) => match keyOf k with
      | some k => getK kvs k
      | none => none
    | some (.dtt kvs) => match keyT k with
      | some k => getK kvs k
      | none => none
    | some (.ins _ _) => none
    | some (.lkd kvs) => match keyOf k with
      | some k => getK kvs k
      | none => none
    | some (.lkt kvs) => match keyT k with
      | some k => getK kvs k
      | none => none
    | none => none
  | _, _ => none
def cut {α : Type} (xs : List α) (lo hi : Option Int) : List α := (xs.drop (HT.sIx xs.length 0 lo)).take (HT.sIx xs.length xs.length hi - HT.sIx xs.length 0 lo)
/-- a part of a slice: none where it is left out -/
def partS : Bool → D → Option (Option Int)
  | true, .int i => some (some i)
  | false, _ => some none
  | _, _ => none
def slcS (x : D) (lo hi : Option Int) (st : Store) (Q : K1) : Prop :=
  match x with
  | .tup xs => Q (.tup (cut xs lo hi)) st
  | .ref n => match st[n]? with
    | some (.lst xs) => Q (.ref st.length) (st ++ [.lst (cut xs lo hi)])
    | some (.frz xs) => Q (.ref st.length) (st ++ [.lst (cut xs lo hi)])
    | _ => False
  | _ => False
/-- the items of a list or tuple -/
def seqS (st : Store) : D → Option (List D)
  | .tup xs => some xs
  | .ktp xs => some xs
  | .ref n => match st[n]? with
    | some (.lst xs) => some xs
    | some (.frz xs) => some xs
    | _ => none
  | _ => none
/-- .. but no constant -/
def seqT (st : Store) : D → Option (List D)
  | .tup xs => some xs
  | .ref n => match st[n]? with
    | some (.lst xs) => some xs
    | some (.frz xs) => some xs
    | _ => none
  | _ => none
def listS (st : Store) : D → Option (List D)
  | .ref n => match st[n]? with
    | some (.lst xs) => some xs
    | some (.frz xs) => some xs
    | _ => none
  | _ => none
def asBl : D → Option Bool
  | .bl b => some b
  | _ => none
def asInt : D → Option Int
  | .int i => some i
  | _ => none
def ReprOk (p : PyData) : Prop := p.showable = true ∧ p.hasDict = false ∧ p.depth ≤ 32 ∧ p.shown.length ≤ sizeLine
/-- alike data: the most of them is one of them -/
def oneOf (xs : List D) (st : Store) (Q : K1) : Prop := ∃ x ys p ps, xs = [x] ∧ listS st x = some ys ∧ mapO (toPy st 31) ys = some (p :: ps) ∧ PySem.W.AlikeAll (p :: ps) ∧ PyData.depthAll (p :: ps) ≤ 60 ∧ ∀ d, d ∈ ys → Q d st
def bltS (b : Blt) (xs : List D) (st : Store) (Q : K1) : Prop :=
  match b with
  | .len => ∃ x, xs = [x] ∧ ((∃ ys, seqS st x = some ys ∧ Q (.int ys.length) st) ∨ ∃ n kvs, x = .ref n ∧ st[n]? = some (.dct kvs) ∧ Q (.int kvs.length) st)
  | .int => (∃ i, xs = [.int i] ∧ Q (.int i) st) ∨ ∃ k, xs = [.bl k] ∧ Q (.int (if k then 1 else 0)) st
  | .bool => (∃ i, xs = [.int i] ∧ Q (.bl (i != 0)) st) ∨ ∃ k, xs = [.bl k] ∧ Q (.bl k) st
  | .abs => ∃ i, xs = [.int i] ∧ Q (.int (if i < 0 then -i else i)) st
  | .max2 => ∃ i j, xs = [.int i, .int j] ∧ Q (.int (if j > i then j else i)) st
  | .min2 => ∃ i j, xs = [.int i, .int j] ∧ Q (.int (if j < i then j else i)) st
  | .repr => ∃ x p, xs = [x] ∧ toPy st 32 x = some p ∧ ReprOk p ∧ Q (.str p.shown) st
  | .tuple => ∃ x ys, xs = [x] ∧ seqT st x = some ys ∧ Q (.tup ys) st
  | .list => (∃ x ys, xs = [x] ∧ seqS st x = some ys ∧ Q (.ref st.length) (st ++ [.lst ys])) ∨ ∃ n kvs, xs = [.ref n] ∧ st[n]? = some (.dtt kvs) ∧ Q (.ref st.length) (st ++ [.lst (kvs.map fun kv => .tup (kv.1.map keyD))])
  | .sum => ∃ x ys ns, xs = [x] ∧ listS st x = some ys ∧ mapO asInt ys = some ns ∧ Q (.int ns.sum) st
  | .all => ∃ x ys bs, xs = [x] ∧ listS st x = some ys ∧ mapO asBl ys = some bs ∧ Q (.bl (bs.all id)) st
  | .any => ∃ x ys bs, xs = [x] ∧ listS st x = some ys ∧ mapO asBl ys = some bs ∧ Q (.bl (bs.any id)) st
  | .max1 => (∃ x ys ns, xs = [x] ∧ listS st x = some ys ∧ mapO asInt ys = some ns ∧ 0 < ns.length ∧ ∀ m, m ∈ ns → (∀ y, y ∈ ns → y ≤ m) → Q (.int m) st) ∨ oneOf xs st Q
  | .min1 => (∃ x ys ns, xs = [x] ∧ listS st x = some ys ∧ mapO asInt ys = some ns ∧ 0 < ns.length ∧ ∀ m, m ∈ ns → (∀ y, y ∈ ns → m ≤ y) → Q (.int m) st) ∨ oneOf xs st Q
  | .sorted => (∃ x ys ns, xs = [x] ∧ listS st x = some ys ∧ mapO asInt ys = some ns ∧ ∀ ns' : List Int, ns'.Perm ns → ns'.Pairwise (· ≤ ·) → Q (.ref st.length) (st ++ [.lst (ns'.map D.int)])) ∨
    (∃ x ys ps, xs = [x] ∧ listS st x = some ys ∧ mapO (toPy st 31) ys = some ps ∧ PySem.W.AllAlike ps ∧ PySem.W.Sortable ps ∧ (∀ p, p ∈ ps → p.depth ≤ 60) ∧
      (∀ zs : List (D × PyData), zs = (ys.zip ps).mergeSort (PySem.W.dataLe false Prod.snd) → Q (.ref st.length) (st ++ [.lst (zs.map Prod.fst)]))) ∨
    ∃ x ys, xs = [x] ∧ listS st x = some ys ∧ ys.length ≤ 1 ∧ Q (.ref st.length) (st ++ [.lst ys])
  | .range1 => False
  | .range2 => False
def mthS (m : Mth) (o : D) (xs : List D) (st : Store) (Q : K1) : Prop :=
  match m with
  | .append => ∃ n ys x, o = .ref n ∧ xs = [x] ∧ st[n]? = some (.lst ys) ∧ ys.length < sizeLine ∧ Q .non (st.set n (.lst (ys ++ [x])))
  | .pop => ∃ n ys y, o = .ref n ∧ xs = [] ∧ st[n]? = some (.lst ys) ∧ ys[ys.length - 1]? = some y ∧ Q y (st.set n (.lst ys.dropLast))
  | .popAt => ∃ n ys i k y, o = .ref n ∧ xs = [.int i] ∧ st[n]? = some (.lst ys) ∧ (-(2 ^ 63) ≤ i ∧ i < 2 ^ 63) ∧ seqIndex? i ys.length = some k ∧ ys[k]? = some y ∧ Q y (st.set n (.lst (ys.eraseIdx k)))
  | .extend => ∃ n ys m zs, o = .ref n ∧ xs = [.ref m] ∧ st[n]? = some (.lst ys) ∧ st[m]? = some (.lst zs) ∧ ys.length + zs.length ≤ sizeLine ∧ Q .non (st.set n (.lst (ys ++ zs)))
def tyOf (st : Store) : D → Option Ty
  | .non => some .non
  | .bl _ => some .bool
  | .int _ => some .int
  | .str _ => some .str
  | .ktp _ => some .tuple
  | .tup _ => some .tuple
  | .ref n => match st[n]? with
    | some (.lst _) => some .list
    | some (.frz _) => some .list
    | some (.dct _) => some .dict
    | some (.dtt _) => none
    | some (.ins _ _) => none
    | some (.lkd _) => none
    | some (.lkt _) => none
    | none => none
def isTy : Ty → Ty → Bool
  | .bool, .int => true
  | a, b => decide (a = b)
def stoS (x i v : D) (st : Store) (Q : Store → Prop) : Prop :=
  ∃ n, x = .ref n ∧ ((∃ xs k j, st[n]? = some (.lst xs) ∧ i = .int k ∧ ixN xs.length k = some j ∧ Q (st.set n (.lst (xs.set j v)))) ∨
    (∃ kvs k, st[n]? = some (.dct kvs) ∧ keyOf i = some k ∧ kvs.length < sizeLine ∧ Q (st.set n (.dct (putKD kvs k v)))) ∨
    ∃ kvs k, st[n]? = some (.dtt kvs) ∧ keyT i = some k ∧ kvs.length < sizeLine ∧ Q (st.set n (.dtt (putKD kvs k v))))
/-- an attribute -/
def fldS (st : Store) (x : D) (f : Str) : Option D := match x with
  | .ref n => match st[n]? with
    | some (.ins _ fs) => fs.lookup f
    | _ => none
  | _ => none
def sfdS (x : D) (f : Str) (v : D) (st : Store) (Q : Store → Prop) : Prop := ∃ n c fs, x = .ref n ∧ st[n]? = some (.ins c fs) ∧ f ∈ c.names ∧ fs.length < 1000 ∧ Q (st.set n (.ins c (putFD f v fs)))
/-- targets -/
def setTg : Tg → D → Env1 → Option Env1
  | .name i, d, ρ => some (ρ.set i (some d))
  | .nil, .tup [], ρ => some ρ
  | .cons t ts, .tup (d :: ds), ρ => match setTg t d ρ with
    | some ρ' => setTg ts (.tup ds) ρ'
    | none => none
  | .tup ts, .tup ds, ρ => setTg ts (.tup ds) ρ
  | _, _, _ => none
def Tg.vars : Tg → List Nat
  | .name i => [i]
  | .nil => []
  | .cons t ts => t.vars ++ ts.vars
  | .tup ts => ts.vars
def setPar : List Nat → List D → Env1 → Option Env1
  | [], [], ρ => some ρ
  | i :: is, d :: ds, ρ => setPar is ds (ρ.set i (some d))
  | _, _, _ => none
/-- what is walked -/
inductive Src where
  | seq (xs : List D)
  | live (n : Nat)
inductive ItD where
  | src (s : Src)
  | rng (lo c : Int) (n : Nat)
  | enum (s : Src)
  | zip (s t : Src)
  | keys (n : Nat)
  | vals (n : Nat)
  | items (n : Nat)
def Src.at (st : Store) : Src → Option (List D)
  | .seq xs => some xs
  | .live n => match st[n]? with
    | some (.lst xs) => some xs
    | some (.frz xs) => some xs
    | _ => none
def srcOf (st : Store) : D → Option Src
  | .tup xs => some (.seq xs)
  | .ktp xs => some (.seq xs)
  | .ref n => match st[n]? with
    | some (.lst _) => some (.live n)
    | some (.frz _) => some (.live n)
    | _ => none
  | _ => none
def zipAt (xs ys : List D) (i : Nat) : Option D := match xs[i]?, ys[i]? with
  | some x, some y => some (.tup [x, y])
  | _, _ => none
def ItD.step : ItD → Nat → Store → Option (Option D)
  | .src s, i, st => (s.at st).map fun xs => xs[i]?
  | .rng lo c n, i, _ => some (if i < n then some (.int (lo + i * c)) else none)
  | .enum s, i, st => (s.at st).map fun xs => (xs[i]?).map fun d => .tup [.int i, d]
  | .zip s t, i, st => match s.at st, t.at st with
    | some xs, some ys => some (zipAt xs ys i)
    | _, _ => none
  | .keys n, i, st => match st[n]? with
    | some (.lkd kvs) => some ((kvs[i]?).map fun kv => keyD kv.1)
    | some (.lkt kvs) => some ((kvs[i]?).map fun kv => .tup (kv.1.map keyD))
    | _ => none
  | .vals n, i, st => match st[n]? with
    | some (.lkd kvs) => some ((kvs[i]?).map fun kv => kv.2)
    | _ => none
  | .items n, i, st => match st[n]? with
    | some (.lkd kvs) => some ((kvs[i]?).map fun kv => .tup [keyD kv.1, kv.2])
    | _ => none
def small62 (i : Int) : Prop := -(2 ^ 62) ≤ i ∧ i < 2 ^ 62
instance (i : Int) : Decidable (small62 i) := inferInstanceAs (Decidable (_ ∧ _))
def itOf (k : Ik) (xs : List D) (st : Store) : Option ItD :=
  match k, xs with
  | .plain, [x] => (srcOf st x).map .src
  | .range1, [.int j] => if small62 j then some (.rng 0 1 j.toNat) else none
  | .range2, [.int i, .int j] => if small62 i ∧ small62 j then some (.rng i 1 (j - i).toNat) else none
  | .enum, [x] => (srcOf st x).map .enum
  | .zip, [x, y] => match srcOf st x, srcOf st y with
    | some (.seq xs), some (.seq ys) => some (.zip (.seq xs) (.seq ys))
    | some (.live n), some (.live m) => some (.zip (.live n) (.live m))
    | _, _ => none
  | .keys, [.ref n] => match st[n]? with
    | some (.lkd _) => some (.keys n)
    | some (.lkt _) => some (.keys n)
    | _ => none
  | .vals, [.ref n] => match st[n]? with
    | some (.lkd _) => some (.vals n)
    | _ => none
  | .items, [.ref n] => match st[n]? with
    | some (.lkd _) => some (.items n)
    | _ => none
  | _, _ => none
def wipeD (ρ : Env1) : List Nat → Env1
  | [] => ρ
  | v :: vs => (wipeD ρ vs).set v none
/-- a comprehension's turns -/
def lcLoop (step : Nat → Store → Option (Option D)) (bind : D → Option Env1) (wc we : Env1 → Store → K1 → Prop) (Q : K1) : Nat → Nat → List D → Store → Prop
  | 0, _, _, _ => False
  | n + 1, i, acc, st => match step i st with
    | none => False
    | some none => Q (.ref st.length) (st ++ [.lst acc])
    | some (some d) => som (bind d) fun ρ => wc ρ st fun b st1 => ∃ t, b = .bl t ∧
        if t = true then we ρ st1 fun y st2 => acc.length < sizeLine ∧ lcLoop step bind wc we Q n (i + 1) (acc ++ [y]) st2
        else lcLoop step bind wc we Q n (i + 1) acc st1
/-- the turns of a second clause; K: behind them -/
def lcIn (step : Nat → Store → Option (Option D)) (bind : D → Option Env1) (wc we : Env1 → Store → K1 → Prop) (K : List D → Store → Prop) : Nat → Nat → List D → Store → Prop
  | 0, _, _, _ => False
  | n + 1, i, acc, st => match step i st with
    | none => False
    | some none => K acc st
    | some (some d) => som (bind d) fun ρ => wc ρ st fun b st1 => ∃ t, b = .bl t ∧
        if t = true then we ρ st1 fun y st2 => acc.length < sizeLine ∧ lcIn step bind wc we K n (i + 1) (acc ++ [y]) st2
        else lcIn step bind wc we K n (i + 1) acc st1
/-- the turns of the first clause of two -/
def lc2Loop (step : Nat → Store → Option (Option D)) (bind : D → Option Env1) (wc : Env1 → Store → K1 → Prop) (inner : Env1 → List D → Store → (List D → Store → Prop) → Prop) (Q : K1) : Nat → Nat → List D → Store → Prop
  | 0, _, _, _ => False
  | n + 1, i, acc, st => match step i st with
    | none => False
    | some none => Q (.ref st.length) (st ++ [.lst acc])
    | some (some d) => som (bind d) fun ρ => wc ρ st fun b st1 => ∃ t, b = .bl t ∧
        if t = true then inner ρ acc st1 (lc2Loop step bind wc inner Q n (i + 1)) else lc2Loop step bind wc inner Q n (i + 1) acc st1
/-- the arguments by the parameters' order -/
def permL {α : Type} (xs : List α) : List Nat → Option (List α)
  | [] => some []
  | i :: r => match xs[i]?, permL xs r with
    | some x, some ys => some (x :: ys)
    | _, _ => none
def permN {α : Type} (n m : Nat) (xs zs : List α) (p : List Nat) : Option (List α) := if xs.length = n ∧ zs.length = m then permL (xs ++ zs) p else none

/-- [::-1] -/
def revS (x : D) (st : Store) (Q : K1) : Prop := match x with
  | .tup xs => Q (.tup xs.reverse) st
  | x => som (listS st x) fun xs => Q (.ref st.length) (st ++ [.lst xs.reverse])
/-- the pairs of two lists or tuples -/
def zipD (us ws : List D) : List D := (us.zip ws).map fun p => .tup [p.1, p.2]
def lzS (y : D) (st : Store) (Q : K1) : Prop := ∃ a b us ws, y = .tup [a, b] ∧ seqS st a = some us ∧ seqS st b = some ws ∧ Q (.ref st.length) (st ++ [.lst (zipD us ws)])
/-- how many unlike numbers a tuple has -/
def lnsS (y : D) (st : Store) (Q : K1) : Prop := ∃ xs ns, y = .tup [.tup xs] ∧ mapO asInt xs = some ns ∧ ns.length ≤ 1000 ∧ ∀ out : List Int, out.Nodup → (∀ k, k ∈ out ↔ k ∈ ns) → Q (.int out.length) st
/-- d.get(k, x) -/
def IsDt (st : Store) (x : D) : Prop := ∃ n, x = .ref n ∧ ((∃ kvs, st[n]? = some (.dct kvs)) ∨ ∃ kvs, st[n]? = some (.dtt kvs))
def dgetS (x y z : D) (st : Store) (Q : K1) : Prop := ∃ n, x = .ref n ∧ ((∃ kvs k, st[n]? = some (.dct kvs) ∧ keyOf y = some k ∧ Q ((getK kvs k).getD z) st) ∨ ∃ kvs k, st[n]? = some (.dtt kvs) ∧ keyT y = some k ∧ Q ((getK kvs k).getD z) st)
/-- the dict n locked -/
def lckS (n : Nat) (st : Store) (go : Store → (Store → (Store → Prop) → Prop) → Prop) : Prop :=
  (∃ kvs, st[n]? = some (.dct kvs) ∧ go (st.set n (.lkd kvs)) fun st' q => st'[n]? = some (.lkd kvs) ∧ q (st'.set n (.dct kvs))) ∨
  ∃ kvs, st[n]? = some (.dtt kvs) ∧ go (st.set n (.lkt kvs)) fun st' q => st'[n]? = some (.lkt kvs) ∧ q (st'.set n (.dtt kvs))
/-! ## what a code does -/
def wp (F : Fm) : C → Env1 → Store → K1 → Prop
  | .var i, ρ, st, Q => ∃ d, ρ[i]? = some (some d) ∧ Q d st
  | .cst d, _, st, Q => Q d st
  | .nil, _, st, Q => Q (.tup []) st
  | .cons a as, ρ, st, Q => wp F a ρ st fun x st1 => wp F as ρ st1 fun y st2 => ∃ xs, y = .tup xs ∧ Q (.tup (x :: xs)) st2
  | .tup as, ρ, st, Q => wp F as ρ st fun y st1 => ∃ xs, y = .tup xs ∧ xs.length ≤ sizeLine ∧ Q (.tup xs) st1
  | .lst as, ρ, st, Q => wp F as ρ st fun y st1 => ∃ xs, y = .tup xs ∧ xs.length ≤ sizeLine ∧ Q (.ref st1.length) (st1 ++ [.lst xs])
  | .bin o a b, ρ, st, Q => wp F a ρ st fun x st1 => wp F b ρ st1 fun y st2 => binS o x y st2 Q
  | .neg a, ρ, st, Q => wp F a ρ st fun x st1 => ∃ i, x = .int i ∧ Q (.int (-i)) st1
  | .cmp o a b, ρ, st, Q => wp F a ρ st fun x st1 => wp F b ρ st1 fun y st2 => cmpS o x y st2 Q
  | .chain o o2 a b c, ρ, st, Q => wp F a ρ st fun x st1 => wp F b ρ st1 fun y st2 => cmpS o x y st2 fun z st3 => ∃ t, z = .bl t ∧
      if t = true then wp F c ρ st3 fun w st4 => cmpS o2 y w st4 Q else Q (.bl false) st3
  | .chain3 o o2 o3 a b c d, ρ, st, Q => wp F a ρ st fun x st1 => wp F b ρ st1 fun y st2 => cmpS o x y st2 fun z st3 => ∃ t, z = .bl t ∧
      if t = true then wp F c ρ st3 (fun w st4 => cmpS o2 y w st4 fun z st5 => ∃ t, z = .bl t ∧ if t = true then wp F d ρ st5 fun v st6 => cmpS o3 w v st6 Q else Q (.bl false) st5) else Q (.bl false) st3
  | .and a b, ρ, st, Q => wp F a ρ st fun x st1 => som (truS st1 x) fun t => if t = true then wp F b ρ st1 Q else Q x st1
  | .or a b, ρ, st, Q => wp F a ρ st fun x st1 => som (truS st1 x) fun t => if t = true then Q x st1 else wp F b ρ st1 Q
  | .tval a, ρ, st, Q => wp F a ρ st fun x st1 => som (truS st1 x) fun t => Q (.bl t) st1
  | .tand a b, ρ, st, Q => wp F a ρ st fun x st1 => ∃ t, x = .bl t ∧ if t = true then wp F b ρ st1 Q else Q (.bl false) st1
  | .tor a b, ρ, st, Q => wp F a ρ st fun x st1 => ∃ t, x = .bl t ∧ if t = true then Q (.bl true) st1 else wp F b ρ st1 Q
  | .tnot a, ρ, st, Q => wp F a ρ st fun x st1 => ∃ t, x = .bl t ∧ Q (.bl (!t)) st1
  | .ite c a b, ρ, st, Q => wp F c ρ st fun x st1 => ∃ t, x = .bl t ∧ if t = true then wp F a ρ st1 Q else wp F b ρ st1 Q
  | .idx a b, ρ, st, Q => wp F a ρ st fun x st1 => wp F b ρ st1 fun y st2 => som (idxS st2 x y) fun z => Q z st2
  | .slc fl fh a lo hi, ρ, st, Q => wp F a ρ st fun x st1 => wp F lo ρ st1 fun l st2 => som (partS fl l) fun l => wp F hi ρ st2 fun h st3 => som (partS fh h) fun h => slcS x l h st3 Q
  | .revL a, ρ, st, Q => wp F a ρ st fun x st1 => revS x st1 Q
  | .lz as, ρ, st, Q => wp F as ρ st fun y st1 => lzS y st1 Q
  | .dnw, _, st, Q => Q (.ref st.length) (st ++ [.dct []]) ∨ Q (.ref st.length) (st ++ [.dtt []])
  | .dget o k d, ρ, st, Q => wp F o ρ st fun x st1 => IsDt st1 x ∧ wp F k ρ st1 fun y st2 => wp F d ρ st2 fun z st3 => dgetS x y z st3 Q
  | .lns as, ρ, st, Q => wp F as ρ st fun y st1 => lnsS y st1 Q
  | .cmb as, ρ, st, Q => wp F as ρ st fun y st1 => ∃ a b : Int, y = .tup [.int a, .int b] ∧ 0 ≤ a ∧ 0 ≤ b ∧ a ≤ 9000 ∧ Q (.int (PySem.W.mcComb a b)) st1
  | .call f n m perm as kw, ρ, st, Q => wp F as ρ st fun y st1 => ∃ xs, y = .tup xs ∧ wp F kw ρ st1 fun z st2 => ∃ zs, z = .tup zs ∧ som (permN n m xs zs perm) fun ys => F f ys st2 Q
  | .blt b as, ρ, st, Q => wp F as ρ st fun y st1 => ∃ xs, y = .tup xs ∧ bltS b xs st1 Q
  | .mth m o as, ρ, st, Q => wp F o ρ st fun x st1 => som (listS st1 x) fun _ => wp F as ρ st1 fun y st2 => ∃ xs, y = .tup xs ∧ mthS m x xs st2 Q
  | .isi a ts, ρ, st, Q => wp F a ρ st fun x st1 => som (tyOf st1 x) fun t => Q (.bl (ts.any fun u => isTy t u)) st1
  | .lc own tg k as c e, ρ, st, Q => wp F as ρ st fun y st1 => ∃ xs, y = .tup xs ∧ som (itOf k xs st1) fun it =>
      ∃ n, lcLoop it.step (fun d => setTg tg d (wipeD ρ own)) (wp F c) (wp F e) Q n 0 [] st1
  | .dsp ks as, ρ, st, Q => wp F as ρ st fun y st1 => ∃ xs, y = .tup xs ∧ Q (.ref st1.length) (st1 ++ [.dct (ks.zip xs)])
  | .fld a f, ρ, st, Q => wp F a ρ st fun x st1 => som (fldS st1 x f) fun v => Q v st1
  | .mcl c m f n o as, ρ, st, Q => wp F o ρ st fun x st1 => (∃ i fs, x = .ref i ∧ st1[i]? = some (.ins c fs)) ∧ wp F as ρ st1 fun y st2 => ∃ xs, y = .tup xs ∧ xs.length = n ∧ F f (x :: xs) st2 Q
  | .mk c f n as, ρ, st, Q => wp F as ρ st fun y st1 => ∃ xs, y = .tup xs ∧ xs.length = n ∧ F f (.ref st1.length :: xs) (st1 ++ [.ins c []]) fun v st2 => v = .non ∧ Q (.ref st1.length) st2
  | .lc2 own vs1 tg k as c tg1 k1 as1 c1 e, ρ, st, Q => wp F as ρ st fun y st1 => ∃ xs, y = .tup xs ∧ som (itOf k xs st1) fun it =>
      ∃ n, lc2Loop it.step (fun d => setTg tg d (wipeD ρ own)) (wp F c) (fun ρ1 acc st2 K => wp F as1 ρ1 st2 fun y st3 => ∃ xs, y = .tup xs ∧ som (itOf k1 xs st3) fun it1 =>
        ∃ n, lcIn it1.step (fun d => setTg tg1 d (wipeD ρ1 vs1)) (wp F c1) (wp F e) K n 0 acc st3) Q n 0 [] st1
  | .lck i c, ρ, st, Q => ∃ n, ρ[i]? = some (some (.ref n)) ∧ lckS n st fun st1 un => wp F c ρ st1 fun v st2 => un st2 (Q v)

structure EndsD where
  nx : Env1 → Store → Prop
  rt : K1
  bk : Env1 → Store → Prop := fun _ _ => False
  ct : Env1 → Store → Prop := fun _ _ => False
def forLoop (step : Nat → Store → Option (Option D)) (bind : D → Env1 → Option Env1) (wb : Env1 → Store → EndsD → Prop) (E : EndsD) : Nat → Nat → Env1 → Store → Prop
  | 0, _, _, _ => False
  | n + 1, i, ρ, st => match step i st with
    | none => False
    | some none => E.nx ρ st
    | some (some d) => som (bind d ρ) fun ρ1 => wb ρ1 st { nx := forLoop step bind wb E n (i + 1), rt := E.rt, bk := E.nx, ct := forLoop step bind wb E n (i + 1) }
def whileLoop (wc : Env1 → Store → K1 → Prop) (wb : Env1 → Store → EndsD → Prop) (E : EndsD) : Nat → Env1 → Store → Prop
  | 0, _, _ => False
  | n + 1, ρ, st => wc ρ st fun x st1 => ∃ t, x = .bl t ∧ if t = true then wb ρ st1 { nx := whileLoop wc wb E n, rt := E.rt, bk := E.nx, ct := whileLoop wc wb E n } else E.nx ρ st1
def wps (F : Fm) : S → Env1 → Store → EndsD → Prop
  | .done, ρ, st, E => E.nx ρ st
  | .seq a r, ρ, st, E => wps F a ρ st { E with nx := fun ρ1 st1 => wps F r ρ1 st1 E }
  | .asg t e, ρ, st, E => wp F e ρ st fun x st1 => som (setTg t x ρ) fun ρ1 => E.nx ρ1 st1
  | .par is as, ρ, st, E => wp F as ρ st fun y st1 => ∃ xs, y = .tup xs ∧ som (setPar is xs ρ) fun ρ1 => E.nx ρ1 st1
  | .sto e a i, ρ, st, E => wp F e ρ st fun v st1 => wp F a ρ st1 fun x st2 => wp F i ρ st2 fun k st3 => stoS x k v st3 fun st4 => E.nx ρ st4
  | .sto2 e a i b j, ρ, st, E => wp F e ρ st fun y st1 => ∃ v w, y = .tup [v, w] ∧ wp F a ρ st1 fun x st2 => wp F i ρ st2 fun k st3 => stoS x k v st3 fun st4 => wp F b ρ st4 fun x' st5 => wp F j ρ st5 fun k' st6 => stoS x' k' w st6 fun st7 => E.nx ρ st7
  | .aug i o e, ρ, st, E => ∃ x, ρ[i]? = some (some x) ∧ wp F e ρ st fun y st1 => ∃ a b, x = .int a ∧ y = .int b ∧ binS o x y st1 fun z st2 => E.nx (ρ.set i (some z)) st2
  | .sfd e a f, ρ, st, E => wp F e ρ st fun v st1 => wp F a ρ st1 fun x st2 => sfdS x f v st2 fun st3 => E.nx ρ st3
  | .afd a f o e, ρ, st, E => wp F a ρ st fun x st1 => ∃ n c fs v, x = .ref n ∧ st1[n]? = some (.ins c fs) ∧ fs.lookup f = some v ∧ wp F e ρ st1 fun y st2 => ∃ i j, v = .int i ∧ y = .int j ∧ binS o v y st2 fun z st3 => ∃ fs', st3[n]? = some (.ins c fs') ∧ f ∈ c.names ∧ fs'.length < 1000 ∧ E.nx ρ (st3.set n (.ins c (putFD f z fs')))
  | .expr e, ρ, st, E => wp F e ρ st fun _ st1 => E.nx ρ st1
  | .ret e, ρ, st, E => wp F e ρ st E.rt
  | .retN, _, st, E => E.rt .non st
  | .ite c a b, ρ, st, E => wp F c ρ st fun x st1 => ∃ t, x = .bl t ∧ if t = true then wps F a ρ st1 E else wps F b ρ st1 E
  | .loop t k as b, ρ, st, E => wp F as ρ st fun y st1 => ∃ xs, y = .tup xs ∧ som (itOf k xs st1) fun it =>
      ∃ n, forLoop it.step (fun d ρ => setTg t d ρ) (wps F b) E n 0 ρ st1
  | .whil c b, ρ, st, E => ∃ n, whileLoop (wp F c) (wps F b) E n ρ st
  | .brk, ρ, st, E => E.bk ρ st
  | .cont, ρ, st, E => E.ct ρ st
  | .pass, ρ, st, E => E.nx ρ st
  | .never, _, _, _ => False
  | .lck i s, ρ, st, E => ∃ n, ρ[i]? = some (some (.ref n)) ∧ lckS n st fun st1 un => wps F s ρ st1 ⟨fun ρ2 st2 => un st2 (E.nx ρ2), fun v st2 => un st2 (E.rt v), fun ρ2 st2 => un st2 (E.bk ρ2), fun ρ2 st2 => un st2 (E.ct ρ2)⟩
/-- the defs: how many names, the body -/
structure Fd where
  ps : Nat
  n : Nat
  body : S
def startD (n : Nat) (xs : List D) : Env1 := xs.map some ++ List.replicate (n - xs.length) none
def Run (T : Nat → Option Fd) : Nat → Fm
  | 0, _, _, _, _ => False
  | k + 1, f, xs, st, Q => som (T f) fun fd => xs.length = fd.ps ∧ wps (Run T k) fd.body (startD fd.n xs) st { nx := fun _ st1 => Q .non st1, rt := Q }
end Cb

namespace Cb
open PySem PySem.Spec PyProof.Rows L2

/-! ## the readings -/
section
variable (K : PySem.W.Frag) (F : Fm)
/-- what follows, in the heap's words -/
def Post (ι : List Addr) (H : Hp) (Q : K1) (R : VK) : Prop := ∀ v H' ι' d st', ι <+: ι' → Keep ι ι' H H' → DR K ι' H' d v → StR K ι' H' st' → Q d st' → R v H'
def PostT (ι : List Addr) (H : Hp) (Q : K1) (R : Bool → Hp → Prop) : Prop := ∀ b H' ι' st', ι <+: ι' → Keep ι ι' H H' → StR K ι' H' st' → Q (.bl b) st' → R b H'
def PostA (ι : List Addr) (H : Hp) (Q : K1) (R : List V → Hp → Prop) : Prop := ∀ vs H' ι' ds st', ι <+: ι' → Keep ι ι' H H' → DRs K ι' H' ds vs → StR K ι' H' st' → Q (.tup ds) st' → R vs H'
/-- a code's reading as an expression; as a test; as arguments -/
def TD (c : C) : TE := fun σ H R => ∃ ι ρ st Q, EnvR K ι H σ ρ ∧ StR K ι H st ∧ wp F c ρ st Q ∧ Post K ι H Q R
def TT' (c : C) : TT := fun σ H R => ∃ ι ρ st Q, EnvR K ι H σ ρ ∧ StR K ι H st ∧ wp F c ρ st Q ∧ PostT K ι H Q R
def TDA (c : C) : TA := fun σ H R => ∃ ι ρ st Q, EnvR K ι H σ ρ ∧ StR K ι H st ∧ wp F c ρ st Q ∧ PostA K ι H Q R
/-- by values -/
def TV (f : D → Store → K1 → Prop) : V → Hp → VK → Prop := fun x H R => ∃ ι d st Q, StR K ι H st ∧ DR K ι H d x ∧ f d st Q ∧ Post K ι H Q R
def TV2 (f : D → D → Store → K1 → Prop) : R2 := fun x y H R => ∃ ι d e st Q, StR K ι H st ∧ DR K ι H d x ∧ DR K ι H e y ∧ f d e st Q ∧ Post K ι H Q R
def TVs (f : List D → Store → K1 → Prop) : List V → Hp → VK → Prop := fun xs H R => ∃ ι ds st Q, StR K ι H st ∧ DRs K ι H ds xs ∧ f ds st Q ∧ Post K ι H Q R
end
section
variable {K : PySem.W.Frag} {F : Fm} {ι ι1 : List Addr} {H H1 : Hp} {Q : K1} {R : VK}
theorem Post.shift (p : Post K ι H Q R) (h : ι <+: ι1) (k : Keep ι ι1 H H1) : Post K ι1 H1 Q R :=
  fun v H' ι' d st' h' k' => p v H' ι' d st' (h.trans h') (k.trans k')
theorem PostT.shift {R : Bool → Hp → Prop} (p : PostT K ι H Q R) (h : ι <+: ι1) (k : Keep ι ι1 H H1) : PostT K ι1 H1 Q R :=
  fun v H' ι' st' h' k' => p v H' ι' st' (h.trans h') (k.trans k')
theorem PostA.shift {R : List V → Hp → Prop} (p : PostA K ι H Q R) (h : ι <+: ι1) (k : Keep ι ι1 H H1) : PostA K ι1 H1 Q R :=
  fun v H' ι' d st' h' k' => p v H' ι' d st' (h.trans h') (k.trans k')
/-- the end of a road: a value, nothing changed -/
theorem Post.fin (p : Post K ι H Q R) {d : D} {v : V} {st : Store} (hd : DR K ι H d v) (hs : StR K ι H st) (q : Q d st) : R v H := p v H ι d st (List.prefix_refl _) (.refl H) hd hs q
/-- a new tuple -/
theorem Post.tup (p : Post K ι H Q R) {ds : List D} {vs : List V} {st : Store} (hd : DRs K ι H ds vs) (hs : StR K ι H st) (q : Q (.tup ds) st) : ∀ a, H a = none → R (.ref a) (upd H a (.tup vs)) := fun a ha =>
  p _ _ ι (.tup ds) st (List.prefix_refl _) (.new1 ha) (.tup upd_same (hd.mono (List.prefix_refl _) (.new ha))) (hs.newTup ha) q
theorem cellR_lst {a : Addr} {ds : List D} {vs : List V} (h : H a = some (.lst vs)) (d : DRs K ι H ds vs) : CellR K ι H a (.lst ds) := ⟨vs, h, d⟩
/-- a new list -/
theorem Post.lst (p : Post K ι H Q R) {ds : List D} {vs : List V} {st : Store} (hd : DRs K ι H ds vs) (hs : StR K ι H st) (q : Q (.ref st.length) (st ++ [.lst ds])) : ∀ a, H a = none → R (.ref a) (upd H a (.lst vs)) := fun a ha =>
  p _ _ (ι ++ [a]) (.ref st.length) _ (List.prefix_append _ _) (.newC ha) (.last hs) (hs.newCell ha (cellR_lst upd_same (hd.mono (List.prefix_append _ _) (.new ha)))) q
/-- a list changed -/
theorem lst_put {st : Store} {n : Nat} {a : Addr} {es : List D} {vs ws : List V} (hs : StR K ι H st) (hn : ι[n]? = some a) (ha : H a = some (.lst vs)) (hd : DRs K ι H es ws) : Keep ι ι H (upd H a (.lst ws)) ∧ StR K ι (upd H a (.lst ws)) (st.set n (.lst es)) := by
  have k : Keep ι ι H (upd H a (.lst ws)) := .upd (List.mem_of_getElem? hn) ha (fun _ h => by cases h) fun _ _ h => by cases h
  exact ⟨k, hs.put hn k (cellR_lst upd_same (hd.mono (List.prefix_refl _) k))⟩
theorem _root_.L2.PE.weak {X : Cx} {e : Expr} {t t' : TE} (h : PE X e t) (w : ∀ σ H Q, t' σ H Q → t σ H Q) : PE X e t' := ⟨fun pins s σ H Q I q => h.run pins s σ H Q I (w _ _ _ q)⟩
theorem _root_.L2.PT.weak {X : Cx} {e : Expr} {t t' : TT} (h : PT X e t) (w : ∀ σ H Q, t' σ H Q → t σ H Q) : PT X e t' := ⟨fun pins s σ H Q I q => h.run pins s σ H Q I (w _ _ _ q)⟩
theorem _root_.L2.PA.weak {X : Cx} {e : List Expr} {t t' : TA} (h : PA X e t) (w : ∀ σ H Q, t' σ H Q → t σ H Q) : PA X e t' := ⟨fun pos pins s σ H Q I q => h.run pos pins s σ H Q I (w _ _ _ q)⟩
theorem _root_.L2.PS.weak {X : Cx} {e : Stmt} {t t' : TS} (h : PS X e t) (w : ∀ D σ H, t' D σ H → t D σ H) : PS X e t' := ⟨fun pins s σ H D I q => h.run pins s σ H D I (w _ _ _ q)⟩
theorem _root_.L2.PSs.weak {X : Cx} {e : List Stmt} {t t' : TS} (h : PSs X e t) (w : ∀ D σ H, t' D σ H → t D σ H) : PSs X e t' := ⟨fun pins s σ H D I q => h.run pins s σ H D I (w _ _ _ q)⟩
/-- one after the other -/
theorem TD.go {c : C} {ρ : Env1} {st : Store} {σ : L2.St} (e : EnvR K ι H σ ρ) (s : StR K ι H st) {Q' : K1} (w : wp F c ρ st Q')
    (k : ∀ v H' ι' d st', ι <+: ι' → Keep ι ι' H H' → EnvR K ι' H' σ ρ → DR K ι' H' d v → StR K ι' H' st' → Q' d st' → R v H') : TD K F c σ H R :=
  ⟨ι, ρ, st, Q', e, s, w, fun v H' ι' d st' h1 h2 h3 h4 q => k v H' ι' d st' h1 h2 (e.mono h1 h2) h3 h4 q⟩
theorem TT'.go {R : Bool → Hp → Prop} {c : C} {ρ : Env1} {st : Store} {σ : L2.St} (e : EnvR K ι H σ ρ) (s : StR K ι H st) {Q' : K1} (w : wp F c ρ st Q')
    (k : ∀ b H' ι' st', ι <+: ι' → Keep ι ι' H H' → EnvR K ι' H' σ ρ → StR K ι' H' st' → Q' (.bl b) st' → R b H') : TT' K F c σ H R :=
  ⟨ι, ρ, st, Q', e, s, w, fun v H' ι' st' h1 h2 h4 q => k v H' ι' st' h1 h2 (e.mono h1 h2) h4 q⟩
theorem TDA.go {R : List V → Hp → Prop} {c : C} {ρ : Env1} {st : Store} {σ : L2.St} (e : EnvR K ι H σ ρ) (s : StR K ι H st) {Q' : K1} (w : wp F c ρ st Q')
    (k : ∀ v H' ι' d st', ι <+: ι' → Keep ι ι' H H' → EnvR K ι' H' σ ρ → DRs K ι' H' d v → StR K ι' H' st' → Q' (.tup d) st' → R v H') : TDA K F c σ H R :=
  ⟨ι, ρ, st, Q', e, s, w, fun v H' ι' d st' h1 h2 h3 h4 q => k v H' ι' d st' h1 h2 (e.mono h1 h2) h3 h4 q⟩
end

/-! ## names, constants, displays -/
section
variable {X : Cx} {F : Fm} {a b c e : Expr} {es : List Expr} {ca cb cc ce : C} {pos : Pos}
theorem d_var {i : Nat} {x : Str} (hN : X.N[i]? = some x) (hv : Vis X.env.scope x) (hd : (x == ("__debug__" : Str)) = false) (hcd : (x == ("__classdict__" : Str)) = false) : PE X (.Name x pos) (TD X.K F (.var i)) :=
  (pe_var hN hv hd hcd).weak fun σ H R ⟨ι, ρ, st, Q, e, s, ⟨d, h, q⟩, p⟩ => by
    obtain ⟨v, h1, h2⟩ := e.get i d h
    exact ⟨v, h1, p.fin h2 s q⟩
theorem d_int {i : Int} {j : Nat} : PE X (.Constant (.int i) j pos) (TD X.K F (.cst (.int i))) := pe_int.weak fun σ H R ⟨ι, ρ, st, Q, e, s, q, p⟩ => p.fin (.int i) s q
theorem d_bl {i : Bool} {j : Nat} : PE X (.Constant (.bool i) j pos) (TD X.K F (.cst (.bl i))) := pe_bl.weak fun σ H R ⟨ι, ρ, st, Q, e, s, q, p⟩ => p.fin (.bl i) s q
theorem d_non {j : Nat} : PE X (.Constant .none j pos) (TD X.K F (.cst .non)) := pe_non.weak fun σ H R ⟨ι, ρ, st, Q, e, s, q, p⟩ => p.fin .non s q
theorem d_str {i : Str} {j : Nat} : PE X (.Constant (.str i) j pos) (TD X.K F (.cst (.str i))) := pe_str.weak fun σ H R ⟨ι, ρ, st, Q, e, s, q, p⟩ => p.fin (.str i) s q
/-- a module's constant -/
theorem d_glob {x : Str} {v : V} {u : Value} {d : D} (hg : Gl X x) (hm : X.mg x = some u) (r : RelV v u) (hd : ∀ H, DR X.K [] H d v) (hdb : (x == ("__debug__" : Str)) = false) : PE X (.Name x pos) (TD X.K F (.cst d)) :=
  (pe_glob hg hm r hdb).weak fun σ H R ⟨ι, ρ, st, Q, e, s, q, p⟩ => p.fin ((hd H).mono (List.nil_prefix) (KeepT.refl H)) s q
theorem a_nil : PA X [] (TDA X.K F .nil) := pa_nil.weak fun σ H R ⟨ι, ρ, st, Q, e, s, q, p⟩ => p [] H ι [] st (List.prefix_refl _) (.refl H) .nil s q
theorem a_cons (ha : PE X a (TD X.K F ca)) (hr : PA X es (TDA X.K F ce)) (hs : starEach (a :: es) X.env = (false, eval a X.env) :: starEach es X.env) : PA X (a :: es) (TDA X.K F (.cons ca ce)) :=
  (pa_cons ha hr hs).weak fun σ H R ⟨ι, ρ, st, Q, e, s, q, p⟩ => .go e s q fun v H1 ι1 d st1 h1 k1 e1 d1 s1 q1 =>
    .go e1 s1 q1 fun vs H2 ι2 ds st2 h2 k2 e2 d2 s2 q2 => by
      obtain ⟨xs, e3, q3⟩ := q2
      cases e3
      exact p (v :: vs) H2 ι2 (d :: ds) st2 (h1.trans h2) (k1.trans k2) (.cons (d1.mono h2 k2) d2) s2 q3
theorem d_tup {j : Nat} (ha : PA X es (TDA X.K F ca)) : PE X (.Tuple es j pos) (TD X.K F (.tup ca)) :=
  (pe_tup ha).weak fun σ H R ⟨ι, ρ, st, Q, e, s, q, p⟩ => .go e s q fun vs H1 ι1 ds st1 h1 k1 e1 d1 s1 q1 => by
    obtain ⟨xs, e2, hl, q2⟩ := q1
    cases e2
    exact ⟨by rw [← d1.len]; exact hl, (p.shift h1 k1).tup d1 s1 q2⟩
theorem d_lst (ha : PA X es (TDA X.K F ca)) : PE X (.List es pos) (TD X.K F (.lst ca)) :=
  (pe_lst ha).weak fun σ H R ⟨ι, ρ, st, Q, e, s, q, p⟩ => .go e s q fun vs H1 ι1 ds st1 h1 k1 e1 d1 s1 q1 => by
    obtain ⟨xs, e2, hl, q2⟩ := q1
    cases e2
    exact ⟨by rw [← d1.len]; exact hl, (p.shift h1 k1).lst d1 s1 q2⟩

/-! ## operators -/
def bopOf : Operator → Option Bop
  | .Add => some .add | .Sub => some .sub | .Mult => some .mul | .FloorDiv => some .fdiv | .Mod => some .mod | .Pow => some .pow
  | .LShift => some .shl | .RShift => some .shr | .BitAnd => some .band | .BitOr => some .bor | .BitXor => some .bxor
  | _ => none
theorem op_mulG : OpR X (binaryOp .Mult) (rI IntMulOk fun i j => .int (i * j)) := opI fun _ _ _ _ _ _ _ hc q => mul_int q hc
theorem op_fdivG : OpR X (binaryOp .FloorDiv) (rI DivOk fun i j => .int (i / j)) := opI fun i j _ _ _ _ _ hc q => by
  have h1 : (0 : Int) < j := hc.1
  refine floordiv_int (by omega) ?_ (.inl hc.2)
  rw [Int.fdiv_eq_ediv_of_nonneg _ (by omega)]
  exact q
theorem cell_lst {K : PySem.W.Frag} {ι : List Addr} {H : Hp} {st : Store} (s : StR K ι H st) {n : Nat} {a : Addr} {xs : List D} (h : ι[n]? = some a) (e : st[n]? = some (.lst xs)) : ∃ vs, H a = some (.lst vs) ∧ DRs K ι H xs vs := s.at e h
end
end Cb

namespace Cb
open PySem PySem.Spec PyProof.Rows L2
/-! ## tuple * int, few times -/
theorem tuple_mul1 (l : Addr) (items : Array Value) (n : Nat) (dd : Option Addr) (sl : Array (Option Value)) (x : Int) (u : Tok) (c0 : (decide (x < -(2 ^ 63)) || decide (x ≥ 2 ^ 63)) = false) (c1 : (items.isEmpty || x == 1) = true) :
    Meets (Builtin.«tuple.__mul__» ⟨[.ref l, .int x u], []⟩) (fun _ R s => s.heap.get? l = some { cls := .type "tuple", dict := dd, data := .seq items n, slots := sl } ∧ R (.ok (.ret (Value.ref l))) s) :=
  .of_wp fun prog w A R s h => by
    obtain ⟨hp, g, d, tk, os⟩ := s
    obtain ⟨hl, h⟩ := h
    have f1 := AutoSeq1.idx_int
    wp_walk using wpAny_loadPart' hl
    repeat (first
      | (refine wpAny_ite_false (decide_eq_false (by rw [c0]; exact Bool.false_ne_true)) ?_; wp_walk using wpAny_loadPart' hl)
      | (refine wpAny_ite_true (decide_eq_true c1) ?_; wp_walk using wpAny_loadPart' hl))
    exact ⟨_, rfl, h⟩
theorem tuple_mul0 (l : Addr) (items : Array Value) (n : Nat) (dd : Option Addr) (sl : Array (Option Value)) (x : Int) (u : Tok) (c0 : (decide (x < -(2 ^ 63)) || decide (x ≥ 2 ^ 63)) = false) (c1 : (items.isEmpty || x == 1) = false) (c2 : (decide (x ≤ 0) || items.isEmpty) = true) :
    Meets (Builtin.«tuple.__mul__» ⟨[.ref l, .int x u], []⟩) (fun _ R s => s.heap.get? l = some { cls := .type "tuple", dict := dd, data := .seq items n, slots := sl } ∧ R (.ok (.ret (Value.ref s.heap.objs.size))) { s with heap := s.heap.push { cls := Value.type "tuple", data := Data.seq #[] }, toks := s.toks }) :=
  .of_wp fun prog w A R s h => by
    obtain ⟨hp, g, d, tk, os⟩ := s
    obtain ⟨hl, h⟩ := h
    have f1 := AutoSeq1.idx_int
    wp_walk using wpAny_loadPart' hl
    repeat (first
      | (refine wpAny_ite_false (decide_eq_false (by rw [c0]; exact Bool.false_ne_true)) ?_; wp_walk using wpAny_loadPart' hl)
      | (refine wpAny_ite_false (decide_eq_false (by rw [c1]; exact Bool.false_ne_true)) ?_; wp_walk using wpAny_loadPart' hl)
      | (refine wpAny_ite_true (decide_eq_true c2) ?_; wp_walk using wpAny_loadPart' hl))
    exact ⟨_, rfl, h⟩

def rRepA (K : PySem.W.Frag) : R2 := fun x y H Q => ∃ l k xs, x = .ref l ∧ y = .int k ∧ SqT K H l xs ∧ 0 ≤ k ∧ k ≤ 1000 ∧ xs.length ≤ 1000 ∧
  ((xs = [] ∨ k = 1) → Q (.ref l) H) ∧ (xs ≠ [] → k = 0 → ∀ p, H p = none → Q (.ref p) (upd H p (.tup []))) ∧ (xs ≠ [] → 2 ≤ k → ∀ p, H p = none → Q (.ref p) (upd H p (.tup (List.replicate k.toNat xs).flatten)))
theorem op_repA {X : Cx} : OpR X (binaryOp .Mult) (rRepA X.K) := by
  intro pins s σ H x y v u Q I rx ry h
  obtain ⟨l, k, xs, rfl, rfl, hT, h0, h2, hz, q1, q2, q3⟩ := h
  by_cases hbig : xs ≠ [] ∧ 2 ≤ k
  · exact op_repT pins s σ H _ _ v u Q I rx ry ⟨l, k, xs, rfl, rfl, hT, hbig.1, hbig.2, h2, hz, q3 hbig.1 hbig.2⟩
  cases rx
  obtain ⟨t, rfl⟩ := ry
  obtain ⟨its, r, ⟨⟨cls, dd, data, sl⟩, ho, hc, n, hd⟩, hs⟩ := I.tuple hT
  simp only at hc hd
  subst hc hd
  have hle : its.length = xs.length := r.length.symm
  have c0 : (decide (k < -(2 ^ 63)) || decide (k ≥ 2 ^ 63)) = false := by
    rw [Bool.or_eq_false_iff]
    exact ⟨decide_eq_false (by omega), decide_eq_false (by omega)⟩
  refine wpAny_binaryOp_repeat_ref (T := "tuple") (U := "int") (by decide) ⟨_, ho, rfl⟩ (fun s' => typeIs_int s' k t) noFill_tuple_mul F.fills_int_mul F.slot_int_rmul repeat_tuple F.slot_int_index.lookup
    (call_meets F.slot_int_rmul (typeIs_int s k t) F.entry_int_rmul (F.args_int_rmul_2 _ _) (int_rmul_tuple k t l its.toArray n dd sl) ⟨ho, rfl, ⟨_, ho, rfl⟩, ?_⟩)
  by_cases h1 : xs = [] ∨ k = 1
  · have c1 : (its.toArray.isEmpty || k == 1) = true := by
      rw [Bool.or_eq_true]
      rcases h1 with e | e
      · left
        subst e
        cases its with
        | nil => rfl
        | cons a b => simp at hle
      · right
        rw [e]
        rfl
    exact call_meets F.slot_tuple_mul ⟨_, ho, rfl⟩ F.entry_tuple_mul (F.args_tuple_mul_2 _ _) (tuple_mul1 l its.toArray n dd sl k t c0 c1) ⟨ho, ⟨.ref l, H, I, rfl, q1 h1⟩⟩
  · have hne : xs ≠ [] := fun e => h1 (.inl e)
    have hk : k = 0 := by
      have a1 : k ≠ 1 := fun e => h1 (.inr e)
      have a2 : ¬ 2 ≤ k := fun e => hbig ⟨hne, e⟩
      omega
    have c1 : (its.toArray.isEmpty || k == 1) = false := by
      rw [hk, Bool.or_eq_false_iff]
      refine ⟨?_, rfl⟩
      cases its with
      | nil => exact absurd (List.eq_nil_of_length_eq_zero hle.symm) hne
      | cons a b => rfl
    have c2 : (decide (k ≤ 0) || its.toArray.isEmpty) = true := by
      rw [hk]
      rfl
    refine call_meets F.slot_tuple_mul ⟨_, ho, rfl⟩ F.entry_tuple_mul (F.args_tuple_mul_2 _ _) (tuple_mul0 l its.toArray n dd sl k t c0 c1 c2) ⟨ho, ?_⟩
    refine ⟨.ref s.heap.objs.size, _, I.laid (t' := s.toks) (o := .tup []) (fun b ob q => Heap.get?_push_of_some _ q) (Nat.le_refl _) ?_, rfl, q2 hne hk _ (I.hok.fresh (Nat.le_refl _))⟩
    exact ⟨Nat.zero_le _, [], .nil, IsTup.new _ _⟩

/-! ## operators -/
def opOfB : Bop → Operator
  | .add => .Add | .sub => .Sub | .mul => .Mult | .fdiv => .FloorDiv | .mod => .Mod | .pow => .Pow
  | .shl => .LShift | .shr => .RShift | .band => .BitAnd | .bor => .BitOr | .bxor => .BitXor
theorem opB {X : Cx} (o : Bop) : OpR X (binaryOp (opOfB o)) (TV2 X.K (binS o)) := by
  intro pins s σ H x y v u R I rx ry ⟨ι, d, e, st, Q, hs, hd, he, hb, hp⟩
  cases o <;> cases hd <;> cases he <;> try exact False.elim hb
  -- add
  · exact op_add pins s σ H _ _ v u R I rx ry ⟨_, _, rfl, rfl, hp.fin (.int _) hs hb⟩
  · exact op_add_str pins s σ H _ _ v u R I rx ry ⟨_, _, rfl, rfl, hb.1, hp.fin (.str _) hs hb.2⟩
  · rename_i a vs ds h1 h2 b ws es h3 h4
    obtain ⟨hl, q⟩ : ds.length + es.length ≤ sizeLine ∧ Q (.tup (ds ++ es)) st := hb
    refine op_catA pins s σ H _ _ v u R I rx ry ⟨a, b, vs, ws, rfl, rfl, SqT.of h1, SqT.of h3, by rw [← h2.len, ← h4.len]; exact hl, fun e => ?_, fun _ e => ?_, fun _ _ p hp' => ?_⟩
    · subst e
      cases h2
      exact hp.fin (.tup h3 h4) hs q
    · subst e
      cases h4
      rw [List.append_nil] at q
      exact hp.fin (.tup h1 h2) hs q
    · exact hp.tup (h2.append h4) hs q p hp'
  · rename_i n a h1 m b h2
    obtain ⟨xs, ys, e1, e2, hl, q⟩ := hb
    obtain ⟨vs, g1, r1⟩ := cell_lst hs h1 e1
    obtain ⟨ws, g2, r2⟩ := cell_lst hs h2 e2
    exact op_cat pins s σ H _ _ v u R I rx ry ⟨a, b, vs, ws, rfl, rfl, g1, g2, by rw [← r1.len, ← r2.len]; exact hl, hp.lst (r1.append r2) hs q⟩
  -- sub
  · exact op_sub pins s σ H _ _ v u R I rx ry ⟨_, _, rfl, rfl, hp.fin (.int _) hs hb⟩
  -- mul
  · exact op_mulG pins s σ H _ _ v u R I rx ry ⟨_, _, rfl, rfl, hb.1, hp.fin (.int _) hs hb.2⟩
  · rename_i a vs ds h1 h2 k
    obtain ⟨⟨hk0, hk, hl⟩, q⟩ := hb
    refine op_repA pins s σ H _ _ v u R I rx ry ⟨a, k, vs, rfl, rfl, SqT.of h1, hk0, hk, by rw [← h2.len]; exact hl, fun e => ?_, fun _ e => ?_, fun _ h2k p hp' => ?_⟩
    · rcases e with e | e
      · subst e
        cases h2
        rw [show (List.replicate k.toNat ([] : List D)).flatten = [] by simp] at q
        exact hp.fin (.tup h1 .nil) hs q
      · subst e
        rw [show (List.replicate (1 : Int).toNat ds).flatten = ds by simp] at q
        exact hp.fin (.tup h1 h2) hs q
    · subst e
      exact hp.tup .nil hs q
    · exact hp.tup (h2.repl k.toNat) hs q p hp'
  · rename_i n a h1 k
    obtain ⟨xs, e1, ⟨hk, hk2, hl⟩, q⟩ := hb
    obtain ⟨vs, g1, r1⟩ := cell_lst hs h1 e1
    exact op_rep pins s σ H _ _ v u R I rx ry ⟨a, k, vs, rfl, rfl, g1, by omega, hk2, by rw [← r1.len]; exact hl, hp.lst (r1.repl _) hs q⟩
  -- //, %, **, <<, >>, &, |, ^
  · exact op_fdivG pins s σ H _ _ v u R I rx ry ⟨_, _, rfl, rfl, hb.1, hp.fin (.int _) hs hb.2⟩
  · exact op_mod pins s σ H _ _ v u R I rx ry ⟨_, _, rfl, rfl, hb.1, hp.fin (.int _) hs hb.2⟩
  · exact op_pow pins s σ H _ _ v u R I rx ry ⟨_, _, rfl, rfl, hb.1, hp.fin (.int _) hs hb.2⟩
  · exact op_shlW pins s σ H _ _ v u R I rx ry ⟨_, _, rfl, rfl, hb.1, hp.fin (.int _) hs hb.2⟩
  · exact op_shr pins s σ H _ _ v u R I rx ry ⟨_, _, rfl, rfl, hb.1, hp.fin (.int _) hs hb.2⟩
  · exact op_and pins s σ H _ _ v u R I rx ry ⟨_, _, rfl, rfl, hp.fin (.int _) hs hb⟩
  · exact op_or pins s σ H _ _ v u R I rx ry ⟨_, _, rfl, rfl, hp.fin (.int _) hs hb⟩
  · exact op_xor pins s σ H _ _ v u R I rx ry ⟨_, _, rfl, rfl, hp.fin (.int _) hs hb⟩
end Cb

namespace Cb
open PySem PySem.Spec PyProof.Rows L2
/-! ## the data as a whole -/
section
variable {K : PySem.W.Frag} {ι : List Addr} {H : Hp} {st : Store}
theorem mapO_cons {α β : Type} {f : α → Option β} {x : α} {xs : List α} {zs : List β} (h : mapO f (x :: xs) = some zs) : ∃ y ys, f x = some y ∧ mapO f xs = some ys ∧ zs = y :: ys := by
  unfold mapO at h
  cases e : f x with
  | none => rw [e] at h; cases h
  | some y =>
    cases e2 : mapO f xs with
    | none => rw [e, e2] at h; cases h
    | some ys => rw [e, e2] at h; cases h; exact ⟨y, ys, rfl, rfl, rfl⟩
theorem dps_of {f : D → Option PyData} (hf : ∀ (d : D) (v : V) (p : PyData), DR K ι H d v → f d = some p → Dp K H v p) : ∀ {ds : List D} {vs : List V} {ps : List PyData}, DRs K ι H ds vs → mapO f ds = some ps → DpAll K H vs ps
  | _, _, _, .nil, h => by cases h; exact .nil
  | _, _, _, .cons r t, h => by
    obtain ⟨y, ys, e1, e2, rfl⟩ := mapO_cons h
    exact .cons (hf _ _ _ r e1) (dps_of hf t e2)
theorem dp_of (hs : StR K ι H st) : ∀ (n : Nat) (d : D) (v : V) (p : PyData), DR K ι H d v → toPy st n d = some p → Dp K H v p
  | n, .non, v, p, r, h => by cases n <;> (cases h; cases r; exact .non)
  | n, .bl b, v, p, r, h => by cases n <;> (cases h; cases r; exact .bl b)
  | n, .int b, v, p, r, h => by cases n <;> (cases h; cases r; exact .int b)
  | n, .str b, v, p, r, h => by cases n <;> (cases h; cases r; exact .str b)
  | 0, .tup xs, v, p, r, h => by cases h
  | 0, .ktp xs, v, p, r, h => by cases h
  | 0, .ref xs, v, p, r, h => by cases h
  | n + 1, .tup xs, v, p, r, h => by
    cases r with
    | tup h1 h2 =>
      simp only [toPy] at h
      cases e : mapO (toPy st n) xs with
      | none => rw [e] at h; cases h
      | some ps =>
        rw [e] at h
        cases h
        exact .tup (SqT.of h1) (dps_of (dp_of hs n) h2 e)
  | n + 1, .ktp xs, v, p, r, h => by
    cases r with
    | ktp h1 h2 =>
      simp only [toPy] at h
      cases e : mapO (toPy st n) xs with
      | none => rw [e] at h; cases h
      | some ps =>
        rw [e] at h
        cases h
        exact .tup h1 (dps_of (dp_of hs n) h2 e)
  | n + 1, .ref m, v, p, r, h => by
    cases r with
    | @ref _ a h1 =>
      simp only [toPy] at h
      split at h
      · rename_i xs e0
        cases e : mapO (toPy st n) xs with
        | none => rw [e] at h; cases h
        | some ps =>
          rw [e] at h
          cases h
          obtain ⟨vs, g, r⟩ := hs.at e0 h1
          exact .lst (.inl (.inl g)) (dps_of (dp_of hs n) r e)
      · rename_i xs e0
        cases e : mapO (toPy st n) xs with
        | none => rw [e] at h; cases h
        | some ps =>
          rw [e] at h
          cases h
          obtain ⟨o, vs, g, r⟩ := hs.at e0 h1
          exact .lst (.inl (.inr ⟨o, g⟩)) (dps_of (dp_of hs n) r e)
      · cases h
theorem getK_of {κ : Type} [DecidableEq κ] {k : κ} : ∀ {kvs : List (κ × D)} {vs : List (κ × V)}, DKs K ι H kvs vs → match getK kvs k with
    | some d => ∃ v, valV vs k = some v ∧ DR K ι H d v
    | none => valV vs k = none
  | _, _, .nil => rfl
  | _, _, @DKs.cons _ _ _ _ k' d ds v vs r t => by
    have ih := getK_of (k := k) t
    unfold getK at ih ⊢
    rw [List.find?_cons]
    by_cases e : k' = k
    · simp only [e, decide_true]
      exact ⟨v, valV_pos (p := (k, v)) rfl, r⟩
    · simp only [e, decide_false]
      rw [show valV ((k', v) :: vs) k = valV vs k from valV_neg e]
      exact ih
theorem getK_some {κ : Type} [DecidableEq κ] {k : κ} {kvs : List (κ × D)} {vs : List (κ × V)} {d : D} (h : DKs K ι H kvs vs) (e : getK kvs k = some d) : ∃ v, valV vs k = some v ∧ DR K ι H d v := by
  have := getK_of (k := k) h
  rw [e] at this
  exact this
theorem getK_isSome {κ : Type} [DecidableEq κ] {k : κ} {kvs : List (κ × D)} {vs : List (κ × V)} (h : DKs K ι H kvs vs) : (valV vs k).isSome = (getK kvs k).isSome := by
  have := getK_of (k := k) h
  cases e : getK kvs k with
  | none => rw [e] at this; rw [this]; rfl
  | some d => rw [e] at this; obtain ⟨v, e2, _⟩ := this; rw [e2]; rfl
theorem DKs.put {κ : Type} [DecidableEq κ] {k : κ} {d : D} {v : V} (hd : DR K ι H d v) {kvs : List (κ × D)} {vs : List (κ × V)} (h : DKs K ι H kvs vs) : DKs K ι H (putKD kvs k d) (putK vs k v) := by
  have e1 : ∀ {kvs : List (κ × D)} {vs : List (κ × V)}, DKs K ι H kvs vs → (kvs.any fun kv => decide (kv.1 = k)) = vs.any fun kv => decide (kv.1 = k) := by
    intro kvs vs h
    induction h with
    | nil => rfl
    | cons r t ih => simp only [List.any_cons, ih]
  have e2 : ∀ {kvs : List (κ × D)} {vs : List (κ × V)}, DKs K ι H kvs vs → DKs K ι H (kvs.map fun kv => if kv.1 = k then (kv.1, d) else kv) (vs.map fun kv => if kv.1 = k then (kv.1, v) else kv) := by
    intro kvs vs h
    induction h with
    | nil => exact .nil
    | @cons k' d' ds v' vs r t ih =>
      simp only [List.map_cons]
      by_cases e : k' = k
      · rw [if_pos e, if_pos e]
        exact .cons hd ih
      · rw [if_neg e, if_neg e]
        exact .cons r ih
  have e3 : ∀ {kvs : List (κ × D)} {vs : List (κ × V)}, DKs K ι H kvs vs → DKs K ι H (kvs ++ [(k, d)]) (vs ++ [(k, v)]) := by
    intro kvs vs h
    induction h with
    | nil => exact .cons hd .nil
    | cons r t ih => exact .cons r ih
  unfold putKD putK
  rw [e1 h]
  by_cases hb : (vs.any fun kv => decide (kv.1 = k)) = true
  · rw [if_pos hb, if_pos hb]
    exact e2 h
  · rw [if_neg hb, if_neg hb]
    exact e3 h
theorem keyOf_rel {d : D} {v : V} {k : Key} (r : DR K ι H d v) (e : keyOf d = some k) : v = kV k := by
  cases r <;> cases e <;> rfl
theorem keysOf_rel {K : PySem.W.Frag} {ι : List Addr} {H : Hp} : ∀ {ds : List D} {vs : List V} {ks : List Key}, DRs K ι H ds vs → mapO keyOf ds = some ks → vs = ks.map kV
  | _, _, _, .nil, h => by cases h; rfl
  | _, _, _, .cons r t, h => by
    obtain ⟨y, zs, e1, e2, rfl⟩ := mapO_cons h
    rw [keysOf_rel t e2, keyOf_rel r e1]
    rfl
theorem keyT_rel {d : D} {v : V} {k : List Key} (r : DR K ι H d v) (e : keyT d = some k) : ∃ b, v = .ref b ∧ H b = some (.tup (k.map kV)) := by
  cases r with
  | @tup a vs ds h1 h2 =>
    rw [keysOf_rel h2 e] at h1
    exact ⟨a, rfl, h1⟩
  | _ => cases e
theorem non_rel {d : D} {v : V} (r : DR K ι H d v) : decide (v = .non) = isNon d := by
  cases r <;> rfl
/-- a list or a tuple that is read -/
theorem listS_of (hs : StR K ι H st) {d : D} {v : V} {xs : List D} (r : DR K ι H d v) (e : listS st d = some xs) : ∃ a vs, v = .ref a ∧ SqL K H a vs ∧ DRs K ι H xs vs := by
  cases r with
  | @ref n a h1 =>
    simp only [listS] at e
    split at e
    · rename_i ys e0
      cases e
      obtain ⟨vs, g, r⟩ := hs.at e0 h1
      exact ⟨a, vs, rfl, .inl (.inl g), r⟩
    · rename_i ys e0
      cases e
      obtain ⟨o, vs, g, r⟩ := hs.at e0 h1
      exact ⟨a, vs, rfl, .inl (.inr ⟨o, g⟩), r⟩
    · cases e
  | _ => cases e
theorem seqS_of (hs : StR K ι H st) {d : D} {v : V} {xs : List D} (r : DR K ι H d v) (e : seqS st d = some xs) : ∃ a vs, v = .ref a ∧ (SqL K H a vs ∨ SqT K H a vs) ∧ DRs K ι H xs vs := by
  cases r with
  | @ref n a h1 =>
    obtain ⟨a', vs, e1, h, r⟩ := listS_of (d := .ref n) hs (.ref h1) (show listS st (.ref n) = some xs by simpa only [seqS, listS] using e)
    exact ⟨a', vs, e1, .inl h, r⟩
  | @tup a vs ds h1 h2 =>
    cases e
    exact ⟨a, vs, rfl, .inr (SqT.of h1), h2⟩
  | @ktp a vs ds h1 h2 =>
    cases e
    exact ⟨a, vs, rfl, .inr h1, h2⟩
  | _ => cases e
theorem DRs.isEmpty {xs : List D} {vs : List V} (r : DRs K ι H xs vs) : (!vs.isEmpty) = !xs.isEmpty := by cases r <;> rfl
theorem DKs.isEmpty {κ : Type} {xs : List (κ × D)} {vs : List (κ × V)} (r : DKs K ι H xs vs) : (!vs.isEmpty) = !xs.isEmpty := by cases r <;> rfl
theorem tru_of (hs : StR K ι H st) {d : D} {v : V} {t : Bool} (r : DR K ι H d v) (e : truS st d = some t) : TruV K v H t := by
  cases r with
  | non => cases e; rfl
  | bl b => cases e; rfl
  | int i => cases e; rfl
  | str s => cases e
  | @tup a vs ds h1 h2 =>
    cases e
    exact .inr (.inl ⟨vs, SqT.of h1, h2.isEmpty.symm⟩)
  | @ktp a vs ds h1 h2 =>
    cases e
    exact .inr (.inl ⟨vs, h1, h2.isEmpty.symm⟩)
  | @ref n a h1 =>
    simp only [truS] at e
    split at e
    · rename_i xs e0
      cases e
      obtain ⟨vs, g, r⟩ := hs.at e0 h1
      exact .inl ⟨vs, .inl (.inl g), r.isEmpty.symm⟩
    · rename_i xs e0
      cases e
      obtain ⟨o, vs, g, r⟩ := hs.at e0 h1
      exact .inl ⟨vs, .inl (.inr ⟨o, g⟩), r.isEmpty.symm⟩
    · rename_i xs e0
      cases e
      obtain ⟨vs, g, r⟩ := hs.at e0 h1
      exact .inr (.inr ⟨vs, g, r.isEmpty.symm⟩)
    all_goals cases e
theorem atI_of {xs : List D} {vs : List V} {i : Int} {d : D} (r : DRs K ι H xs vs) (e : atI xs i = some d) : ∃ v, atI vs i = some v ∧ DR K ι H d v := by
  unfold atI at e ⊢
  rw [← r.len]
  cases h : ixN xs.length i with
  | none => rw [h] at e; cases e
  | some j =>
    rw [h] at e
    exact r.get e
end

/-! ## comparisons -/
section
variable {X : Cx}
def cmpOf : Cop → CmpOp
  | .eq => .Eq | .ne => .NotEq | .lt => .Lt | .le => .LtE | .gt => .Gt | .ge => .GtE | .isn => .Is | .notn => .IsNot | .ins => .In | .nins => .NotIn
theorem pyEq_ok {pins : List (Addr × Obj)} {s : Shared} {σ : L2.St} {H : Hp} {x y : V} {v u : Value} {R : VK} {ι : List Addr} {st : Store} {d e : D} {b : Bool} (hu : X.A.units + 64 < cLine) (hs : StR X.K ι H st) (hd : DR X.K ι H d x) (he : DR X.K ι H e y)
    (I : Inv X pins σ H s) (rx : RelV x v) (ry : RelV y u) (h : pyEq st d e = some b) :
    (R (.bl b) H → wpAny (model X.prog X.w) X.A (compareOp .Eq v u) (EP X pins σ R) X.xe s) ∧ (R (.bl (!b)) H → wpAny (model X.prog X.w) X.A (compareOp .NotEq v u) (EP X pins σ R) X.xe s) := by
  have big : ∀ p q, toPy st 32 d = some p → toPy st 32 e = some q → SeqAt.shaped p = true → SeqAt.shaped q = true → PyData.eqv p q = b →
      (R (.bl b) H → wpAny (model X.prog X.w) X.A (compareOp .Eq v u) (EP X pins σ R) X.xe s) ∧ (R (.bl (!b)) H → wpAny (model X.prog X.w) X.A (compareOp .NotEq v u) (EP X pins σ R) X.xe s) := by
    intro p q h1 h2 s1 s2 hb
    have g1 := dp_of hs 32 d x p hd h1
    have g2 := dp_of hs 32 e y q he h2
    exact ⟨fun hr => op_eqD hu pins s σ H x y v u R I rx ry ⟨p, q, g1, g2, s1, s2, by rw [hb]; exact hr⟩, fun hr => op_neD hu pins s σ H x y v u R I rx ry ⟨p, q, g1, g2, s1, s2, by rw [hb]; exact hr⟩⟩
  unfold pyEq at h
  split at h
  · cases h
    cases hd
    cases he
    rename_i i j
    exact ⟨fun hr => op_eq pins s σ H _ _ v u R I rx ry ⟨rfl, by rw [dec_int, Bool.beq_eq_decide_eq]; exact hr⟩, fun hr => op_ne pins s σ H _ _ v u R I rx ry ⟨rfl, by rw [dec_int, Bool.beq_eq_decide_eq]; exact hr⟩⟩
  · cases h
    cases hd
    cases he
    rename_i i j
    have e1 : decide (V.str i = V.str j) = decide (i = j) := by rw [Bool.eq_iff_iff]; simp
    exact ⟨fun hr => op_eq pins s σ H _ _ v u R I rx ry ⟨rfl, by rw [e1]; exact hr⟩, fun hr => op_ne pins s σ H _ _ v u R I rx ry ⟨rfl, by rw [e1]; exact hr⟩⟩
  · cases h
    cases hd
    cases he
    rename_i i j
    have e1 : decide (V.bl i = V.bl j) = decide (i = j) := by rw [Bool.eq_iff_iff]; simp
    exact ⟨fun hr => op_eq pins s σ H _ _ v u R I rx ry ⟨rfl, by rw [e1]; exact hr⟩, fun hr => op_ne pins s σ H _ _ v u R I rx ry ⟨rfl, by rw [e1]; exact hr⟩⟩
  · split at h
    · rename_i p q h1 h2
      split at h
      · rename_i hsh
        cases h
        rw [Bool.and_eq_true] at hsh
        exact big p q h1 h2 hsh.1 hsh.2 rfl
      · cases h
    · cases h
theorem opI0' {f : Value → Value → Sem Value} {g : Int → Int → V} (h : OpR X f (rI0 g)) {pins : List (Addr × Obj)} {s : Shared} {σ : L2.St} {H : Hp} {x y : V} {v u : Value} {R : VK} (I : Inv X pins σ H s) (rx : RelV x v) (ry : RelV y u) {i j : Int} (e1 : x = .int i) (e2 : y = .int j) (q : R (g i j) H) :
    wpAny (model X.prog X.w) X.A (f v u) (EP X pins σ R) X.xe s := h pins s σ H x y v u R I rx ry ⟨i, j, e1, e2, q⟩
theorem int_rel {K : PySem.W.Frag} {ι : List Addr} {H : Hp} {i : Int} {v : V} (h : DR K ι H (.int i) v) : v = .int i := by cases h; rfl
theorem dget_of {K : PySem.W.Frag} {ι : List Addr} {H : Hp} {st : Store} (hs : StR K ι H st) {n : Nat} {v : V} {kvs : List (Key × D)} (r : DR K ι H (.ref n) v) (e : st[n]? = some (.dct kvs)) : ∃ a vs, v = .ref a ∧ H a = some (.dK vs) ∧ DKs K ι H kvs vs := by
  cases r with
  | ref h1 =>
    obtain ⟨vs, g, r⟩ := hs.at e h1
    exact ⟨_, vs, rfl, g, r⟩
theorem inInts_rel {K : PySem.W.Frag} {ι : List Addr} {H : Hp} : ∀ {ys : List D} {vs : List V} {ns : List Int}, DRs K ι H ys vs → mapO inInt ys = some ns → vs = ns.map V.int
  | _, _, _, .nil, h => by cases h; rfl
  | _, _, _, .cons r t, h => by
    obtain ⟨y, zs, e1, e2, rfl⟩ := mapO_cons h
    rw [inInts_rel t e2]
    cases r <;> cases e1
    rfl
theorem inSeq_eq (st : Store) (d : D) : inSeq st d = seqS st d := rfl
theorem inV_int (i : Int) : ∀ ns : List Int, inV (.int i) (ns.map V.int) = decide (i ∈ ns)
  | [] => rfl
  | n :: ns => by
    have ih := inV_int i ns
    unfold inV at ih ⊢
    rw [List.map_cons, List.any_cons, ih]
    have e : eqV (.int n) (.int i) = decide (n = i) := by
      show (n == i) = _
      rw [Bool.beq_eq_decide_eq]
    rw [e, Bool.eq_iff_iff, Bool.or_eq_true, decide_eq_true_iff, decide_eq_true_iff, decide_eq_true_iff, List.mem_cons]
    exact or_congr ⟨Eq.symm, Eq.symm⟩ Iff.rfl
theorem flat_ints (ns : List Int) : (ns.map V.int).all flatV = true := by
  rw [List.all_map, List.all_eq_true]
  exact fun _ _ => rfl
theorem dgetT_of {K : PySem.W.Frag} {ι : List Addr} {H : Hp} {st : Store} (hs : StR K ι H st) {n : Nat} {v : V} {kvs : List (List Key × D)} (r : DR K ι H (.ref n) v) (e : st[n]? = some (.dtt kvs)) : ∃ a vs, v = .ref a ∧ H a = some (.dT vs) ∧ DKs K ι H kvs vs := by
  cases r with
  | ref h1 =>
    obtain ⟨vs, g, r⟩ := hs.at e h1
    exact ⟨_, vs, rfl, g, r⟩
/-- all comparisons but in, not in -/
theorem opC (hu : X.A.units + 64 < cLine) (o : Cop) (ho : o ≠ .isn ∧ o ≠ .notn) : OpR X (compareOp (cmpOf o)) (TV2 X.K (cmpS o)) := by
  intro pins s σ H x y v u R I rx ry ⟨ι, d, e, st, Q, hs, hd, he, hb, hp⟩
  cases o with
  | eq =>
    obtain ⟨b, h, q⟩ := hb
    exact (pyEq_ok hu hs hd he I rx ry h).1 (hp.fin (.bl _) hs q)
  | ne =>
    obtain ⟨b, h, q⟩ := hb
    exact (pyEq_ok hu hs hd he I rx ry h).2 (hp.fin (.bl _) hs q)
  | lt =>
    obtain ⟨i, j, e1, e2, q⟩ := hb
    subst e1 e2
    exact opI0' op_lt I rx ry (int_rel hd) (int_rel he) (hp.fin (.bl _) hs q)
  | le =>
    obtain ⟨i, j, e1, e2, q⟩ := hb
    subst e1 e2
    exact opI0' op_le I rx ry (int_rel hd) (int_rel he) (hp.fin (.bl _) hs q)
  | gt =>
    obtain ⟨i, j, e1, e2, q⟩ := hb
    subst e1 e2
    exact opI0' op_gt I rx ry (int_rel hd) (int_rel he) (hp.fin (.bl _) hs q)
  | ge =>
    obtain ⟨i, j, e1, e2, q⟩ := hb
    subst e1 e2
    exact opI0' op_ge I rx ry (int_rel hd) (int_rel he) (hp.fin (.bl _) hs q)
  | isn => exact absurd rfl ho.1
  | notn => exact absurd rfl ho.2
  | ins =>
    rcases hb with ⟨n, kvs, k, e1, e2, e3, q⟩ | ⟨n, kvs, k, e1, e2, e3, q⟩ | ⟨i, ys, ns, e1, e2, e3, q⟩
    rotate_left
    · subst e1
      obtain ⟨a, vs, rfl, g, r⟩ := dgetT_of hs he e2
      obtain ⟨b, rfl, gb⟩ := keyT_rel hd e3
      cases ry
      refine d_in (by omega) I (DGet.t g gb) rx fun s' I' => ⟨.bl _, H, I', rfl, ?_⟩
      rw [getK_isSome r]
      exact hp.fin (.bl _) hs q
    · subst e1
      obtain ⟨a, vs, rfl, hq, r⟩ := seqS_of hs he ((inSeq_eq st e).symm.trans e2)
      obtain rfl := inInts_rel r e3
      rw [int_rel hd] at rx
      exact op_in_seq pins s σ H _ _ v u R I rx ry ⟨a, _, rfl, hq, rfl, flat_ints ns, by rw [inV_int]; exact hp.fin (.bl _) hs q⟩
    subst e1
    obtain ⟨a, vs, rfl, g, r⟩ := dget_of hs he e2
    obtain rfl := keyOf_rel hd e3
    cases ry
    refine d_in (by omega) I (DGet.k g) rx fun s' I' => ⟨.bl _, H, I', rfl, ?_⟩
    rw [getK_isSome r]
    exact hp.fin (.bl _) hs q
  | nins =>
    rcases hb with ⟨n, kvs, k, e1, e2, e3, q⟩ | ⟨n, kvs, k, e1, e2, e3, q⟩ | ⟨i, ys, ns, e1, e2, e3, q⟩
    rotate_left
    · subst e1
      obtain ⟨a, vs, rfl, g, r⟩ := dgetT_of hs he e2
      obtain ⟨b, rfl, gb⟩ := keyT_rel hd e3
      cases ry
      refine d_notIn (by omega) I (DGet.t g gb) rx fun s' I' => ⟨.bl _, H, I', rfl, ?_⟩
      rw [getK_isSome r]
      exact hp.fin (.bl _) hs q
    · subst e1
      obtain ⟨a, vs, rfl, hq, r⟩ := seqS_of hs he ((inSeq_eq st e).symm.trans e2)
      obtain rfl := inInts_rel r e3
      rw [int_rel hd] at rx
      exact op_notIn_seq pins s σ H _ _ v u R I rx ry ⟨a, _, rfl, hq, rfl, flat_ints ns, by rw [inV_int]; exact hp.fin (.bl _) hs q⟩
    subst e1
    obtain ⟨a, vs, rfl, g, r⟩ := dget_of hs he e2
    obtain rfl := keyOf_rel hd e3
    cases ry
    refine d_notIn (by omega) I (DGet.k g) rx fun s' I' => ⟨.bl _, H, I', rfl, ?_⟩
    rw [getK_isSome r]
    exact hp.fin (.bl _) hs q
theorem opIsN : OpR X (compareOp .Is) (TV2 X.K (cmpS .isn)) := by
  intro pins s σ H x y v u R I rx ry ⟨ι, d, e, st, Q, hs, hd, he, hb, hp⟩
  rcases hb with ⟨e1, q⟩ | ⟨a, b, e1, e2, q⟩
  rotate_left
  · subst e1 e2
    cases hd
    cases he
    cases rx
    cases ry
    refine wpAny_is_plain (by cases a <;> cases b <;> rfl) ⟨.bl _, H, I, rfl, ?_⟩
    have e : ((Value.bool a == Value.bool b)) = decide (a = b) := by cases a <;> cases b <;> rfl
    rw [e]
    exact hp.fin (.bl _) hs q
  subst e1
  cases he
  exact op_isN pins s σ H _ _ v u R I rx ry ⟨rfl, by rw [non_rel hd]; exact hp.fin (.bl _) hs q⟩
theorem opNotN : OpR X (compareOp .IsNot) (TV2 X.K (cmpS .notn)) := by
  intro pins s σ H x y v u R I rx ry ⟨ι, d, e, st, Q, hs, hd, he, hb, hp⟩
  rcases hb with ⟨e1, q⟩ | ⟨a, b, e1, e2, q⟩
  rotate_left
  · subst e1 e2
    cases hd
    cases he
    cases rx
    cases ry
    refine wpAny_isNot_plain (by cases a <;> cases b <;> rfl) ⟨.bl _, H, I, rfl, ?_⟩
    have e : (!(Value.bool a == Value.bool b)) = !decide (a = b) := by cases a <;> cases b <;> rfl
    rw [e]
    exact hp.fin (.bl _) hs q
  subst e1
  cases he
  exact op_notN pins s σ H _ _ v u R I rx ry ⟨rfl, by rw [non_rel hd]; exact hp.fin (.bl _) hs q⟩
theorem opCmp (hu : X.A.units + 64 < cLine) (o : Cop) : OpR X (compareOp (cmpOf o)) (TV2 X.K (cmpS o)) := by
  by_cases h : o ≠ .isn ∧ o ≠ .notn
  · exact opC hu o h
  · cases o with
    | isn => exact opIsN
    | notn => exact opNotN
    | _ => exact absurd ⟨by decide, by decide⟩ h
/-- a comparison hands back a bool -/
theorem cmpS_bl {o : Cop} {x y : D} {st : Store} {Q : K1} (h : cmpS o x y st Q) : cmpS o x y st fun d st1 => (∃ b, d = .bl b) ∧ Q d st1 := by
  cases o with
  | eq => obtain ⟨b, h, q⟩ := h; exact ⟨b, h, ⟨_, rfl⟩, q⟩
  | ne => obtain ⟨b, h, q⟩ := h; exact ⟨b, h, ⟨_, rfl⟩, q⟩
  | lt => obtain ⟨i, j, e1, e2, q⟩ := h; exact ⟨i, j, e1, e2, ⟨_, rfl⟩, q⟩
  | le => obtain ⟨i, j, e1, e2, q⟩ := h; exact ⟨i, j, e1, e2, ⟨_, rfl⟩, q⟩
  | gt => obtain ⟨i, j, e1, e2, q⟩ := h; exact ⟨i, j, e1, e2, ⟨_, rfl⟩, q⟩
  | ge => obtain ⟨i, j, e1, e2, q⟩ := h; exact ⟨i, j, e1, e2, ⟨_, rfl⟩, q⟩
  | isn => exact h.imp (fun ⟨e1, q⟩ => ⟨e1, ⟨_, rfl⟩, q⟩) fun ⟨a, b, e1, e2, q⟩ => ⟨a, b, e1, e2, ⟨_, rfl⟩, q⟩
  | notn => exact h.imp (fun ⟨e1, q⟩ => ⟨e1, ⟨_, rfl⟩, q⟩) fun ⟨a, b, e1, e2, q⟩ => ⟨a, b, e1, e2, ⟨_, rfl⟩, q⟩
  | ins => exact h.imp (fun ⟨n, kvs, k, e1, e2, e3, q⟩ => ⟨n, kvs, k, e1, e2, e3, ⟨_, rfl⟩, q⟩) fun h => h.imp (fun ⟨n, kvs, k, e1, e2, e3, q⟩ => ⟨n, kvs, k, e1, e2, e3, ⟨_, rfl⟩, q⟩) fun ⟨i, ys, ns, e1, e2, e3, q⟩ => ⟨i, ys, ns, e1, e2, e3, ⟨_, rfl⟩, q⟩
  | nins => exact h.imp (fun ⟨n, kvs, k, e1, e2, e3, q⟩ => ⟨n, kvs, k, e1, e2, e3, ⟨_, rfl⟩, q⟩) fun h => h.imp (fun ⟨n, kvs, k, e1, e2, e3, q⟩ => ⟨n, kvs, k, e1, e2, e3, ⟨_, rfl⟩, q⟩) fun ⟨i, ys, ns, e1, e2, e3, q⟩ => ⟨i, ys, ns, e1, e2, e3, ⟨_, rfl⟩, q⟩
end
end Cb

/-! t[::-1] of a tuple; comb -/
namespace Cb.RT
open PySem PySem.Spec PyProof.Rows L2 PySem.W
section
variable {prog : Program} {w : World} {A : Around} {E : Value → Shared → Prop} {s : Shared}
theorem adj_back (n : Nat) : Builtin.Slice.sliceAdjust none none (-1) (n : Int) = ((n : Int) - 1, -1) := by
  unfold Builtin.Slice.sliceAdjust
  simp
theorem places_back (n : Nat) : Builtin.Slice.slicePlaces ((n : Int) - 1) (-1) (-1) = n := by
  unfold Builtin.Slice.slicePlaces
  simp
  try omega
theorem fm_congr {α β : Type} {f g : α → Option β} : ∀ {l : List α}, (∀ x ∈ l, f x = g x) → l.filterMap f = l.filterMap g
  | [], _ => rfl
  | x :: l, h => by
    rw [List.filterMap_cons, List.filterMap_cons, h x List.mem_cons_self, fm_congr fun y hy => h y (List.mem_cons_of_mem _ hy)]
theorem pick_back (xs : Array Value) : ((List.range xs.size).filterMap fun (k : Nat) => xs[(((xs.size : Int) - 1) + (k : Int) * (-1)).toNat]?) = xs.toList.reverse := by
  have h := krv_all xs.reverse
  rw [Array.size_reverse, Array.toList_reverse] at h
  rw [← h]
  refine fm_congr fun k hk => ?_
  have hk' := List.mem_range.mp hk
  have e : (((xs.size : Int) - 1) + (k : Int) * (-1)).toNat = xs.size - 1 - k := by omega
  rw [e, Array.getElem?_reverse (by omega)]
theorem applied_back {sl : Addr} {vs : Value} {n : Nat} {Q : Int × Int × Nat → Shared → Prop} (hs : s.heap.IsSliceOf sl .none .none vs) (ps : IsPart vs (some (-1)))
    (h : Q ((n : Int) - 1, -1, n) s) : wpAny (model prog w) A (Builtin.Slice.sliceApplied (.ref sl) (pure (n : Int))) Q E s := by
  obtain ⟨ob, hob, hcb, hdb⟩ := id hs
  unfold Builtin.Slice.sliceApplied Builtin.Slice.sliceFields
  refine wpAny_bind (wpAny_bind (wpAny_field hob hdb (x := .none) rfl (wpAny_bind (wpAny_field hob hdb (x := .none) rfl (wpAny_bind (wpAny_field hob hdb (x := vs) rfl (wpAny_pure ?_)))))))
  refine wpAny_bind (HT.slicePart_ ps ?_)
  show wpAny _ _ (if ((-1 : Int) == 0) = true then _ else _) _ _ s
  rw [if_neg (by decide)]
  refine wpAny_bind (slicePart_none (wpAny_bind (slicePart_none (wpAny_bind (wpAny_pure ?_)))))
  show wpAny _ _ (match Builtin.Slice.sliceAdjust none none (-1) (n : Int) with | (lo, hi) => pure (lo, (-1 : Int), Builtin.Slice.slicePlaces lo hi (-1))) _ _ s
  rw [adj_back n]
  show wpAny _ _ (pure ((n : Int) - 1, (-1 : Int), Builtin.Slice.slicePlaces ((n : Int) - 1) (-1) (-1))) _ _ s
  rw [places_back]
  exact wpAny_pure h
theorem get_back {t sl : Addr} {its : Array Value} {vs : Value} {Q : Value → Shared → Prop} (ht : IsTup s.heap t its) (hs : s.heap.IsSliceOf sl .none .none vs) (ps : IsPart vs (some (-1)))
    (h : Q (.ref s.heap.objs.size) { s with heap := s.heap.push { cls := .type "tuple", data := .seq its.toList.reverse.toArray } }) (hz : its.size ≤ sizeLine) : wpAny (model prog w) A (getItem (.ref t) (.ref sl)) Q E s := by
  have hzr : sizeOk (.seq its.toList.reverse.toArray) := by
    show its.toList.reverse.toArray.size ≤ sizeLine
    rw [List.size_toArray, List.length_reverse, Array.length_toList]
    exact hz
  obtain ⟨ob, hob, hcb, hdb⟩ := id hs
  have hTb : s.TypeIs (.ref sl) "slice" := ⟨ob, hob, hcb⟩
  unfold getItem
  try with_reducible refine wpAny_holding ?_
  first | refine wpAny_bind (wpAny_pure ?_) | skip
  refine wpAny_bind (wpAny_sequenceKey ht.typeIs (by decide) ?_)
  refine wpAny_bind (wpAny_callSpecial?_slot (name := Str.ofString "__getitem__") ht.typeIs PyProof.Rows.slot_tuple_getitem
    (wpAny_call_entry PyProof.Rows.slot_tuple_getitem ht.typeIs entry_tuple_getitem ?_ (args_tuple_getitem _ _)))
  show wpAny _ _ (Builtin.Tuple.tupleItemsOf (.ref t) >>= _) _ _ s
  refine wpAny_bind (tupleItemsOf_ ht ?_)
  refine wpAny_bind (wpAny_typeOf hTb ?_)
  rw [if_pos (by decide)]
  refine wpAny_bind (applied_back hs ps ?_)
  show wpAny _ _ (if (((its.size : Int) - 1) == 0 && (-1 : Int) == 1 && its.size == its.size) = true then _ else _) _ _ s
  rw [if_neg (by simp), pick_back]
  first
    | exact wpAny_bind (m := Builtin.Tuple.tupleExact _) (wpAny_newObj_type (wpAny_pure ⟨_, rfl, wpAny_pure h⟩) hzr)
    | exact wpAny_bind (m := Builtin.Tuple.tupleExact _) (wpAny_newObj_type (wpAny_bind (wpAny_pure (wpAny_pure ⟨_, rfl, wpAny_pure h⟩))) hzr)
    | exact wpAny_bind (wpAny_bind (m := Builtin.Tuple.tupleExact _) (wpAny_newObj_type (wpAny_pure (wpAny_pure ⟨_, rfl, wpAny_pure h⟩)) hzr))
    | exact wpAny_bind (wpAny_bind (m := Builtin.Tuple.tupleExact _) (wpAny_newObj_type (wpAny_pure ⟨_, rfl, wpAny_pure h⟩) hzr))
end
section
variable {X : Cx} {e : Expr} {te : TE} {k : Nat} {p1 p2 p3 pos : Pos}
/-- a[::-1], a list or a tuple -/
def tRev (K : PySem.W.Frag) (te : TE) : TE := fun σ H Q => te σ H fun x H1 => ∃ a xs, x = .ref a ∧ ((SqL K H1 a xs ∧ ∀ p, H1 p = none → Q (.ref p) (upd H1 p (.lst xs.reverse))) ∨ (SqT K H1 a xs ∧ ∀ p, H1 p = none → Q (.ref p) (upd H1 p (.tup xs.reverse))))
theorem pe_rev (he : PE X e te) : PE X (.Subscript e (.Slice none none (some (.UnaryOp .USub (.Constant (.int 1) k p1) p2)) p3) pos) (tRev X.K te) := by
  refine ⟨fun pins s σ H Q I hq => ?_⟩
  refine Subscript_ (thn (he.run pins s σ H _ I hq) fun v s1 ⟨x, H1, I1, r1, a, xs, ex, q⟩ => ?_)
  subst ex
  cases r1
  have hpt : PO X (some (.UnaryOp .USub (.Constant (.int 1) k p1) p2)) (tPart (tUn (rU fun i => .int (-i)) (tC (.int 1)))) := po_some (pe_un un_neg pe_int)
  refine wpAny_Slice (thn (po_none.run pins s1 σ H1 (fun o H2 => o = none ∧ H2 = H1) I1 ⟨rfl, rfl⟩) fun vl s2 ⟨l, H2, I2, pl, el, e2⟩ => ?_)
  subst el e2
  refine thn (po_none.run pins s2 σ H2 (fun o H3 => o = none ∧ H3 = H2) I2 ⟨rfl, rfl⟩) fun vu s3 ⟨u, H3, I3, pu, eu, e3⟩ => ?_
  subst eu e3
  refine thn (hpt.run pins s3 σ H3 (fun o H4 => o = some (-1) ∧ H4 = H3) I3 ⟨1, rfl, -1, rfl, rfl, rfl⟩) fun vb s4 ⟨o, H4, I4, ps, eo, e4⟩ => ?_
  subst eo e4
  have I5 : Inv X pins σ H4 { s4 with heap := s4.heap.push { cls := .type "slice", data := .fields #[vl, vu, vb] } } := I4.kept (t' := s4.toks) fun b ob q => Heap.get?_push_of_some _ q
  show wpAny (model X.prog X.w) X.A (subscriptTail e (.Slice none none (some (.UnaryOp .USub (.Constant (.int 1) k p1) p2)) p3) (.ref a) (.ref s4.heap.objs.size)) (EP X pins σ Q) X.xe { s4 with heap := s4.heap.push { cls := .type "slice", data := .fields #[vl, vu, vb] } }
  rcases q with ⟨hx, q⟩ | ⟨hx, q⟩
  · obtain ⟨us, r, ht, hz⟩ := I5.list hx
    have hlen := r.length
    refine tail_any (ops := [.ref a, .ref s4.heap.objs.size]) ht.isList.typeIs (PySem.slot_list_getitem.lookup) ?_ (by with_unfolding_all rfl)
    refine wpAny_getItem_list_slice ht.isList (Heap.IsSliceOf.new _ vl vu vb) pl pu ps (by decide) ?_ (by rw [List.size_toArray]; omega)
    rw [PySem.W.krv_pick]
    exact ⟨.ref _, _, I5.laid (t' := s4.toks) (o := .lst xs.reverse) (fun b ob q => Heap.get?_push_of_some _ q) (Nat.le_refl _) ⟨by rw [List.length_reverse]; exact hz, _, 0, r.reverse, Heap.get?_push_size _ rfl⟩, rfl, q _ (I5.hok.fresh (Nat.le_refl _))⟩
  · obtain ⟨us, r, ht, hz⟩ := I5.tuple hx
    have hlen := r.length
    cases pl
    cases pu
    refine tail_any (ops := [.ref a, .ref s4.heap.objs.size]) ht.typeIs PyProof.Rows.slot_tuple_getitem.lookup ?_ (by with_unfolding_all rfl)
    refine get_back ht (Heap.IsSliceOf.new _ .none .none vb) ps ?_ (by rw [List.size_toArray]; omega)
    exact ⟨.ref _, _, I5.laid (t' := s4.toks) (o := .tup xs.reverse) (fun b ob q => Heap.get?_push_of_some _ q) (Nat.le_refl _) ⟨by rw [List.length_reverse]; exact hz, _, r.reverse, IsTup.new _ _⟩, rfl, q _ (I5.hok.fresh (Nat.le_refl _))⟩
def rComb : List V → Hp → VK → Prop := fun vs H Q => ∃ a b : Int, vs = [.int a, .int b] ∧ 0 ≤ a ∧ 0 ≤ b ∧ a ≤ 9000 ∧ Q (.int (mcComb a b)) H
theorem cr_comb : CallR X (.builtin "math.comb") rComb := by
  intro pins s σ H vs us Q I r h
  obtain ⟨a, b, rfl, ha, hb, hz, q⟩ := h
  obtain ⟨t, u, rfl⟩ := Vals.int2 r
  exact PySem.W.mc_comb ha hb (by omega) (.inr (by omega)) fun _ => ⟨.int _, H, I.tok _, ⟨_, rfl⟩, q⟩
end
end Cb.RT

namespace Cb
open PySem PySem.Spec PyProof.Rows L2
section
variable {X : Cx} {F : Fm} {a b c e : Expr} {es : List Expr} {ca cb cc ce : C} {pos : Pos}
theorem d_bin (o : Bop) (ha : PE X a (TD X.K F ca)) (hb : PE X b (TD X.K F cb)) : PE X (.BinOp a (opOfB o) b pos) (TD X.K F (.bin o ca cb)) :=
  (pe_op (opB o) ha hb).weak fun σ H R ⟨ι, ρ, st, Q, e, s, q, p⟩ => .go e s q fun x H1 ι1 d st1 h1 k1 e1 d1 s1 q1 => .go e1 s1 q1 fun y H2 ι2 d' st2 h2 k2 e2 d2 s2 q2 =>
    ⟨ι2, d, d', st2, Q, s2, d1.mono h2 k2, d2, q2, p.shift (h1.trans h2) (k1.trans k2)⟩
theorem d_neg (ha : PE X a (TD X.K F ca)) : PE X (.UnaryOp .USub a pos) (TD X.K F (.neg ca)) :=
  (pe_un un_neg ha).weak fun σ H R ⟨ι, ρ, st, Q, e, s, q, p⟩ => .go e s q fun x H1 ι1 d st1 h1 k1 e1 d1 s1 q1 => by
    obtain ⟨i, e3, q3⟩ := q1
    subst e3
    cases d1
    exact ⟨i, rfl, (p.shift h1 k1).fin (.int _) s1 q3⟩
theorem d_cmp (hu : X.A.units + 64 < cLine) (o : Cop) (ha : PE X a (TD X.K F ca)) (hb : PE X b (TD X.K F cb)) (hm : behindInMarks (cmpOf o) b = false) : PE X (.Compare a [cmpOf o] [b] pos) (TD X.K F (.cmp o ca cb)) :=
  (pe_cmpR (opCmp hu o) ha hb hm).weak fun σ H R ⟨ι, ρ, st, Q, e, s, q, p⟩ => .go e s q fun x H1 ι1 d st1 h1 k1 e1 d1 s1 q1 => .go e1 s1 q1 fun y H2 ι2 d' st2 h2 k2 e2 d2 s2 q2 =>
    ⟨ι2, d, d', st2, Q, s2, d1.mono h2 k2, d2, q2, p.shift (h1.trans h2) (k1.trans k2)⟩
/-- as a test -/
theorem t_cmp (hu : X.A.units + 64 < cLine) (o : Cop) (ha : PE X a (TD X.K F ca)) (hb : PE X b (TD X.K F cb)) (hm : behindInMarks (cmpOf o) b = false) : PT X (.Compare a [cmpOf o] [b] pos) (TT' X.K F (.cmp o ca cb)) :=
  (pt_cmpR (opCmp hu o) ha hb hm).weak fun σ H R ⟨ι, ρ, st, Q, e, s, q, p⟩ => .go e s q fun x H1 ι1 d st1 h1 k1 e1 d1 s1 q1 => .go e1 s1 q1 fun y H2 ι2 d' st2 h2 k2 e2 d2 s2 q2 =>
    ⟨ι2, d, d', st2, _, s2, d1.mono h2 k2, d2, cmpS_bl q2, fun v H' ι' d3 st' h3 k3 r3 s3 q3 => by
      obtain ⟨⟨t, rfl⟩, q4⟩ := q3
      cases r3
      exact ⟨t, rfl, p t H' ι' st' ((h1.trans h2).trans h3) ((k1.trans k2).trans k3) s3 q4⟩⟩
theorem d_chain (hu : X.A.units + 64 < cLine) (o o2 : Cop) (ha : PE X a (TD X.K F ca)) (hb : PE X b (TD X.K F cb)) (hc : PE X c (TD X.K F cc)) (hm : lastMarks [cmpOf o, cmpOf o2] [b, c] = false) : PE X (.Compare a [cmpOf o, cmpOf o2] [b, c] pos) (TD X.K F (.chain o o2 ca cb cc)) :=
  (pe_chain (opCmp hu o) (opCmp hu o2) ha hb hc hm).weak fun σ H R ⟨ι, ρ, st, Q, e, s, q, p⟩ => .go e s q fun x H1 ι1 d st1 h1 k1 e1 d1 s1 q1 => .go e1 s1 q1 fun y H2 ι2 d' st2 h2 k2 e2 d2 s2 q2 =>
    ⟨ι2, d, d', st2, _, s2, d1.mono h2 k2, d2, q2, fun v H' ι' d3 st' h3 k3 r3 s3 q3 => by
      obtain ⟨t, rfl, q4⟩ := q3
      cases r3
      refine ⟨t, rfl, ?_⟩
      cases t with
      | true =>
        exact TD.go (e2.mono h3 k3) s3 q4 fun z H4 ι4 d4 st4 h4 k4 e4 r4 s4 q5 =>
          ⟨ι4, d', d4, st4, Q, s4, d2.mono (h3.trans h4) (k3.trans k4), r4, q5, p.shift (((h1.trans h2).trans h3).trans h4) (((k1.trans k2).trans k3).trans k4)⟩
      | false => exact (p.shift ((h1.trans h2).trans h3) ((k1.trans k2).trans k3)).fin (.bl _) s3 q4⟩
theorem t_chain (hu : X.A.units + 64 < cLine) (o o2 : Cop) (ha : PE X a (TD X.K F ca)) (hb : PE X b (TD X.K F cb)) (hc : PE X c (TD X.K F cc)) (hm : lastMarks [cmpOf o, cmpOf o2] [b, c] = false) : PT X (.Compare a [cmpOf o, cmpOf o2] [b, c] pos) (TT' X.K F (.chain o o2 ca cb cc)) :=
  (pt_chain (opCmp hu o) (opCmp hu o2) ha hb hc hm).weak fun σ H R ⟨ι, ρ, st, Q, e, s, q, p⟩ => .go e s q fun x H1 ι1 d st1 h1 k1 e1 d1 s1 q1 => .go e1 s1 q1 fun y H2 ι2 d' st2 h2 k2 e2 d2 s2 q2 =>
    ⟨ι2, d, d', st2, _, s2, d1.mono h2 k2, d2, q2, fun v H' ι' d3 st' h3 k3 r3 s3 q3 => by
      obtain ⟨t, rfl, q4⟩ := q3
      cases r3
      refine ⟨t, rfl, ?_⟩
      cases t with
      | true =>
        exact TD.go (e2.mono h3 k3) s3 q4 fun z H4 ι4 d4 st4 h4 k4 e4 r4 s4 q5 =>
          ⟨ι4, d', d4, st4, _, s4, d2.mono (h3.trans h4) (k3.trans k4), r4, cmpS_bl q5, fun v5 H5 ι5 d5 st5 h5 k5 r5 s5 q6 => by
            obtain ⟨⟨t, rfl⟩, q7⟩ := q6
            cases r5
            exact ⟨t, rfl, p t H5 ι5 st5 ((((h1.trans h2).trans h3).trans h4).trans h5) ((((k1.trans k2).trans k3).trans k4).trans k5) s5 q7⟩⟩
      | false => exact ⟨false, rfl, p false H' ι' st' ((h1.trans h2).trans h3) ((k1.trans k2).trans k3) s3 q4⟩⟩
/-- three comparisons in a row -/
def tChain3 (r r' r'' : R2) (ta tb tc td : TE) : TE := fun σ H Q => ta σ H fun x H1 => tb σ H1 fun y H2 => r x y H2 fun z H3 => ∃ k, z = .bl k ∧
  (if k = true then tc σ H3 fun w H4 => r' y w H4 fun z H5 => ∃ k, z = .bl k ∧ (if k = true then td σ H5 fun v H6 => r'' w v H6 Q else Q (.bl false) H5) else Q (.bl false) H3)
theorem pe_chain3 {d : Expr} {ta tb tc td : TE} {op op' op'' : CmpOp} {r r' r'' : R2} (ho : OpR X (compareOp op) r) (ho' : OpR X (compareOp op') r') (ho'' : OpR X (compareOp op'') r'') (ha : PE X a ta) (hb : PE X b tb) (hc : PE X c tc) (hd : PE X d td)
    (hm : lastMarks [op, op', op''] [b, c, d] = false) : PE X (.Compare a [op, op', op''] [b, c, d] pos) (tChain3 r r' r'' ta tb tc td) := by
  refine ⟨fun pins s σ H Q I h => ?_⟩
  refine Compare_chain (thn (ha.run pins s σ H _ I h) fun v s1 ⟨x, H1, I1, r1, q1⟩ => chain_link (thn (hb.run pins s1 σ H1 _ I1 q1) fun u s2 ⟨y, H2, I2, r2, q2⟩ =>
    thn (ho pins s2 σ H2 x y v u _ I2 r1 r2 q2) fun d s3 ⟨z, H3, I3, r3, k, e, q3⟩ => ?_)) hm
  subst e
  cases r3
  refine wpAny_truthy_bool ?_
  cases k with
  | false => exact ite_ff ⟨.bl false, H3, I3, rfl, q3⟩
  | true =>
    refine ite_tt (chain_link (thn (hc.run pins s3 σ H3 _ I3 q3) fun w' s4 ⟨z', H4, I4, r4, q4⟩ => thn (ho' pins s4 σ H4 y z' u w' _ I4 r2 r4 q4) fun d5 s5 ⟨z5, H5, I5, r5, k5, e5, q5⟩ => ?_))
    subst e5
    cases r5
    refine wpAny_truthy_bool ?_
    cases k5 with
    | false => exact ite_ff ⟨.bl false, H5, I5, rfl, q5⟩
    | true => exact ite_tt (chain_last (thn (hd.run pins s5 σ H5 _ I5 q5) fun w6 s6 ⟨z6, H6, I6, r6, q6⟩ => ho'' pins s6 σ H6 z' z6 w' w6 Q I6 r4 r6 q6))
theorem pt_chain3 {d : Expr} {ta tb tc td : TE} {op op' op'' : CmpOp} {r r' r'' : R2} (ho : OpR X (compareOp op) r) (ho' : OpR X (compareOp op') r') (ho'' : OpR X (compareOp op'') r'') (ha : PE X a ta) (hb : PE X b tb) (hc : PE X c tc) (hd : PE X d td)
    (hm : lastMarks [op, op', op''] [b, c, d] = false) : PT X (.Compare a [op, op', op''] [b, c, d] pos) (tTest (tChain3 r r' r'' ta tb tc td)) := by
  refine ⟨fun pins s σ H Q I h => ?_⟩
  refine isTrue_chain (thn (ha.run pins s σ H _ I h) fun v s1 ⟨x, H1, I1, r1, q1⟩ => test_link (thn (hb.run pins s1 σ H1 _ I1 q1) fun u s2 ⟨y, H2, I2, r2, q2⟩ =>
    thn (ho pins s2 σ H2 x y v u _ I2 r1 r2 q2) fun d s3 ⟨z, H3, I3, r3, k, e, q3⟩ => ?_)) hm
  subst e
  cases r3
  refine wpAny_truthy_bool ?_
  cases k with
  | false =>
    obtain ⟨k', e', q'⟩ := q3
    cases e'
    exact ite_ff ⟨H3, I3, q'⟩
  | true =>
    refine ite_tt (test_link (thn (hc.run pins s3 σ H3 _ I3 q3) fun w' s4 ⟨z', H4, I4, r4, q4⟩ => thn (ho' pins s4 σ H4 y z' u w' _ I4 r2 r4 q4) fun d5 s5 ⟨z5, H5, I5, r5, k5, e5, q5⟩ => ?_))
    subst e5
    cases r5
    refine wpAny_truthy_bool ?_
    cases k5 with
    | false =>
      obtain ⟨k', e', q'⟩ := q5
      cases e'
      exact ite_ff ⟨H5, I5, q'⟩
    | true =>
      refine ite_tt (test_last (thn (hd.run pins s5 σ H5 _ I5 q5) fun w6 s6 ⟨z6, H6, I6, r6, q6⟩ => thn (ho'' pins s6 σ H6 z' z6 w' w6 _ I6 r4 r6 q6) fun d7 s7 ⟨z7, H7, I7, r7, k7, e7, q7⟩ => ?_))
      subst e7
      cases r7
      exact wpAny_truthy_bool ⟨H7, I7, q7⟩
theorem d_chain3 {d : Expr} {cd : C} (hu : X.A.units + 64 < cLine) (o o2 o3 : Cop) (ha : PE X a (TD X.K F ca)) (hb : PE X b (TD X.K F cb)) (hc : PE X c (TD X.K F cc)) (hd : PE X d (TD X.K F cd)) (hm : lastMarks [cmpOf o, cmpOf o2, cmpOf o3] [b, c, d] = false) : PE X (.Compare a [cmpOf o, cmpOf o2, cmpOf o3] [b, c, d] pos) (TD X.K F (.chain3 o o2 o3 ca cb cc cd)) :=
  (pe_chain3 (opCmp hu o) (opCmp hu o2) (opCmp hu o3) ha hb hc hd hm).weak fun σ H R ⟨ι, ρ, st, Q, e, s, q, p⟩ => .go e s q fun x H1 ι1 d st1 h1 k1 e1 d1 s1 q1 => .go e1 s1 q1 fun y H2 ι2 d' st2 h2 k2 e2 d2 s2 q2 =>
    ⟨ι2, d, d', st2, _, s2, d1.mono h2 k2, d2, q2, fun v H' ι' d3 st' h3 k3 r3 s3 q3 => by
      obtain ⟨t, rfl, q4⟩ := q3
      cases r3
      refine ⟨t, rfl, ?_⟩
      have p3 := p.shift ((h1.trans h2).trans h3) ((k1.trans k2).trans k3)
      cases t with
      | false => exact p3.fin (.bl _) s3 q4
      | true =>
        refine TD.go (e2.mono h3 k3) s3 q4 fun z H4 ι4 d4 st4 h4 k4 e4 r4 s4 q5 =>
          ⟨ι4, d', d4, st4, _, s4, d2.mono (h3.trans h4) (k3.trans k4), r4, q5, fun v5 H5 ι5 d5 st5 h5 k5 r5 s5 q6 => ?_⟩
        obtain ⟨t, rfl, q7⟩ := q6
        cases r5
        refine ⟨t, rfl, ?_⟩
        have p5 := p3.shift (h4.trans h5) (k4.trans k5)
        cases t with
        | false => exact p5.fin (.bl _) s5 q7
        | true =>
          exact TD.go (e4.mono h5 k5) s5 q7 fun w H6 ι6 d6 st6 h6 k6 e6 r6 s6 q8 =>
            ⟨ι6, d4, d6, st6, Q, s6, r4.mono (h5.trans h6) (k5.trans k6), r6, q8, p5.shift h6 k6⟩⟩
theorem t_chain3 {d : Expr} {cd : C} (hu : X.A.units + 64 < cLine) (o o2 o3 : Cop) (ha : PE X a (TD X.K F ca)) (hb : PE X b (TD X.K F cb)) (hc : PE X c (TD X.K F cc)) (hd : PE X d (TD X.K F cd)) (hm : lastMarks [cmpOf o, cmpOf o2, cmpOf o3] [b, c, d] = false) : PT X (.Compare a [cmpOf o, cmpOf o2, cmpOf o3] [b, c, d] pos) (TT' X.K F (.chain3 o o2 o3 ca cb cc cd)) :=
  (pt_chain3 (opCmp hu o) (opCmp hu o2) (opCmp hu o3) ha hb hc hd hm).weak fun σ H R ⟨ι, ρ, st, Q, e, s, q, p⟩ => .go e s q fun x H1 ι1 d st1 h1 k1 e1 d1 s1 q1 => .go e1 s1 q1 fun y H2 ι2 d' st2 h2 k2 e2 d2 s2 q2 =>
    ⟨ι2, d, d', st2, _, s2, d1.mono h2 k2, d2, q2, fun v H' ι' d3 st' h3 k3 r3 s3 q3 => by
      obtain ⟨t, rfl, q4⟩ := q3
      cases r3
      refine ⟨t, rfl, ?_⟩
      cases t with
      | false => exact ⟨false, rfl, p false H' ι' st' ((h1.trans h2).trans h3) ((k1.trans k2).trans k3) s3 q4⟩
      | true =>
        refine TD.go (e2.mono h3 k3) s3 q4 fun z H4 ι4 d4 st4 h4 k4 e4 r4 s4 q5 =>
          ⟨ι4, d', d4, st4, _, s4, d2.mono (h3.trans h4) (k3.trans k4), r4, q5, fun v5 H5 ι5 d5 st5 h5 k5 r5 s5 q6 => ?_⟩
        obtain ⟨t, rfl, q7⟩ := q6
        cases r5
        refine ⟨t, rfl, ?_⟩
        cases t with
        | false => exact ⟨false, rfl, p false H5 ι5 st5 ((((h1.trans h2).trans h3).trans h4).trans h5) ((((k1.trans k2).trans k3).trans k4).trans k5) s5 q7⟩
        | true =>
          exact TD.go (e4.mono h5 k5) s5 q7 fun w H6 ι6 d6 st6 h6 k6 e6 r6 s6 q8 =>
            ⟨ι6, d4, d6, st6, _, s6, r4.mono (h5.trans h6) (k5.trans k6), r6, cmpS_bl q8, fun v7 H7 ι7 d7 st7 h7 k7 r7 s7 q9 => by
              obtain ⟨⟨t, rfl⟩, q10⟩ := q9
              cases r7
              exact ⟨t, rfl, p t H7 ι7 st7 ((((((h1.trans h2).trans h3).trans h4).trans h5).trans h6).trans h7) ((((((k1.trans k2).trans k3).trans k4).trans k5).trans k6).trans k7) s7 q10⟩⟩⟩
/-! ### and, or, not, if -/
variable {rest : List Expr}
theorem d_one {o : PySem.BoolOp} (ha : PE X a (TD X.K F ca)) : PE X (.BoolOp o [a] pos) (TD X.K F ca) := pe_one ha
theorem d_and (ha : PE X a (TD X.K F ca)) (hb : PE X (.BoolOp .And (b :: rest) pos) (TD X.K F cb)) : PE X (.BoolOp .And (a :: b :: rest) pos) (TD X.K F (.and ca cb)) :=
  (pe_andT ha hb).weak fun σ H R ⟨ι, ρ, st, Q, e, s, q, p⟩ => .go e s q fun x H1 ι1 d st1 h1 k1 e1 d1 s1 q1 => by
    obtain ⟨t, ht, q2⟩ := q1
    refine ⟨t, tru_of s1 d1 ht, ?_⟩
    cases t with
    | true => exact ⟨ι1, ρ, st1, Q, e1, s1, q2, p.shift h1 k1⟩
    | false => exact (p.shift h1 k1).fin d1 s1 q2
theorem d_or (ha : PE X a (TD X.K F ca)) (hb : PE X (.BoolOp .Or (b :: rest) pos) (TD X.K F cb)) : PE X (.BoolOp .Or (a :: b :: rest) pos) (TD X.K F (.or ca cb)) :=
  (pe_orT ha hb).weak fun σ H R ⟨ι, ρ, st, Q, e, s, q, p⟩ => .go e s q fun x H1 ι1 d st1 h1 k1 e1 d1 s1 q1 => by
    obtain ⟨t, ht, q2⟩ := q1
    refine ⟨t, tru_of s1 d1 ht, ?_⟩
    cases t with
    | false => exact ⟨ι1, ρ, st1, Q, e1, s1, q2, p.shift h1 k1⟩
    | true => exact (p.shift h1 k1).fin d1 s1 q2
theorem d_not (ha : PE X a (TD X.K F ca)) : PE X (.UnaryOp .Not a pos) (TD X.K F (.tnot (.tval ca))) :=
  (pe_notT ha).weak fun σ H R ⟨ι, ρ, st, Q, e, s, q, p⟩ => .go e s q fun x H1 ι1 d st1 h1 k1 e1 d1 s1 q1 => by
    obtain ⟨t, ht, t', e2, q2⟩ := q1
    cases e2
    exact ⟨t, tru_of s1 d1 ht, (p.shift h1 k1).fin (.bl _) s1 q2⟩
theorem t_val (ha : PE X a (TD X.K F ca)) (he : ∀ whole, isTrue a X.env whole = (do let v ← whole; standAt a.pos; holding [v] (truthy v))) : PT X a (TT' X.K F (.tval ca)) :=
  (pt_truth ha he).weak fun σ H R ⟨ι, ρ, st, Q, e, s, q, p⟩ => .go e s q fun x H1 ι1 d st1 h1 k1 e1 d1 s1 q1 => by
    obtain ⟨t, ht, q2⟩ := q1
    exact ⟨t, tru_of s1 d1 ht, p t H1 ι1 st1 h1 k1 s1 q2⟩
theorem w_and1 (ha : PT X a (TT' X.K F ca)) : PW X (.BoolOp .And [a] pos) (TT' X.K F ca) := pw_and1 ha
theorem w_or1 (ha : PT X a (TT' X.K F ca)) : PW X (.BoolOp .Or [a] pos) (TT' X.K F ca) := pw_or1 ha
theorem PW.weak {X : Cx} {e : Expr} {t t' : TT} (h : PW X e t) (w : ∀ σ H Q, t' σ H Q → t σ H Q) : PW X e t' := ⟨fun wh pins s σ H Q I q => h.run wh pins s σ H Q I (w _ _ _ q)⟩
theorem w_and (ha : PT X a (TT' X.K F ca)) (hb : PW X (.BoolOp .And (b :: rest) pos) (TT' X.K F cb)) : PW X (.BoolOp .And (a :: b :: rest) pos) (TT' X.K F (.tand ca cb)) :=
  PW.weak (pw_and ha hb) fun σ H R ⟨ι, ρ, st, Q, e, s, q, p⟩ => .go e s q fun t H1 ι1 st1 h1 k1 e1 s1 q1 => by
    obtain ⟨t', e2, q2⟩ := q1
    cases e2
    cases t with
    | true => exact ⟨ι1, ρ, st1, Q, e1, s1, q2, p.shift h1 k1⟩
    | false => exact p false H1 ι1 st1 h1 k1 s1 q2
theorem w_or (ha : PT X a (TT' X.K F ca)) (hb : PW X (.BoolOp .Or (b :: rest) pos) (TT' X.K F cb)) : PW X (.BoolOp .Or (a :: b :: rest) pos) (TT' X.K F (.tor ca cb)) :=
  PW.weak (pw_or ha hb) fun σ H R ⟨ι, ρ, st, Q, e, s, q, p⟩ => .go e s q fun t H1 ι1 st1 h1 k1 e1 s1 q1 => by
    obtain ⟨t', e2, q2⟩ := q1
    cases e2
    cases t with
    | false => exact ⟨ι1, ρ, st1, Q, e1, s1, q2, p.shift h1 k1⟩
    | true => exact p true H1 ι1 st1 h1 k1 s1 q2
theorem t_not (ha : PT X a (TT' X.K F ca)) : PT X (.UnaryOp .Not a pos) (TT' X.K F (.tnot ca)) :=
  (pt_not ha).weak fun σ H R ⟨ι, ρ, st, Q, e, s, q, p⟩ => .go e s q fun t H1 ι1 st1 h1 k1 e1 s1 q1 => by
    obtain ⟨t', e2, q2⟩ := q1
    cases e2
    exact p (!t) H1 ι1 st1 h1 k1 s1 q2
theorem d_ite (hc : PT X c (TT' X.K F cc)) (ha : PE X a (TD X.K F ca)) (hb : PE X b (TD X.K F cb)) : PE X (.IfExp c a b pos) (TD X.K F (.ite cc ca cb)) :=
  (pe_ifExp hc ha hb).weak fun σ H R ⟨ι, ρ, st, Q, e, s, q, p⟩ => .go e s q fun t H1 ι1 st1 h1 k1 e1 s1 q1 => by
    obtain ⟨t', e2, q2⟩ := q1
    cases e2
    cases t with
    | true => exact ⟨ι1, ρ, st1, Q, e1, s1, q2, p.shift h1 k1⟩
    | false => exact ⟨ι1, ρ, st1, Q, e1, s1, q2, p.shift h1 k1⟩
/-! ### items, slices -/
theorem ixOf {K : PySem.W.Frag} {ι : List Addr} {H : Hp} {st : Store} (hs : StR K ι H st) {d k z : D} {x y : V} (hd : DR K ι H d x) (hk : DR K ι H k y) (h : idxS st d k = some z) :
    (∃ p xs i v, x = .ref p ∧ y = .int i ∧ (SqL K H p xs ∨ SqT K H p xs) ∧ atI xs i = some v ∧ DR K ι H z v) ∨ ∃ p v, x = .ref p ∧ DGet H p y (some v) ∧ DR K ι H z v := by
  cases hd with
  | @tup a vs ds h1 h2 =>
    cases hk with
    | int i =>
      obtain ⟨v, e, r⟩ := atI_of h2 h
      exact .inl ⟨a, vs, i, v, rfl, rfl, .inr (SqT.of h1), e, r⟩
    | _ => cases h
  | @ktp a vs ds h1 h2 =>
    cases hk with
    | int i =>
      obtain ⟨v, e, r⟩ := atI_of h2 h
      exact .inl ⟨a, vs, i, v, rfl, rfl, .inr h1, e, r⟩
    | _ => cases h
  | @ref n a h1 =>
    simp only [idxS] at h
    split at h
    · rename_i xs e0
      cases hk with
      | int i =>
        obtain ⟨vs, g, r⟩ := hs.at e0 h1
        obtain ⟨v, e, r'⟩ := atI_of r h
        exact .inl ⟨a, vs, i, v, rfl, rfl, .inl (.inl (.inl g)), e, r'⟩
      | _ => cases h
    · rename_i xs e0
      cases hk with
      | int i =>
        obtain ⟨o, vs, g, r⟩ := hs.at e0 h1
        obtain ⟨v, e, r'⟩ := atI_of r h
        exact .inl ⟨a, vs, i, v, rfl, rfl, .inl (.inl (.inr ⟨o, g⟩)), e, r'⟩
      | _ => cases h
    · rename_i kvs e0
      obtain ⟨vs, g, r⟩ := hs.at e0 h1
      cases e1 : keyOf k with
      | none => rw [e1] at h; cases h
      | some kk =>
        rw [e1] at h
        obtain rfl := keyOf_rel hk e1
        obtain ⟨v, e2, r2⟩ := getK_some r h
        exact .inr ⟨a, v, rfl, by rw [← e2]; exact .k g, r2⟩
    · rename_i kvs e0
      obtain ⟨vs, g, r⟩ := hs.at e0 h1
      cases e1 : keyT k with
      | none => rw [e1] at h; cases h
      | some kk =>
        rw [e1] at h
        obtain ⟨b, rfl, gb⟩ := keyT_rel hk e1
        obtain ⟨v, e2, r2⟩ := getK_some r h
        exact .inr ⟨a, v, rfl, by rw [← e2]; exact .t g gb, r2⟩
    · cases h
    · rename_i kvs e0
      obtain ⟨o, vs, g, r⟩ := hs.at e0 h1
      cases e1 : keyOf k with
      | none => rw [e1] at h; cases h
      | some kk =>
        rw [e1] at h
        obtain rfl := keyOf_rel hk e1
        obtain ⟨v, e2, r2⟩ := getK_some r h
        exact .inr ⟨a, v, rfl, by rw [← e2]; exact .inl ⟨_, kk, .inr ⟨o, g⟩, rfl, rfl⟩, r2⟩
    · rename_i kvs e0
      obtain ⟨o, vs, g, r⟩ := hs.at e0 h1
      cases e1 : keyT k with
      | none => rw [e1] at h; cases h
      | some kk =>
        rw [e1] at h
        obtain ⟨b, rfl, gb⟩ := keyT_rel hk e1
        obtain ⟨v, e2, r2⟩ := getK_some r h
        exact .inr ⟨a, v, rfl, by rw [← e2]; exact .inr ⟨_, kk, b, .inr ⟨o, g⟩, rfl, gb, rfl⟩, r2⟩
    · cases h
  | _ => cases h
/-- a subscript of a list, a tuple, a dict -/
theorem d_idx (hu : X.A.units + 1 < cLine) (ha : PE X a (TD X.K F ca)) (hb : PE X b (TD X.K F cb)) (hs : PlainIx b) : PE X (.Subscript a b pos) (TD X.K F (.idx ca cb)) := by
  refine ⟨fun pins s σ H R I ⟨ι, ρ, st, Q, e, hst, q, p⟩ => ?_⟩
  refine Subscript_ (thn (ha.run pins s σ H (fun x H1 => ∃ ι1 st1 d, ι <+: ι1 ∧ Keep ι ι1 H H1 ∧ DR X.K ι1 H1 d x ∧ StR X.K ι1 H1 st1 ∧ EnvR X.K ι1 H1 σ ρ ∧ wp F cb ρ st1 fun y st2 => som (idxS st2 d y) fun z => Q z st2) I
    (.go e hst q fun x H1 ι1 d st1 h1 k1 e1 d1 s1 q1 => ⟨ι1, st1, d, h1, k1, d1, s1, e1, q1⟩)) fun v s1 ⟨x, H1, I1, r1, ι1, st1, d, h1, k1, d1, hs1, e1, q1⟩ => ?_)
  refine thn (hb.run pins s1 σ H1 (fun y H2 => ∃ ι2 st2 d', ι1 <+: ι2 ∧ Keep ι1 ι2 H1 H2 ∧ DR X.K ι2 H2 d' y ∧ StR X.K ι2 H2 st2 ∧ som (idxS st2 d d') fun z => Q z st2) I1
    (.go e1 hs1 q1 fun y H2 ι2 d' st2 h2 k2 e2 d2 s2 q2 => ⟨ι2, st2, d', h2, k2, d2, s2, q2⟩)) fun u s2 ⟨y, H2, I2, r2, ι2, st2, d', h2, k2, d2, hs2, z, ez, qz⟩ => ?_
  have p' := p.shift (h1.trans h2) (k1.trans k2)
  rcases ixOf hs2 (d1.mono h2 k2) d2 ez with ⟨a', xs, i, w, rfl, rfl, hq, hv, rw'⟩ | ⟨a', w, rfl, hg, rw'⟩
  · have fin := p'.fin rw' hs2 qz
    rcases hq with hq | hq
    · exact ix_list _ _ pins s2 σ H2 _ _ v u R I2 r1 r2 ⟨a', xs, i, w, rfl, rfl, hq, hv, fin⟩ (hs _ _)
    · exact ix_tup _ _ pins s2 σ H2 _ _ v u R I2 r1 r2 ⟨a', xs, i, w, rfl, rfl, hq, hv, fin⟩ (hs _ _)
  · cases r1
    exact tail_any (dict_typeIs I2 hg) PySem.F.slot_dict_getitem.lookup (d_getItem hu I2 hg r2 fun w' s3 I3 rw2 => ⟨w, H2, I3, rw2, p'.fin rw' hs2 qz⟩) (hs _ _)
/-! slices -/
def TO' (K : PySem.W.Frag) (F : Fm) (f : Bool) (c : C) : TO := fun σ H R => ∃ (ι : List Addr) (ρ : Env1) (st : Store) (Q : Option Int → Store → Prop), EnvR K ι H σ ρ ∧ StR K ι H st ∧ (wp F c ρ st fun d st' => som (partS f d) fun o => Q o st') ∧
  ∀ (o : Option Int) (H' : Hp) (ι' : List Addr) (st' : Store), ι <+: ι' → Keep ι ι' H H' → EnvR K ι' H' σ ρ → StR K ι' H' st' → Q o st' → R o H'
theorem _root_.L2.PO.weak {X : Cx} {e : Option Expr} {t t' : TO} (h : PO X e t) (w : ∀ σ H Q, t' σ H Q → t σ H Q) : PO X e t' := ⟨fun pins s σ H Q I q => h.run pins s σ H Q I (w _ _ _ q)⟩
theorem o_none : PO X none (TO' X.K F false (.cst .non)) := po_none.weak fun σ H R ⟨ι, ρ, st, Q, e, s, ⟨o, eo, q⟩, p⟩ => by
  cases eo
  exact p none H ι st (List.prefix_refl _) (.refl H) e s q
theorem o_some (ha : PE X a (TD X.K F ca)) : PO X (some a) (TO' X.K F true ca) :=
  (po_some ha).weak fun σ H R ⟨ι, ρ, st, Q, e, s, q, p⟩ => .go e s q fun x H1 ι1 d st1 h1 k1 e1 d1 s1 q1 => by
    obtain ⟨o, eo, q2⟩ := q1
    cases d1 <;> cases eo
    exact ⟨_, rfl, p _ H1 ι1 st1 h1 k1 e1 s1 q2⟩
theorem cut_rel {K : PySem.W.Frag} {ι : List Addr} {H : Hp} {xs : List D} {vs : List V} (r : DRs K ι H xs vs) (lo hi : Option Int) : DRs K ι H (cut xs lo hi) (cutV vs lo hi) := by
  unfold cut cutV
  rw [r.len]
  exact (r.drop _).take _
theorem cut_whole {α : Type} (xs : List α) (lo hi : Option Int) (h : HT.sIx xs.length 0 lo = 0 ∧ HT.sIx xs.length xs.length hi = xs.length) : cut xs lo hi = xs := by
  unfold cut
  rw [h.1, h.2, List.drop_zero, Nat.sub_zero, List.take_length]
theorem d_slc {lo hi : Option Expr} {cl ch : C} {fl fh : Bool} {p2 : Pos} (ha : PE X a (TD X.K F ca)) (hl : PO X lo (TO' X.K F fl cl)) (hh : PO X hi (TO' X.K F fh ch)) : PE X (.Subscript a (.Slice lo hi none p2) pos) (TD X.K F (.slc fl fh ca cl ch)) :=
  (pe_slice (sl_tupA.or sl_list) ha hl hh).weak fun σ H R ⟨ι, ρ, st, Q, e, s, q, p⟩ => .go e s q fun x H1 ι1 d st1 h1 k1 e1 d1 s1 q1 =>
    ⟨ι1, ρ, st1, _, e1, s1, q1, fun l H2 ι2 st2 h2 k2 e2 s2 q2 => ⟨ι2, ρ, st2, _, e2, s2, q2, fun u H3 ι3 st3 h3 k3 e3 s3 q3 => by
      have d3 := d1.mono (h2.trans h3) (k2.trans k3).t
      have p3 := p.shift ((h1.trans h2).trans h3) ((k1.trans k2).trans k3)
      cases d3 with
      | @tup a' vs ds g1 g2 =>
        refine .inl ⟨a', vs, rfl, SqT.of g1, fun hw => ?_, fun _ => p3.tup (cut_rel g2 l u) s3 q3⟩
        rw [← g2.len] at hw
        have q4 : Q (.tup (cut ds l u)) st3 := q3
        rw [cut_whole ds l u hw] at q4
        exact p3.fin (.tup g1 g2) s3 q4
      | @ref n a' g1 =>
        have q4 : (match st3[n]? with | some (.lst xs) => Q (.ref st3.length) (st3 ++ [.lst (cut xs l u)]) | some (.frz xs) => Q (.ref st3.length) (st3 ++ [.lst (cut xs l u)]) | _ => False) := q3
        split at q4
        · rename_i xs e0
          obtain ⟨vs, g, r⟩ := s3.at e0 g1
          exact .inr ⟨a', vs, rfl, .inl (.inl g), p3.lst (cut_rel r l u) s3 q4⟩
        · rename_i xs e0
          obtain ⟨o, vs, g, r⟩ := s3.at e0 g1
          exact .inr ⟨a', vs, rfl, .inl (.inr ⟨o, g⟩), p3.lst (cut_rel r l u) s3 q4⟩
        · exact q4.elim
      | _ => exact (show False from q3).elim⟩⟩
theorem d_revL {k : Nat} {p1 p2 p3 : Pos} (ha : PE X a (TD X.K F ca)) : PE X (.Subscript a (.Slice none none (some (.UnaryOp .USub (.Constant (.int 1) k p1) p2)) p3) pos) (TD X.K F (.revL ca)) :=
  (RT.pe_rev ha).weak fun σ H R ⟨ι, ρ, st, Q, e, s, q, p⟩ => .go e s q fun x H1 ι1 d st1 h1 k1 e1 d1 s1 q1 => by
    cases d1 with
    | @tup a' vs ds g1 g2 => exact ⟨a', vs, rfl, .inr ⟨SqT.of g1, (p.shift h1 k1).tup g2.reverse s1 q1⟩⟩
    | @ref n a' g1 =>
      obtain ⟨xs, ex, q2⟩ := q1
      obtain ⟨a', vs, e3, hq, r⟩ := listS_of s1 (.ref g1) ex
      exact ⟨a', vs, e3, .inl ⟨hq, (p.shift h1 k1).lst r.reverse s1 q2⟩⟩
    | _ =>
      obtain ⟨xs, ex, q2⟩ := q1
      cases ex
end
end Cb

namespace Cb
open PySem PySem.Spec PyProof.Rows L2
/-! ## arguments without a star -/
def notStar : Expr → Bool
  | .Starred .. => false
  | _ => true
theorem star_cons {e : Expr} (h : notStar e = true) (es : List Expr) (env : Env) : starEach (e :: es) env = (false, eval e env) :: starEach es env := by
  cases e <;> first | rfl | cases h
theorem star_any (pos : Pos) (env : Env) : ∀ es : List Expr, es.all notStar = true → (backTo pos (starEach es env)).any (·.1) = false
  | [], _ => rfl
  | e :: es, h => by
    rw [List.all_cons, Bool.and_eq_true] at h
    rw [star_cons h.1]
    show (false || (backTo pos (starEach es env)).any (·.1)) = false
    rw [star_any pos env es h.2]
    rfl
theorem star_few (pos : Pos) (env : Env) : ∀ es : List Expr, es.all notStar = true → (backTo pos (starEach es env)).all (fun x => !x.1) = true
  | [], _ => rfl
  | e :: es, h => by
    rw [List.all_cons, Bool.and_eq_true] at h
    rw [star_cons h.1]
    show (true && (backTo pos (starEach es env)).all (fun x => !x.1)) = true
    rw [star_few pos env es h.2]
    rfl
def plainBase : Expr → Bool
  | .Call .. => false
  | _ => true
theorem base_ok {o : Expr} (h : plainBase o = true) (m : Str) (env : Env) (w : PySem.Sem Value) : attributeBase o m env w = w := by
  cases o <;> first | rfl | cases h

section
variable {X : Cx} {F : Fm}
theorem ints_rel {K : PySem.W.Frag} {ι : List Addr} {H : Hp} : ∀ {ys : List D} {vs : List V} {ns : List Int}, DRs K ι H ys vs → mapO asInt ys = some ns → vs = ns.map V.int
  | _, _, _, .nil, h => by cases h; rfl
  | _, _, _, .cons r t, h => by
    obtain ⟨y, zs, e1, e2, rfl⟩ := mapO_cons h
    rw [ints_rel t e2]
    cases r <;> cases e1
    rfl
theorem bls_rel {K : PySem.W.Frag} {ι : List Addr} {H : Hp} : ∀ {ys : List D} {vs : List V} {ns : List Bool}, DRs K ι H ys vs → mapO asBl ys = some ns → vs = ns.map V.bl
  | _, _, _, .nil, h => by cases h; rfl
  | _, _, _, .cons r t, h => by
    obtain ⟨y, zs, e1, e2, rfl⟩ := mapO_cons h
    rw [bls_rel t e2]
    cases r <;> cases e1
    rfl
theorem drs_one {K : PySem.W.Frag} {ι : List Addr} {H : Hp} {d : D} {vs : List V} (h : DRs K ι H [d] vs) : ∃ v, vs = [v] ∧ DR K ι H d v := by
  cases h with
  | cons r t => cases t; exact ⟨_, rfl, r⟩
theorem drs_two {K : PySem.W.Frag} {ι : List Addr} {H : Hp} {d e : D} {vs : List V} (h : DRs K ι H [d, e] vs) : ∃ v w, vs = [v, w] ∧ DR K ι H d v ∧ DR K ι H e w := by
  cases h with
  | cons r t =>
    cases t with
    | cons r2 t => cases t; exact ⟨_, _, rfl, r, r2⟩
/-- repr of data -/
theorem repr_ok {pins : List (Addr × Obj)} {s : Shared} {σ : L2.St} {H : Hp} {v : V} {u : Value} {p : PyData} {R : VK} (hg : X.A.guards = some []) (hu : X.A.units + 64 < cLine) (I : Inv X pins σ H s) (rv : RelV v u) (hd : Dp X.K H v p) (ok : ReprOk p) (q : R (.str p.shown) H) :
    wpAny (model X.prog X.w) X.A (call (.builtin "repr") [u]) (EP X pins σ R) X.xe s := by
  obtain ⟨h1, h2, h3, h4⟩ := ok
  obtain ⟨as, rd⟩ := Dp.reads I p v u hd rv
  have big : ∀ a, u = .ref a → wpAny (model X.prog X.w) X.A (call (.builtin "repr") [u]) (EP X pins σ R) X.xe s := fun a e => by
    subst e
    exact repr_of_reads' rd h1 (fun z => by rw [h2] at z; cases z) hg (by omega) (fun _ _ e => e) (fun h' t tk hk => ⟨.str p.shown, H, I.kept hk, ⟨t, rfl⟩, q⟩) h4
  cases hd with
  | non => cases rv; exact PySem.P.repr_of_none ⟨.str _, H, I.tok _, ⟨_, rfl⟩, q⟩
  | bl b => cases rv; exact PySem.P.repr_of_bool ⟨.str _, H, I.tok _, ⟨_, rfl⟩, q⟩
  | int i =>
    obtain ⟨t, rfl⟩ := rv
    exact PySem.P.repr_of_int (by simpa [PyData.showable] using h1) ⟨.str _, H, I.tok _, ⟨_, rfl⟩, q⟩
  | str x =>
    obtain ⟨t, rfl⟩ := rv
    exact PySem.P.repr_of_str ⟨.str _, H, I.tok _, ⟨_, rfl⟩, q⟩ (by simpa only [PyData.shown] using h4)
  | lst a b => exact big _ rv
  | tup a b => exact big _ rv
def bltV : Blt → Value
  | .len => .builtin "len" | .int => .type "int" | .abs => .builtin "abs" | .max2 => .builtin "max" | .min2 => .builtin "min" | .repr => .builtin "repr" | .tuple => .type "tuple" | .list => .type "list"
  | .sum => .builtin "sum" | .all => .builtin "all" | .any => .builtin "any" | .max1 => .builtin "max" | .min1 => .builtin "min" | .bool => .type "bool" | .range1 => .type "range" | .range2 => .type "range" | .sorted => .builtin "sorted"
theorem perm_le1 {α : Type} : ∀ {its out : List α}, its.length ≤ 1 → out.Perm its → out = its
  | [], _, _, h => h.eq_nil
  | [_], _, _, h => List.perm_singleton.mp h
  | _ :: _ :: _, _, h, _ => absurd h (by simp)
theorem keyD_rel {K : PySem.W.Frag} {ι : List Addr} {H : Hp} : ∀ k : List L2.Key, DRs K ι H (k.map keyD) (k.map kV)
  | [] => .nil
  | .inl i :: k => .cons (.int i) (keyD_rel k)
  | .inr s :: k => .cons (.str s) (keyD_rel k)
theorem keys_rel {K : PySem.W.Frag} {ι : List Addr} {H : Hp} : ∀ {kvs : List (List L2.Key × D)} {vs : List (List L2.Key × V)} {bs : List Addr}, DKs K ι H kvs vs → IsKeys H vs bs → DRs K ι H (kvs.map fun kv => .tup (kv.1.map keyD)) (bs.map V.ref)
  | _, _, _, .nil, .nil => .nil
  | _, _, _, .cons r t, .cons h hs => .cons (.tup h (keyD_rel _)) (keys_rel t hs)
/-- the caller's state -/
structure Calm (X : Cx) : Prop where
  calm : X.calm = true
  guards : X.A.guards = some []
  units : X.A.units + 66 < cLine
theorem dpAll_of {K : PySem.W.Frag} {ι : List Addr} {H : Hp} {st : Store} (hs : StR K ι H st) {n : Nat} : ∀ {ds : List D} {vs : List V} {ps : List PyData}, DRs K ι H ds vs → mapO (toPy st n) ds = some ps → DpAll K H vs ps
  | [], _, ps, .nil, h => by
    cases h
    exact .nil
  | d :: ds, _, ps, .cons r rs, h => by
    simp only [mapO] at h
    split at h
    · rename_i y ys e1 e2
      cases h
      exact .cons (dp_of hs n _ _ _ r e1) (dpAll_of hs rs e2)
    · cases h
theorem rel_at {K : PySem.W.Frag} {ι : List Addr} {H : Hp} : ∀ {ds : List D} {vs : List V} {us : List Value} {i : Nat} {u : Value}, DRs K ι H ds vs → Vals vs us → us[i]? = some u → ∃ y dy, vs[i]? = some y ∧ ds[i]? = some dy ∧ RelV y u ∧ DR K ι H dy y
  | _, _, _, i, u, .nil, .nil, h => by simp at h
  | _, _, _, 0, u, .cons r rs, .cons q qs, h => by
    obtain rfl := Option.some.inj (show some _ = some u from h)
    exact ⟨_, _, rfl, rfl, q, r⟩
  | _, _, _, i + 1, u, .cons r rs, .cons q qs, h => by
    obtain ⟨y, dy, h1, h2, h3, h4⟩ := rel_at rs qs (i := i) (u := u) (by simpa using h)
    exact ⟨y, dy, by simpa using h1, by simpa using h2, h3, h4⟩
/-- rows that stand for one another, one by one -/
theorem trip {pins : List (Addr × Obj)} {s : Shared} {σ : L2.St} {H : Hp} {ι : List Addr} (I : Inv X pins σ H s) : ∀ {ys : List D} {vs : List V} {ps : List PyData} {its : List Value}, DRs X.K ι H ys vs → DpAll X.K H vs ps → Vals vs its →
    ∃ bs : List (V × D × PyData), bs.map (·.1) = vs ∧ bs.map (·.2) = ys.zip ps ∧ bs.map (·.2.2) = ps ∧ PySem.W.EachIs (fun v b => RelV b.1 v ∧ DR X.K ι H b.2.1 b.1) its bs ∧ PySem.W.EachIs (fun v b => ∃ as, Reads s.heap v b.2.2 as) its bs
  | _, _, _, _, .nil, .nil, .nil => ⟨[], rfl, rfl, rfl, .nil, .nil⟩
  | _, _, _, _, .cons (d := d) (v := v) r rs, .cons (d := p) q qs, .cons w ws => by
    obtain ⟨bs, h1, h2, h3, h4, h5⟩ := trip I rs qs ws
    exact ⟨(v, d, p) :: bs, by rw [List.map_cons, h1], by rw [List.map_cons, h2]; rfl, by rw [List.map_cons, h3], .cons ⟨w, r⟩ h4, .cons (Dp.reads I p v _ q w) h5⟩
theorem each_rel {K : PySem.W.Frag} {ι : List Addr} {H : Hp} : ∀ {out : List Value} {bs : List (V × D × PyData)}, PySem.W.EachIs (fun v b => RelV b.1 v ∧ DR K ι H b.2.1 b.1) out bs → Vals (bs.map (·.1)) out ∧ DRs K ι H (bs.map (·.2.1)) (bs.map (·.1))
  | _, _, .nil => ⟨.nil, .nil⟩
  | _, _, .cons a b => ⟨.cons a.1 (each_rel b).1, .cons a.2 (each_rel b).2⟩
theorem int_map {K : PySem.W.Frag} {ι : List Addr} {H : Hp} : ∀ ns : List Int, DRs K ι H (ns.map D.int) (ns.map V.int)
  | [] => .nil
  | n :: ns => .cons (.int n) (int_map ns)
theorem callB (c : Calm X) (b : Blt) : CallR X (bltV b) (TVs X.K (bltS b)) := by
  intro pins s σ H xs us R I rx ⟨ι, ds, st, Q, hs, hd, hb, hp⟩
  cases b with
  | len =>
    obtain ⟨x, rfl, hb⟩ := hb
    obtain ⟨v, rfl, hx⟩ := drs_one hd
    rcases hb with ⟨ys, e, q⟩ | ⟨n, kvs, rfl, e, q⟩
    · obtain ⟨a, vs, rfl, hq, r⟩ := seqS_of hs hx e
      exact call_len_seq pins s σ H _ us R I rx ⟨a, vs, rfl, hq, by rw [← r.len]; exact hp.fin (.int _) hs q⟩
    · obtain ⟨a, vs, rfl, g, r⟩ := dget_of hs hx e
      obtain ⟨u, rfl, ru⟩ := vals1 rx
      cases ru
      refine d_len I (.inl g) fun t s' I' => ⟨.int _, H, I', ⟨t, rfl⟩, ?_⟩
      rw [← r.len]
      exact hp.fin (.int _) hs q
  | int =>
    rcases hb with ⟨i, rfl, q⟩ | ⟨k, rfl, q⟩
    · obtain ⟨v, rfl, hx⟩ := drs_one hd
      cases hx
      exact call_int1 pins s σ H _ us R I rx (.inl ⟨i, rfl, hp.fin (.int _) hs q⟩)
    · obtain ⟨v, rfl, hx⟩ := drs_one hd
      cases hx
      exact call_int1 pins s σ H _ us R I rx (.inr ⟨k, rfl, hp.fin (.int _) hs q⟩)
  | bool =>
    rcases hb with ⟨i, rfl, q⟩ | ⟨k, rfl, q⟩
    · obtain ⟨v, rfl, hx⟩ := drs_one hd
      cases hx
      exact call_bool1 pins s σ H _ us R I rx (.inl ⟨i, rfl, hp.fin (.bl _) hs q⟩)
    · obtain ⟨v, rfl, hx⟩ := drs_one hd
      cases hx
      exact call_bool1 pins s σ H _ us R I rx (.inr ⟨k, rfl, hp.fin (.bl _) hs q⟩)
  | abs =>
    obtain ⟨i, rfl, q⟩ := hb
    obtain ⟨v, rfl, hx⟩ := drs_one hd
    cases hx
    exact call_abs pins s σ H _ us R I rx ⟨i, rfl, hp.fin (.int _) hs q⟩
  | max2 =>
    obtain ⟨i, j, rfl, q⟩ := hb
    obtain ⟨v, w, rfl, hx, hy⟩ := drs_two hd
    cases hx
    cases hy
    exact call_max2 c.calm pins s σ H _ us R I rx ⟨i, j, rfl, hp.fin (.int _) hs q⟩
  | min2 =>
    obtain ⟨i, j, rfl, q⟩ := hb
    obtain ⟨v, w, rfl, hx, hy⟩ := drs_two hd
    cases hx
    cases hy
    exact call_min2 c.calm pins s σ H _ us R I rx ⟨i, j, rfl, hp.fin (.int _) hs q⟩
  | repr =>
    obtain ⟨x, p, rfl, e, ok, q⟩ := hb
    obtain ⟨v, rfl, hx⟩ := drs_one hd
    obtain ⟨u, rfl, ru⟩ := vals1 rx
    exact repr_ok c.guards (by have := c.units; omega) I ru (dp_of hs 32 x v p hx e) ok (hp.fin (.str _) hs q)
  | tuple =>
    obtain ⟨x, ys, rfl, e, q⟩ := hb
    obtain ⟨v, rfl, hx⟩ := drs_one hd
    cases hx with
    | @tup a vs ds h1 h2 =>
      cases e
      exact call_tuple_of pins s σ H _ us R I rx ⟨a, vs, rfl, .inr ⟨SqT.of h1, hp.fin (.tup h1 h2) hs q⟩⟩
    | @ref n a h1 =>
      obtain ⟨a, vs, e1, hq, r⟩ := listS_of (d := .ref n) hs (.ref h1) (show listS st (.ref n) = some ys by simpa only [seqT, listS] using e)
      cases e1
      exact call_tuple_of pins s σ H _ us R I rx ⟨a, vs, rfl, .inl ⟨hq, hp.tup r hs q⟩⟩
    | _ => cases e
  | list =>
    rcases hb with ⟨x, ys, rfl, e, q⟩ | ⟨n, kvs, rfl, e, q⟩
    rotate_left
    · obtain ⟨v, rfl, hx⟩ := drs_one hd
      obtain ⟨a, vs, rfl, g, r⟩ := dgetT_of hs hx e
      refine call_list_dT c.calm pins s σ H _ us R I rx ⟨a, vs, rfl, .inl g, fun p bs hp' hk => hp.lst (keys_rel r hk) hs q p hp'⟩
    obtain ⟨v, rfl, hx⟩ := drs_one hd
    obtain ⟨a, vs, rfl, hq, r⟩ := seqS_of hs hx e
    exact call_list_of pins s σ H _ us R I rx ⟨a, vs, rfl, hq, hp.lst r hs q⟩
  | sum =>
    obtain ⟨x, ys, ns, rfl, e, e2, q⟩ := hb
    obtain ⟨v, rfl, hx⟩ := drs_one hd
    obtain ⟨a, vs, rfl, hq, r⟩ := listS_of hs hx e
    obtain rfl := ints_rel r e2
    exact cr_sum c.calm pins s σ H _ us R I rx ⟨a, ns, rfl, hq, hp.fin (.int _) hs q⟩
  | all =>
    obtain ⟨x, ys, ns, rfl, e, e2, q⟩ := hb
    obtain ⟨v, rfl, hx⟩ := drs_one hd
    obtain ⟨a, vs, rfl, hq, r⟩ := listS_of hs hx e
    obtain rfl := bls_rel r e2
    exact cr_all c.calm pins s σ H _ us R I rx ⟨a, ns, rfl, hq, hp.fin (.bl _) hs q⟩
  | any =>
    obtain ⟨x, ys, ns, rfl, e, e2, q⟩ := hb
    obtain ⟨v, rfl, hx⟩ := drs_one hd
    obtain ⟨a, vs, rfl, hq, r⟩ := listS_of hs hx e
    obtain rfl := bls_rel r e2
    exact cr_any c.calm pins s σ H _ us R I rx ⟨a, ns, rfl, hq, hp.fin (.bl _) hs q⟩
  | max1 =>
    rcases hb with ⟨x, ys, ns, rfl, e, e2, hl, q⟩ | ⟨x, ys, pd, ps, rfl, e, e2, hal, hdp, q⟩
    rotate_left
    · obtain ⟨v, rfl, hx⟩ := drs_one hd
      obtain ⟨a, vs, rfl, hq, r⟩ := listS_of hs hx e
      obtain ⟨its, rv, hl, _⟩ := I.list hq
      obtain ⟨as, hrd⟩ := Dp.readsAll I (pd :: ps) vs its (dpAll_of hs r e2) rv
      rw [Vals.ref1 rx]
      refine PySem.W.max_list_data (I.ok.hd c.calm) hl.isList (by simpa using hrd) hal (by have := c.units; omega) fun i v h' tk bs hv _ hk => ?_
      have hv' : its[i]? = some v := by simpa using hv
      obtain ⟨y, dy, hy, hdy, rvy, rdy⟩ := rel_at r rv hv'
      exact ⟨y, H, I.kept hk, rvy, hp.fin rdy hs (q dy (List.mem_of_getElem? hdy))⟩
    obtain ⟨v, rfl, hx⟩ := drs_one hd
    obtain ⟨a, vs, rfl, hq, r⟩ := listS_of hs hx e
    obtain rfl := ints_rel r e2
    exact cr_max c.calm pins s σ H _ us R I rx ⟨a, ns, rfl, hq, hl, fun m h1 h2 => hp.fin (.int _) hs (q m h1 h2)⟩
  | min1 =>
    rcases hb with ⟨x, ys, ns, rfl, e, e2, hl, q⟩ | ⟨x, ys, pd, ps, rfl, e, e2, hal, hdp, q⟩
    rotate_left
    · obtain ⟨v, rfl, hx⟩ := drs_one hd
      obtain ⟨a, vs, rfl, hq, r⟩ := listS_of hs hx e
      obtain ⟨its, rv, hl, _⟩ := I.list hq
      obtain ⟨as, hrd⟩ := Dp.readsAll I (pd :: ps) vs its (dpAll_of hs r e2) rv
      rw [Vals.ref1 rx]
      refine PySem.W.min_list_data (I.ok.hd c.calm) hl.isList (by simpa using hrd) hal (by have := c.units; omega) fun i v h' tk bs hv _ hk => ?_
      have hv' : its[i]? = some v := by simpa using hv
      obtain ⟨y, dy, hy, hdy, rvy, rdy⟩ := rel_at r rv hv'
      exact ⟨y, H, I.kept hk, rvy, hp.fin rdy hs (q dy (List.mem_of_getElem? hdy))⟩
    obtain ⟨v, rfl, hx⟩ := drs_one hd
    obtain ⟨a, vs, rfl, hq, r⟩ := listS_of hs hx e
    obtain rfl := ints_rel r e2
    exact cr_min c.calm pins s σ H _ us R I rx ⟨a, ns, rfl, hq, hl, fun m h1 h2 => hp.fin (.int _) hs (q m h1 h2)⟩
  | sorted =>
    rcases hb with ⟨x, ys, ns, rfl, e, e2, q⟩ | ⟨x, ys, ps, rfl, e, e2, hal, hst, hdp, q⟩ | ⟨x, ys, rfl, e, hl1, q⟩
    rotate_left 2
    · obtain ⟨v, rfl, hx⟩ := drs_one hd
      obtain ⟨a, vs, rfl, hq, r⟩ := listS_of hs hx e
      obtain ⟨its, rv, hl, hz⟩ := I.list hq
      rw [Vals.ref1 rx]
      have hvl : its.length ≤ 1 := by rw [← rv.length, ← r.len]; exact hl1
      refine Srt.sorted_any hl.isList (by rw [← rv.length]; exact hz) (fun h2 => absurd h2 (by omega)) fun out ho => ?_
      have ho' : out = its := perm_le1 hvl ho
      subst ho'
      obtain ⟨ep, he'⟩ := PyProof.Rows.sortedAll_at s.heap out out.toArray
      exact ⟨.ref (s.heap.objs.size + 1), upd H (s.heap.objs.size + 1) (.lst vs), I.laid (t' := s.toks) (fun _ _ => PyProof.Rows.sortedAll_old) (Nat.le_succ _) ⟨hz, out, ep, rv, he'⟩, rfl, hp.lst r hs q _ (I.hok.fresh (Nat.le_succ _))⟩
    · obtain ⟨v, rfl, hx⟩ := drs_one hd
      obtain ⟨a, vs, rfl, hq, r⟩ := listS_of hs hx e
      obtain rfl := ints_rel r e2
      exact cr_sortedI pins s σ H _ us R I rx ⟨a, ns, rfl, hq, fun ns' p h1 h2 hn => hp.lst (int_map ns') hs (q ns' h1 h2) p hn⟩
    · obtain ⟨v, rfl, hx⟩ := drs_one hd
      obtain ⟨a, vs, rfl, hq, r⟩ := listS_of hs hx e
      obtain ⟨its, rv, hl, hz⟩ := I.list hq
      obtain ⟨bs, b1, b2, b3, b4, b5⟩ := trip I r (dpAll_of hs r e2) rv
      rw [Vals.ref1 rx]
      have hlen : bs.length = vs.length := by rw [← b1, List.length_map]
      refine PySem.W.sorted_data (enc := fun b : V × D × PyData => b.2.2) hl.isList b4 b5 (by rw [b3]; exact hal) (by rw [b3]; exact hst) (by rw [hlen]; exact hz) (fun b hb => ?_) fun out ho hr => ?_
      · have := hdp b.2.2 (by rw [← b3]; exact List.mem_map.mpr ⟨b, hb, rfl⟩)
        have := c.units
        omega
      · obtain ⟨r1, r2⟩ := each_rel hr
        obtain ⟨ep, he'⟩ := PyProof.Rows.sortedAll_at s.heap its out.toArray
        refine ⟨.ref (s.heap.objs.size + 1), upd H (s.heap.objs.size + 1) (.lst _), I.laid (t' := s.toks) (fun _ _ => PyProof.Rows.sortedAll_old) (Nat.le_succ _) ⟨?_, out, ep, r1, he'⟩, rfl, ?_⟩
        · rw [r1.length, ho, hlen]
          exact hz
        · have hq := q _ rfl
          rw [← b2, ← List.map_mergeSort (f := fun b : V × D × PyData => b.2) (r := PySem.W.dataLe false fun b : V × D × PyData => b.2.2) (fun _ _ _ _ => rfl), List.map_map] at hq
          exact hp.lst r2 hs hq _ (I.hok.fresh (Nat.le_succ _))
  | range1 => exact hb.elim
  | range2 => exact hb.elim
/-- the names of the built-in functions that are called -/
def bltT : List (Str × Nat × Blt) := [("len", 1, .len), ("int", 1, .int), ("abs", 1, .abs), ("repr", 1, .repr), ("tuple", 1, .tuple), ("list", 1, .list), ("sum", 1, .sum), ("all", 1, .all), ("any", 1, .any), ("bool", 1, .bool),
  ("max", 1, .max1), ("max", 2, .max2), ("min", 1, .min1), ("min", 2, .min2), ("sorted", 1, .sorted)]
def bltN (n : Str) (k : Nat) : Option Blt := (bltT.find? fun x => decide (x.1 = n) && decide (x.2.1 = k)).map fun x => x.2.2
theorem bltT_ok : ∀ x ∈ bltT, bootBuiltins x.1 = some (bltV x.2.2) ∧ x.1 ≠ "__name__" ∧ (x.1 == ("__debug__" : Str)) = false := by
  decide +kernel
theorem bltN_boot {n : Str} {k : Nat} {b : Blt} (h : bltN n k = some b) : bootBuiltins n = some (bltV b) ∧ n ≠ "__name__" ∧ (n == ("__debug__" : Str)) = false := by
  unfold bltN at h
  cases e : bltT.find? fun x => decide (x.1 = n) && decide (x.2.1 = k) with
  | none => rw [e] at h; cases h
  | some x =>
    rw [e] at h
    cases h
    have h1 := List.find?_some e
    rw [Bool.and_eq_true] at h1
    have h2 : x.1 = n := of_decide_eq_true h1.1
    have h3 := bltT_ok x (List.mem_of_find?_eq_some e)
    rw [h2] at h3
    exact h3
variable {e : Expr} {es : List Expr} {ca ce : C} {p pos : Pos}
theorem d_blt (cm : Calm X) {b : Blt} {x : Str} (hN : bltN x (es.length + 1) = some b) (hg : Gl X x) (hm : X.mg x = none) (hst : (e :: es).all notStar = true) (ha : PA X (e :: es) (TDA X.K F ca)) : PE X (.Call (.Name x p) (e :: es) [] pos) (TD X.K F (.blt b ca)) := by
  obtain ⟨hv, hn, hdb⟩ := bltN_boot hN
  rw [List.all_cons, Bool.and_eq_true] at hst
  have hs1 := star_cons hst.1 es X.env
  have hs2 := star_any pos X.env es hst.2
  have w : ∀ σ H R, TD X.K F (.blt b ca) σ H R → tCB (TVs X.K (bltS b)) (TDA X.K F ca) σ H R := fun σ H R ⟨ι, ρ, st, Q, e, s, q, p⟩ => .go e s q fun vs H1 ι1 ds st1 h1 k1 e1 d1 s1 q1 => by
    obtain ⟨xs, ex, q2⟩ := q1
    cases ex
    exact ⟨ι1, ds, st1, Q, s1, d1, q2, p.shift h1 k1⟩
  have hc := callB cm b
  cases b <;> first
    | exact (pe_callB hc hg hm hv ha hn hdb hs1 hs2).weak w
    | exact (pe_callTy hc hg hm hv ha hn hdb hs1 hs2).weak w

/-! ### methods of lists -/
theorem mthL (m : Mth) : ∃ id : String, (match m with | .append => id = "list.append" | .pop => id = "list.pop" | .popAt => id = "list.pop" | .extend => id = "list.extend") ∧
    MtR X id (fun x xs H R => ∃ ι d ds st Q, StR X.K ι H st ∧ DR X.K ι H d x ∧ DRs X.K ι H ds xs ∧ mthS m d ds st Q ∧ Post X.K ι H Q R) := by
  cases m with
  | append =>
    refine ⟨_, rfl, ?_⟩
    intro pins s σ H x xs v us R I rx rxs ⟨ι, d, ds, st, Q, hs, hd, hds, hb, hp⟩
    obtain ⟨n, ys, y, rfl, rfl, e, hl, q⟩ := hb
    obtain ⟨w, rfl, hy⟩ := drs_one hds
    cases hd with
    | @ref _ a h1 =>
      obtain ⟨vs, g, r⟩ := cell_lst hs h1 e
      have rr := r.append (.one hy)
      obtain ⟨k, s'⟩ := lst_put hs h1 g rr
      exact mt_append pins s σ H _ _ v us R I rx rxs ⟨a, vs, w, rfl, rfl, g, by rw [← r.len]; exact hl, hp _ _ ι .non _ (List.prefix_refl _) k .non s' q⟩
  | pop =>
    refine ⟨_, rfl, ?_⟩
    intro pins s σ H x xs v us R I rx rxs ⟨ι, d, ds, st, Q, hs, hd, hds, hb, hp⟩
    obtain ⟨n, ys, y, rfl, rfl, e, hl, q⟩ := hb
    cases hds
    cases hd with
    | @ref _ a h1 =>
      obtain ⟨vs, g, r⟩ := cell_lst hs h1 e
      obtain ⟨k, s'⟩ := lst_put hs h1 g r.dropLast
      obtain ⟨w, hw, rw'⟩ := r.get hl
      exact mt_pop pins s σ H _ _ v us R I rx rxs ⟨a, vs, w, rfl, rfl, g, by rw [← r.len]; exact hw, hp _ _ ι y _ (List.prefix_refl _) k (rw'.mono (List.prefix_refl _) k) s' q⟩
  | popAt =>
    refine ⟨_, rfl, ?_⟩
    intro pins s σ H x xs v us R I rx rxs ⟨ι, d, ds, st, Q, hs, hd, hds, hb, hp⟩
    obtain ⟨n, ys, i, j, y, rfl, rfl, e, hi, hj, hl, q⟩ := hb
    obtain ⟨w, rfl, hy⟩ := drs_one hds
    cases hy
    cases hd with
    | @ref _ a h1 =>
      obtain ⟨vs, g, r⟩ := cell_lst hs h1 e
      obtain ⟨k, s'⟩ := lst_put hs h1 g (r.erase j)
      obtain ⟨w, hw, rw'⟩ := r.get hl
      exact mt_popAt pins s σ H _ _ v us R I rx rxs ⟨a, vs, i, j, w, rfl, rfl, g, hi.1, hi.2, by rw [← r.len]; exact hj, hw, hp _ _ ι y _ (List.prefix_refl _) k (rw'.mono (List.prefix_refl _) k) s' q⟩
  | extend =>
    refine ⟨_, rfl, ?_⟩
    intro pins s σ H x xs v us R I rx rxs ⟨ι, d, ds, st, Q, hs, hd, hds, hb, hp⟩
    obtain ⟨n, ys, m, zs, rfl, rfl, e, e2, hl, q⟩ := hb
    obtain ⟨w, rfl, hy⟩ := drs_one hds
    cases hd with
    | @ref _ a h1 =>
      cases hy with
      | @ref _ b h2 =>
        obtain ⟨vs, g, r⟩ := cell_lst hs h1 e
        obtain ⟨ws, g2, r2⟩ := cell_lst hs h2 e2
        obtain ⟨k, s'⟩ := lst_put hs h1 g (r.append r2)
        exact mt_extend pins s σ H _ _ v us R I rx rxs ⟨a, b, vs, ws, rfl, rfl, g, g2, by rw [← r.len, ← r2.len]; exact hl, hp _ _ ι .non _ (List.prefix_refl _) k .non s' q⟩
end
end Cb

namespace Cb
open PySem PySem.Spec PyProof.Rows L2
section
variable {X : Cx} {F : Fm} {o e : Expr} {es : List Expr} {co ca ce : C} {p pos apos cpos : Pos}
/-! ## methods of lists -/
theorem ty_list {K : PySem.W.Frag} {ι : List Addr} {H : Hp} {st : Store} (hs : StR K ι H st) {d : D} {v : V} {xs : List D} (r : DR K ι H d v) (e : listS st d = some xs) : tyV K "list" v H := by
  obtain ⟨a, vs, rfl, h, _⟩ := listS_of hs r e
  exact .inl ⟨rfl, vs, h⟩
theorem d_mth1 {m : Mth} {name : Str} (hm : m = .append ∧ name = "append" ∨ m = .popAt ∧ name = "pop" ∨ m = .extend ∧ name = "extend") (ho : PE X o (TD X.K F co)) (ha : PA X [e] (TDA X.K F ca)) (hb : plainBase o = true) (hl : (apos.endLine == cpos.line) = true) (he : notStar e = true) :
    PE X (.Call (.Attribute o name apos) [e] [] cpos) (TD X.K F (.mth m co ca)) := by
  have hst : ([e] : List Expr).all notStar = true := by simp [he]
  have few : ((backTo cpos (starEach [e] X.env)).all (fun x => !x.1) && (backToKw cpos (keywordEach [] X.env)).all (fun x => x.1.isSome) && decide (([e] : List Expr).length + ([] : List Keyword).length + (if ([] : List Keyword).isEmpty then 0 else 1) < 30)) = true := by
    rw [star_few cpos X.env [e] hst]
    rfl
  have hw : ∀ σ H R, TD X.K F (.mth m co ca) σ H R → tBM X.K "list" (fun x xs H R => ∃ ι d ds st Q, StR X.K ι H st ∧ DR X.K ι H d x ∧ DRs X.K ι H ds xs ∧ mthS m d ds st Q ∧ Post X.K ι H Q R) (TD X.K F co) (TDA X.K F ca) σ H R :=
    fun σ H R ⟨ι, ρ, st, Q, e, s, q, p⟩ => .go e s q fun x H1 ι1 d st1 h1 k1 e1 d1 s1 q1 => by
      obtain ⟨xs, ex, q2⟩ := q1
      exact ⟨ty_list s1 d1 ex, .go e1 s1 q2 fun vs H2 ι2 ds st2 h2 k2 e2 d2 s2 q3 => by
        obtain ⟨ys, ey, q4⟩ := q3
        cases ey
        exact ⟨ι2, d, ds, st2, Q, s2, d1.mono h2 k2, d2, q4, p.shift (h1.trans h2) (k1.trans k2)⟩⟩
  obtain ⟨id, hid, hmt⟩ := mthL (X := X) m
  rcases hm with ⟨rfl, rfl⟩ | ⟨rfl, rfl⟩ | ⟨rfl, rfl⟩
  · simp only at hid
    subst hid
    exact (pe_bm PySem.F.plainAttrs_list PySem.F.slot_list_append PySem.F.type_list_append hmt ho ha (base_ok hb _ _ _) few hl (star_cons he _ _) rfl).weak hw
  · simp only at hid
    subst hid
    exact (pe_bm PySem.F.plainAttrs_list PySem.F.slot_list_pop PySem.F.type_list_pop hmt ho ha (base_ok hb _ _ _) few hl (star_cons he _ _) rfl).weak hw
  · simp only at hid
    subst hid
    exact (pe_bm PySem.F.plainAttrs_list PySem.F.slot_list_extend PySem.F.type_list_extend hmt ho ha (base_ok hb _ _ _) few hl (star_cons he _ _) rfl).weak hw
theorem d_mth0 (ho : PE X o (TD X.K F co)) (hb : plainBase o = true) (hl : (apos.endLine == cpos.line) = true) : PE X (.Call (.Attribute o "pop" apos) [] [] cpos) (TD X.K F (.mth .pop co .nil)) := by
  obtain ⟨id, hid, hmt⟩ := mthL (X := X) .pop
  simp only at hid
  subst hid
  exact (pe_bm0 PySem.F.plainAttrs_list PySem.F.slot_list_pop PySem.F.type_list_pop hmt ho (base_ok hb _ _ _) hl).weak fun σ H R ⟨ι, ρ, st, Q, e, s, q, p⟩ => .go e s q fun x H1 ι1 d st1 h1 k1 e1 d1 s1 q1 => by
    obtain ⟨xs, ex, ys, ey, q2⟩ := q1
    cases ey
    exact ⟨ty_list s1 d1 ex, ι1, d, [], st1, Q, s1, d1, .nil, q2, p.shift h1 k1⟩

/-! ## isinstance -/
def tyStr : Ty → String
  | .non => "NoneType" | .bool => "bool" | .int => "int" | .str => "str" | .list => "list" | .tuple => "tuple" | .dict => "dict"
theorem kit_tab (t u : Ty) : kitB (tyStr t) (tyStr u) = some (isTy t u) := by
  cases t <;> cases u <;> decide +kernel
theorem tyX_of {K : PySem.W.Frag} {ι : List Addr} {H : Hp} {st : Store} (hs : StR K ι H st) {d : D} {v : V} {t : Ty} (r : DR K ι H d v) (e : tyOf st d = some t) : TyX K H v (.type (tyStr t)) := by
  cases r with
  | non => cases e; exact .base .non
  | bl b => cases e; exact .base (.bl b)
  | int b => cases e; exact .base (.int b)
  | str b => cases e; exact .base (.str b)
  | @tup a vs ds h1 h2 =>
    cases e
    exact .base (.tup h1)
  | @ktp a vs ds h1 h2 =>
    cases e
    rcases h1 with (h1 | ⟨o, h1⟩) | ⟨o, its, n, hk, hc, _⟩
    · exact .base (.tup h1)
    · exact .fTuple h1
    · exact .kTuple hk hc
  | @ref n a h1 =>
    simp only [tyOf] at e
    split at e
    · rename_i e0
      cases e
      obtain ⟨vs, g, r⟩ := hs.at e0 h1
      exact .base (.lst g)
    · rename_i e0
      cases e
      obtain ⟨o, vs, g, r⟩ := hs.at e0 h1
      exact .base (.frz g)
    · rename_i e0
      cases e
      obtain ⟨vs, g, r⟩ := hs.at e0 h1
      exact .base (.dK g)
    all_goals cases e
def tyT : List (Str × Ty) := [("bool", .bool), ("int", .int), ("str", .str), ("list", .list), ("tuple", .tuple), ("dict", .dict)]
def tyN (n : Str) : Option Ty := tyT.lookup n
theorem tyT_ok : ∀ x ∈ tyT, bootBuiltins x.1 = some (.type (tyStr x.2)) ∧ x.1 ≠ "__name__" ∧ (x.1 == ("__debug__" : Str)) = false := by decide +kernel
theorem tyN_boot {n : Str} {t : Ty} (h : tyN n = some t) : bootBuiltins n = some (.type (tyStr t)) ∧ n ≠ "__name__" ∧ (n == ("__debug__" : Str)) = false :=
  tyT_ok (n, t) (PySem.mem_of_lookup h)
theorem d_isi1 {x : Str} {t : Ty} {px : Pos} (hg : Gl X "isinstance") (hm : X.mg "isinstance" = none) (ha : PE X e (TD X.K F ce)) (hx : tyN x = some t) (hgx : Gl X x) (hmx : X.mg x = none) (he : notStar e = true) :
    PE X (.Call (.Name "isinstance" p) [e, .Name x px] [] cpos) (TD X.K F (.isi ce [t])) := by
  obtain ⟨b1, b2, b3⟩ := tyN_boot hx
  refine (pe_callB call_isi hg hm (by decide +kernel) (pa_cons ha (pa_cons (pe_bltn (v := .ty (tyStr t)) hgx hmx b1 rfl b2 b3) pa_nil rfl) (star_cons he _ _)) (by decide +kernel) (by decide +kernel) (star_cons he _ _) rfl).weak fun σ H R ⟨ι, ρ, st, Q, e, s, q, p⟩ => .go e s q fun v H1 ι1 d st1 h1 k1 e1 d1 s1 q1 => ?_
  obtain ⟨t', et, q2⟩ := q1
  exact ⟨v, .ty (tyStr t), _, _, isTy t' t, rfl, .ty _, tyX_of s1 d1 et, kit_ty (kit_tab t' t), (p.shift h1 k1).fin (.bl _) s1 (by simpa using q2)⟩
/-- a tuple of types -/
inductive TyNs (X : Cx) : List Expr → List Ty → Prop
  | nil : TyNs X [] []
  | cons {x : Str} {px : Pos} {t : Ty} {es : List Expr} {ts : List Ty} : tyN x = some t → Gl X x → X.mg x = none → TyNs X es ts → TyNs X (.Name x px :: es) (t :: ts)
theorem tyNs_pa {es : List Expr} {ts : List Ty} (h : TyNs X es ts) : PA X es fun σ H R => R (ts.map fun t => .ty (tyStr t)) H := by
  induction h with
  | nil => exact pa_nil
  | cons h1 h2 h3 _ ih =>
    obtain ⟨b1, b2, b3⟩ := tyN_boot h1
    exact (pa_cons (pe_bltn (v := .ty (tyStr _)) h2 h3 b1 rfl b2 b3) ih rfl).weak fun σ H R q => q
theorem kit_any {K : PySem.W.Frag} (t : Ty) : ∀ ts : List Ty, PySem.W.kitAny K (.type (tyStr t)) (ts.map fun u => .type (tyStr u)) = some (ts.any fun u => isTy t u)
  | [] => kitAny_nil
  | u :: ts => by
    rw [List.map_cons, List.any_cons]
    refine kitAny_cons (kit_ty (kit_tab t u)) (fun hb => ?_) (fun hb => ?_)
    · rw [hb, Bool.false_or]
      exact kit_any t ts
    · rw [hb, Bool.true_or]
theorem cls_all : ∀ ts : List Ty, Paired ClsV (ts.map fun t => V.ty (tyStr t)) (ts.map fun t => Value.type (tyStr t))
  | [] => .nil
  | t :: ts => .cons (.ty _) (cls_all ts)
theorem d_isiT {ts : List Ty} {j : Nat} {px : Pos} (hg : Gl X "isinstance") (hm : X.mg "isinstance" = none) (ha : PE X e (TD X.K F ce)) (ht : TyNs X es ts) (hl : ts.length ≤ 100) (he : notStar e = true) :
    PE X (.Call (.Name "isinstance" p) [e, .Tuple es j px] [] cpos) (TD X.K F (.isi ce ts)) := by
  refine (pe_callB call_isiT hg hm (by decide +kernel) (pa_cons ha (pa_cons (pe_tup (tyNs_pa ht)) pa_nil rfl) (star_cons he _ _)) (by decide +kernel) (by decide +kernel) (star_cons he _ _) rfl).weak fun σ H R ⟨ι, ρ, st, Q, e, s, q, p⟩ => .go e s q fun v H1 ι1 d st1 h1 k1 e1 d1 s1 q1 => ?_
  obtain ⟨t', et, q2⟩ := q1
  refine ⟨by rw [List.length_map, sizeLine_eq]; omega, fun a hp => ?_⟩
  have s2 := s1.newTup (o := .tup (ts.map fun t => .ty (tyStr t))) hp
  have d2 := d1.mono (List.prefix_refl _) (KeepT.new (o := .tup (ts.map fun t => .ty (tyStr t))) hp)
  exact ⟨v, a, _, _, _, _, rfl, upd_same, cls_all ts, tyX_of s2 d2 et, kit_any t' ts, ((p.shift h1 k1).shift (List.prefix_refl _) (.new1 hp)).fin (.bl _) s2 q2⟩

/-! ## a written dict -/
/-- its keys: texts or whole numbers -/
def keyC : Expr → Option Key
  | .Constant (.str s) _ _ => some (.inr s)
  | .Constant (.int i) _ _ => some (.inl i)
  | _ => none
theorem key_pe {k : Expr} {kk : Key} (h : keyC k = some kk) : PE X k (tC (kV kk)) := by
  unfold keyC at h
  split at h <;> cases h
  · exact pe_str
  · exact pe_int
/-- the values' readings beside the keys -/
def TPs (K : PySem.W.Frag) (F : Fm) : List Key → C → List (TE × TE)
  | k :: ks, .cons c cs => (tC (kV k), TD K F c) :: TPs K F ks cs
  | _, _ => []
inductive Dsp (X : Cx) (F : Fm) : List (Option Expr) → List Expr → List Key → C → Prop
  | nil : Dsp X F [] [] [] .nil
  | cons {k v : Expr} {kk : Key} {c cs : C} {ks : List (Option Expr)} {vs : List Expr} {kks : List Key} : keyC k = some kk → PE X v (TD X.K F c) → Dsp X F ks vs kks cs → Dsp X F (some k :: ks) (v :: vs) (kk :: kks) (.cons c cs)
theorem dsp_pps {ks : List (Option Expr)} {vs : List Expr} {kks : List Key} {cs : C} (h : Dsp X F ks vs kks cs) (pos : Pos) : PPs X pos ks vs (TPs X.K F kks cs) := by
  induction h with
  | nil => exact pps_nil
  | cons h1 h2 _ ih => exact pps_cons (key_pe h1) h2 ih
theorem dsp_len {ks : List (Option Expr)} {vs : List Expr} {kks : List Key} {cs : C} (h : Dsp X F ks vs kks cs) : ks.length = kks.length ∧ ks.length = vs.length ∧ ks.all (·.isSome) = true := by
  induction h with
  | nil => exact ⟨rfl, rfl, rfl⟩
  | cons h1 h2 _ ih =>
    obtain ⟨a, b, c⟩ := ih
    refine ⟨by simp [a], by simp [b], by simp [c]⟩
/-- the values, key by key -/
theorem dsp_run {ks : List (Option Expr)} {vs : List Expr} {kks : List Key} {cs : C} (h : Dsp X F ks vs kks cs) : ∀ {ι : List Addr} {ρ : Env1} {st : Store} {σ : L2.St} {H : Hp} {Q : K1} {R : List (V × V) → Hp → Prop}, EnvR X.K ι H σ ρ → StR X.K ι H st → wp F cs ρ st Q →
    (∀ ps H' ι' (ds : List D) st', ι <+: ι' → Keep ι ι' H H' → ds.length = kks.length → (∃ zs : List (Key × V), ps = zs.map (fun kv => (kV kv.1, kv.2)) ∧ DKs X.K ι' H' (kks.zip ds) zs ∧ zs.length = kks.length) → StR X.K ι' H' st' → Q (.tup ds) st' → R ps H') → tPairs (TPs X.K F kks cs) σ H R := by
  induction h with
  | nil =>
    intro ι ρ st σ H Q R e s q k
    exact k [] H ι [] st (List.prefix_refl _) (.refl H) rfl ⟨[], rfl, .nil, rfl⟩ s q
  | @cons k v kk c cs ks vs kks h1 h2 _ ih =>
    intro ι ρ st σ H Q R e s q kont
    exact TD.go e s q fun x H1 ι1 d st1 g1 k1 e1 d1 s1 q1 => ih e1 s1 q1 fun ps H2 ι2 ds st2 g2 k2 hl ⟨zs, ez, rz, lz⟩ s2 q2 => by
      obtain ⟨xs, ex, q3⟩ := q2
      cases ex
      refine kont _ H2 ι2 (d :: ds) st2 (g1.trans g2) (k1.trans k2) (by simp [hl]) ⟨(kk, x) :: zs, by rw [ez]; rfl, .cons (d1.mono g2 k2) rz, by simp [lz]⟩ s2 q3
/-- no key twice -/
def distinct : List Key → Bool
  | [] => true
  | k :: ks => ks.all (fun j => !decide (j = k)) && distinct ks
theorem merge_new : ∀ {more kvs : List (Key × V)}, distinct (more.map (·.1)) = true → (∀ k ∈ more.map (·.1), valV kvs k = none) → mergeK kvs more = kvs ++ more
  | [], kvs, _, _ => by rw [List.append_nil]; rfl
  | p :: more, kvs, hd, hn => by
    have h1 : valV kvs p.1 = none := hn _ (by simp)
    show mergeK (putK kvs p.1 p.2) more = _
    rw [putK_new _ h1]
    rw [List.map_cons] at hd
    unfold distinct at hd
    rw [Bool.and_eq_true] at hd
    rw [merge_new hd.2 fun k hk => ?_]
    · simp
    · rw [valV_snoc _ _ _ _ h1, if_neg]
      · exact hn k (by rw [List.map_cons]; exact List.mem_cons_of_mem _ hk)
      · rintro rfl
        have := List.all_eq_true.mp hd.1 _ hk
        simp at this
theorem dks_keys {K : PySem.W.Frag} {ι : List Addr} {H : Hp} : ∀ {kks : List Key} {ds : List D} {zs : List (Key × V)}, ds.length = kks.length → DKs K ι H (kks.zip ds) zs → zs.map (·.1) = kks
  | [], ds, zs, _, h => by
    rw [List.zip_nil_left] at h
    cases h
    rfl
  | k :: kks, [], zs, hl, _ => by cases hl
  | k :: kks, d :: ds, zs, hl, h => by
    rw [List.zip_cons_cons] at h
    cases h with
    | cons r t => rw [List.map_cons, dks_keys (by simpa using hl) t]
theorem d_dsp {ks : List (Option Expr)} {vs : List Expr} {kks : List Key} {cs : C} (h : Dsp X F ks vs kks cs) (h0 : ks.isEmpty = false) (h15 : ks.length ≤ 15) (hd : distinct kks = true) : PE X (.Dict ks vs pos) (TD X.K F (.dsp kks cs)) := by
  obtain ⟨l1, l2, l3⟩ := dsp_len h
  refine (pe_disp (dsp_pps h pos) l3 l2 (fun e => by rw [e] at h0; cases h0) h15).weak fun σ H R ⟨ι, ρ, st, Q, e, s, q, p⟩ => ?_
  intro a ha
  have k0 : Keep ι ι H (upd H a (.dK [])) := .new1 ha
  refine dsp_run h (e.mono (List.prefix_refl _) k0) (s.newTup ha) q fun ps H' ι' ds st' g1 k1 hl ⟨zs, ez, rz, lz⟩ s' q' => ?_
  obtain ⟨xs, ex, q2⟩ := q'
  cases ex
  have hai : a ∉ ι := fun hm => by
    obtain ⟨n, hn⟩ := List.getElem?_of_mem hm
    obtain ⟨hlt, _⟩ := List.getElem?_eq_some_iff.mp hn
    obtain ⟨o, eo⟩ := (s.cell n _ a (List.getElem?_eq_getElem (by rw [← s.len]; exact hlt)) hn).some
    rw [ha] at eo
    cases eo
  have hH : H' a = some (.dK []) := k1.out a _ upd_same hai
  have hai' : a ∉ ι' := fun hm => by
    rcases k1.new a hm with z | z
    · exact hai z
    · rw [upd_same] at z
      cases z
  have hz := dks_keys hl rz
  refine ⟨hH, zs, ez, by omega, ?_⟩
  rw [merge_new (kvs := []) (by rw [hz]; exact hd) fun _ _ => rfl, List.nil_append]
  have kT : KeepT H' (upd H' a (.dK zs)) := .upd hH (fun _ h => by cases h) fun _ _ h => by cases h
  have hne : ∀ (n : Nat) (b : Addr), ι'[n]? = some b → b ≠ a := fun n b hb z => hai' (by rw [← z]; exact List.mem_of_getElem? hb)
  refine p (.ref a) (upd H' a (.dK zs)) (ι' ++ [a]) (.ref st'.length) _ (g1.trans (List.prefix_append _ _)) ?_ (.last s') ?_ q2
  · refine ⟨fun c x hc => kT.tup c x (k1.tup c x (k0.tup c x hc)), fun c o u hc => kT.frz c o u (k1.frz c o u (k0.frz c o u hc)), fun c o hc hn => ?_, fun c hc => ?_⟩
    · have hca : c ≠ a := ne_of_none hc ha
      rw [upd_ne hca]
      exact k1.out c o (k0.out c o hc hn) hn
    · rcases List.mem_append.mp hc with hc | hc
      · rcases k1.new c hc with z | z
        · exact .inl z
        · right
          by_cases e : c = a
          · rw [e]; exact ha
          · rw [upd_ne e] at z
            exact z
      · right
        rw [List.mem_singleton.mp hc]
        exact ha
  · refine ⟨by rw [List.length_append, List.length_append, s'.len]; rfl, ?_, fun n c b ec hb => ?_⟩
    · refine List.nodup_append.mpr ⟨s'.nd, by simp, fun x hx y hy => ?_⟩
      have : y = a := by simpa using hy
      subst this
      intro z
      subst z
      exact hai' hx
    · by_cases hn : n < st'.length
      · rw [List.getElem?_append_left hn] at ec
        rw [List.getElem?_append_left (by rw [s'.len]; exact hn)] at hb
        exact (s'.cell n c b ec hb).mono (List.prefix_append _ _) kT (upd_ne (hne n b hb))
      · have hln : n < (st' ++ [Cell.dct (kks.zip ds)]).length := (List.getElem?_eq_some_iff.mp ec).1
        have e0 : n = st'.length := by
          rw [List.length_append] at hln
          simp only [List.length_singleton] at hln
          omega
        subst e0
        rw [List.getElem?_append_right (Nat.le_refl _), Nat.sub_self] at ec
        rw [List.getElem?_append_right (by rw [s'.len]; exact Nat.le_refl _), s'.len, Nat.sub_self] at hb
        obtain rfl : _ = c := Option.some.inj ec
        obtain rfl : a = b := Option.some.inj hb
        exact ⟨zs, upd_same, rz.mono (List.prefix_append _ _) kT⟩
end
end Cb

namespace Cb
open PySem PySem.Spec PyProof.Rows L2

/-! ## what is walked -/
/-- HandS's iterator does what ours does, as long as the heap keeps what it kept at its beginning -/
def ItR (K : PySem.W.Frag) (ι0 : List Addr) (H0 : Hp) (J : It) (it : ItD) : Prop :=
  ∀ (ι : List Addr) (H : Hp) (st : Store) (i : Nat), ι0 <+: ι → KeepT H0 H → StR K ι H st →
    (it.step i st = some none → J.stop i H) ∧
    ∀ d, it.step i st = some (some d) → J.go i H ∧ ∀ x H', J.yld i H x H' → Keep ι ι H H' ∧ StR K ι H' st ∧ DR K ι H' d x
def TI' (K : PySem.W.Frag) (F : Fm) (k : Ik) (as : C) : TI := fun σ H R => ∃ (ι : List Addr) (ρ : Env1) (st : Store) (Q : ItD → Store → Prop), EnvR K ι H σ ρ ∧ StR K ι H st ∧ (wp F as ρ st fun y st1 => ∃ xs, y = .tup xs ∧ som (itOf k xs st1) fun it => Q it st1) ∧
  ∀ J H' ι' it st', ι <+: ι' → Keep ι ι' H H' → EnvR K ι' H' σ ρ → StR K ι' H' st' → ItR K ι' H' J it → Q it st' → R J H'
section
variable {X : Cx} {F : Fm} {tg a b e elt : Expr} {es : List Expr} {ca cb ce cc as : C} {p pos : Pos}
/-- a list or a tuple walked -/
theorem pi_seq {l : Expr} {tl : TE} (hl : PE X l tl) : PI X tg l (fun σ H R => tl σ H fun x H1 => ∃ a, x = .ref a ∧ (((∃ xs, SqL X.K H1 a xs) ∧ R (Itl X.K a) H1) ∨ ((∃ xs, SqT X.K H1 a xs) ∧ R (Itt X.K a) H1))) := by
  refine ⟨fun pins s σ H R I h => ?_⟩
  refine thn (hl.run pins s σ H _ I h) fun v s1 ⟨x, H1, I1, r1, q1⟩ => ?_
  obtain ⟨a, e, q1⟩ := q1
  subst e
  cases r1
  have fp : ∀ b ∈ [s1.heap.objs.size], FpOk X pins H1 b := fun b hb => by
    have e : b = s1.heap.objs.size := by simpa using hb
    subst e
    exact I1.fpOk (Nat.le_refl _) (I1.hok.fresh (Nat.le_refl _))
  rcases q1 with ⟨⟨xs, hq⟩, q⟩ | ⟨⟨xs, hq⟩, q⟩
  · obtain ⟨its, rv, pl, hz⟩ := I1.list hq
    refine wpAny_pyIter_list pl.isList ?_
    exact ⟨s1.heap.objs.size, [s1.heap.objs.size], _, _, H1, rfl, I1.kept (t' := s1.toks) fun b o e => Heap.get?_push_of_some _ e, turn_list a _, ⟨_, Heap.get?_push_size _ rfl, rfl, rfl⟩, fp, q⟩
  · obtain ⟨its, rv, pl, hz⟩ := I1.tuple hq
    refine wpAny_pyIter_tuple (show s1.heap.IsTuple a its.toArray from pl) ?_
    exact ⟨s1.heap.objs.size, [s1.heap.objs.size], _, _, H1, rfl, I1.kept (t' := s1.toks) fun b o e => Heap.get?_push_of_some _ e, turn_tuple a _, ⟨_, Heap.get?_push_size _ rfl, rfl, rfl⟩, fp, q⟩
theorem _root_.L2.PI.weak {t t' : TI} (h : PI X tg e t) (w : ∀ σ H Q, t' σ H Q → t σ H Q) : PI X tg e t' := ⟨fun pins s σ H Q I q => h.run pins s σ H Q I (w _ _ _ q)⟩
theorem list_one {K : PySem.W.Frag} {H : Hp} {a : Addr} {vs ws : List V} (h : SqL K H a vs) (g : SqL K H a ws) (hH : ∃ o, H a = some o) : True := trivial
/-- the items of a live list -/
theorem itr_live {K : PySem.W.Frag} {ι0 : List Addr} {H0 : Hp} {n : Nat} {a : Addr} (h : ι0[n]? = some a) : ItR K ι0 H0 (Itl K a) (.src (.live n)) := by
  intro ι H st i hι hk hs
  have hn := pre_get hι h
  have main : ∀ xs vs, SqL K H a vs → DRs K ι H xs vs → (Src.at st (.live n) = some xs) → ((ItD.src (.live n)).step i st = some none → (Itl K a).stop i H) ∧
      ∀ d, (ItD.src (.live n)).step i st = some (some d) → (Itl K a).go i H ∧ ∀ x H', (Itl K a).yld i H x H' → Keep ι ι H H' ∧ StR K ι H' st ∧ DR K ι H' d x := by
    intro xs vs hq r e
    simp only [ItD.step, e, Option.map_some]
    refine ⟨fun e1 => ?_, fun d e1 => ?_⟩
    · have e2 : xs[i]? = none := Option.some.inj e1
      exact ⟨vs, hq, by rw [← r.len]; exact List.getElem?_eq_none_iff.mp e2⟩
    · have e2 : xs[i]? = some d := Option.some.inj e1
      obtain ⟨v, hv, rv⟩ := r.get e2
      refine ⟨⟨vs, v, hq, hv⟩, fun x H' y => ?_⟩
      obtain ⟨rfl, hy⟩ := y
      have e3 : v = x := Option.some.inj (hv.symm.trans (hy vs hq))
      subst e3
      exact ⟨.refl _, hs, rv⟩
  cases e0 : st[n]? with
  | none =>
    refine ⟨fun e1 => ?_, fun d e1 => ?_⟩ <;> (simp only [ItD.step, Src.at, e0] at e1; cases e1)
  | some c =>
    cases c with
    | lst xs =>
      obtain ⟨vs, g, r⟩ := hs.at e0 hn
      exact main xs vs (.inl (.inl g)) r (by simp only [Src.at, e0])
    | frz xs =>
      obtain ⟨o, vs, g, r⟩ := hs.at e0 hn
      exact main xs vs (.inl (.inr ⟨o, g⟩)) r (by simp only [Src.at, e0])
    | dct xs => refine ⟨fun e1 => ?_, fun d e1 => ?_⟩ <;> (simp only [ItD.step, Src.at, e0] at e1; cases e1)
    | dtt xs => refine ⟨fun e1 => ?_, fun d e1 => ?_⟩ <;> (simp only [ItD.step, Src.at, e0] at e1; cases e1)
    | ins c xs => refine ⟨fun e1 => ?_, fun d e1 => ?_⟩ <;> (simp only [ItD.step, Src.at, e0] at e1; cases e1)
    | lkd xs => refine ⟨fun e1 => ?_, fun d e1 => ?_⟩ <;> (simp only [ItD.step, Src.at, e0] at e1; cases e1)
    | lkt xs => refine ⟨fun e1 => ?_, fun d e1 => ?_⟩ <;> (simp only [ItD.step, Src.at, e0] at e1; cases e1)
theorem itr_seq {K : PySem.W.Frag} {ι0 : List Addr} {H0 : Hp} {a : Addr} {xs : List D} {vs : List V} (h : SqT K H0 a vs) (r : DRs K ι0 H0 xs vs) : ItR K ι0 H0 (Itt K a) (.src (.seq xs)) := by
  intro ι H st i hι hk hs
  have hq := hk.seq h
  have r2 := r.mono hι hk
  simp only [ItD.step, Src.at, Option.map_some]
  refine ⟨fun e1 => ?_, fun d e1 => ?_⟩
  · have e2 : xs[i]? = none := Option.some.inj e1
    exact ⟨vs, hq, by rw [← r.len]; exact List.getElem?_eq_none_iff.mp e2⟩
  · have e2 : xs[i]? = some d := Option.some.inj e1
    obtain ⟨v, hv, rv⟩ := r2.get e2
    refine ⟨⟨vs, v, hq, hv⟩, fun x H' y => ?_⟩
    obtain ⟨rfl, hy⟩ := y
    have e3 : v = x := Option.some.inj (hv.symm.trans (hy vs hq))
    subst e3
    exact ⟨.refl _, hs, rv⟩
theorem itr_rng {K : PySem.W.Frag} {ι0 : List Addr} {H0 : Hp} {lo : Int} {n : Nat} : ItR K ι0 H0 (Itr lo n) (.rng lo 1 n) := by
  intro ι H st i hι hk hs
  simp only [ItD.step]
  by_cases hi : i < n
  · rw [if_pos hi]
    refine ⟨fun e1 => (by cases e1), fun d e1 => ⟨hi, fun x H' y => ?_⟩⟩
    cases e1
    obtain ⟨rfl, rfl⟩ := y
    rw [Int.mul_one]
    exact ⟨.refl _, hs, .int _⟩
  · rw [if_neg hi]
    exact ⟨fun _ => Nat.le_of_not_lt hi, fun d e1 => (by cases e1)⟩
theorem i_plain (ha : PE X a (TD X.K F ca)) : PI X tg a (TI' X.K F .plain (.cons ca .nil)) :=
  (pi_seq ha).weak fun σ H R ⟨ι, ρ, st, Q, e, s, q, p⟩ => .go e s q fun x H1 ι1 d st1 h1 k1 e1 d1 s1 q1 => by
    obtain ⟨xs, ex, ys, ey, q2⟩ := q1
    cases ex
    cases ey
    obtain ⟨it, ei, q3⟩ := q2
    cases d1 with
    | @tup a' vs ds g1 g2 =>
      cases ei
      exact ⟨a', rfl, .inr ⟨⟨vs, SqT.of g1⟩, p _ H1 ι1 _ st1 h1 k1 e1 s1 (itr_seq (SqT.of g1) g2) q3⟩⟩
    | @ktp a' vs ds g1 g2 =>
      cases ei
      exact ⟨a', rfl, .inr ⟨⟨vs, g1⟩, p _ H1 ι1 _ st1 h1 k1 e1 s1 (itr_seq g1 g2) q3⟩⟩
    | @ref n a' g1 =>
      simp only [itOf, srcOf] at ei
      refine ⟨a', rfl, .inl ?_⟩
      split at ei
      · rename_i e0
        cases ei
        obtain ⟨vs, g, r⟩ := s1.at e0 g1
        exact ⟨⟨vs, .inl (.inl g)⟩, p _ H1 ι1 _ st1 h1 k1 e1 s1 (itr_live g1) q3⟩
      · rename_i e0
        cases ei
        obtain ⟨o, vs, g, r⟩ := s1.at e0 g1
        exact ⟨⟨vs, .inl (.inr ⟨o, g⟩)⟩, p _ H1 ι1 _ st1 h1 k1 e1 s1 (itr_live g1) q3⟩
      · cases ei
    | _ => cases ei
theorem i_range1 (hg : Gl X "range") (hm : X.mg "range" = none) (ha : PA X [a] (TDA X.K F as)) (hs : notStar a = true) : PI X tg (.Call (.Name "range" p) [a] [] pos) (TI' X.K F .range1 as) :=
  (pi_range1 hg hm ha (star_cons hs _ _)).weak fun σ H R ⟨ι, ρ, st, Q, e, s, q, p⟩ => .go e s q fun vs H1 ι1 ds st1 h1 k1 e1 d1 s1 q1 => by
    obtain ⟨xs, ex, it, ei, q2⟩ := q1
    cases ex
    cases d1 with
    | nil => cases ei
    | cons r t =>
      cases t with
      | nil =>
        cases r <;> simp only [itOf] at ei <;> try cases ei
        rename_i j
        split at ei
        · rename_i hj
          cases ei
          exact ⟨j, rfl, hj.1, hj.2, p _ H1 ι1 _ st1 h1 k1 e1 s1 itr_rng q2⟩
        · cases ei
      | cons r2 t2 => cases r <;> cases ei
theorem i_range2 (hg : Gl X "range") (hm : X.mg "range" = none) (ha : PA X [a, b] (TDA X.K F as)) (hs : notStar a = true) (hs2 : notStar b = true) : PI X tg (.Call (.Name "range" p) [a, b] [] pos) (TI' X.K F .range2 as) :=
  (pi_range2 hg hm ha (by rw [star_cons hs, star_cons hs2]; rfl) (star_cons hs2 _ _)).weak fun σ H R ⟨ι, ρ, st, Q, e, s, q, p⟩ => .go e s q fun vs H1 ι1 ds st1 h1 k1 e1 d1 s1 q1 => by
    obtain ⟨xs, ex, it, ei, q2⟩ := q1
    cases ex
    cases d1 with
    | nil => cases ei
    | cons r t =>
      cases t with
      | nil => cases r <;> cases ei
      | cons r2 t2 =>
        cases t2 with
        | nil =>
          cases r <;> cases r2 <;> simp only [itOf] at ei <;> try cases ei
          rename_i i j
          split at ei
          · rename_i hj
            cases ei
            exact ⟨i, j, rfl, ⟨hj.1.1, hj.1.2, hj.2.1, hj.2.2⟩, p _ H1 ι1 _ st1 h1 k1 e1 s1 itr_rng q2⟩
          · cases ei
        | cons r3 t3 => cases r <;> cases r2 <;> cases ei

/-! ## targets -/
/-- but for these places -/
structure Off (vs : List Nat) (σ σ' : L2.St) : Prop where
  len : σ'.length = σ.length
  get : ∀ i, i ∉ vs → σ'[i]? = σ[i]?
theorem Off.refl (vs : List Nat) (σ : L2.St) : Off vs σ σ := ⟨rfl, fun _ _ => rfl⟩
theorem Off.set {i : Nat} {x : Option V} (σ : L2.St) : Off [i] σ (σ.set i x) := ⟨List.length_set, fun j hj => List.getElem?_set_ne fun e => hj (by simp [e])⟩
theorem Off.trans {vs ws : List Nat} {σ σ1 σ2 : L2.St} (a : Off vs σ σ1) (b : Off ws σ1 σ2) : Off (vs ++ ws) σ σ2 := ⟨b.len.trans a.len, fun i hi => by
  rw [List.mem_append, not_or] at hi
  exact (b.get i hi.2).trans (a.get i hi.1)⟩
def TG' (K : PySem.W.Frag) (t : Tg) : TG := fun v σ H R => ∃ ι d ρ ρ' st, EnvR K ι H σ ρ ∧ DR K ι H d v ∧ StR K ι H st ∧ setTg t d ρ = some ρ' ∧ ∀ σ', EnvR K ι H σ' ρ' → Off t.vars σ σ' → R σ' H
def TGs' (K : PySem.W.Frag) (t : Tg) : TGs := fun vs σ H R => ∃ ι ds ρ ρ' st, EnvR K ι H σ ρ ∧ DRs K ι H ds vs ∧ StR K ι H st ∧ setTg t (.tup ds) ρ = some ρ' ∧ ∀ σ', EnvR K ι H σ' ρ' → Off t.vars σ σ' → R σ' H
theorem _root_.L2.PG.weak {t t' : TG} (h : PG X e t) (w : ∀ v σ H Q, t' v σ H Q → t v σ H Q) : PG X e t' := ⟨fun pins s σ H v u Q I r q => h.run pins s σ H v u Q I r (w _ _ _ _ q)⟩
theorem _root_.L2.PGs.weak {t t' : TGs} (h : PGs X es t) (w : ∀ v σ H Q, t' v σ H Q → t v σ H Q) : PGs X es t' := ⟨fun pins s σ H v u Q I r q => h.run pins s σ H v u Q I r (w _ _ _ _ q)⟩
theorem g_name {i : Nat} {x : Str} (hN : X.N.Nodup) (hi : X.N[i]? = some x) (hx : Loc X.env.scope x) (hf : X.fn x = true ∨ X.env.scope.names.lookup x = some .local) : PG X (.Name x pos) (TG' X.K (.name i)) :=
  (pg_name hN hi hx hf).weak fun v σ H R ⟨ι, d, ρ, ρ', st, e, hd, s, es, q⟩ => by
    cases es
    exact q _ (e.set hd i) (Off.set σ)
theorem gs_nil : PGs X [] (TGs' X.K .nil) := pgs_nil.weak fun v σ H R ⟨ι, ds, ρ, ρ', st, e, hd, s, es, q⟩ => by
  cases hd with
  | nil =>
    cases es
    exact ⟨rfl, q _ e (Off.refl _ _)⟩
  | cons _ _ => cases es
/-- a target is a name or a tuple of targets -/
def plainTg : Expr → Bool
  | .Name .. => true
  | .Tuple .. => true
  | _ => false
theorem tg_each {e : Expr} (h : plainTg e = true) (es : List Expr) (env : Env) : (assignEach (e :: es) env).map (·.2) = assign e env :: (assignEach es env).map (·.2) := by
  cases e <;> first | rfl | cases h
theorem gs_cons {t ts : Tg} (h1 : PG X a (TG' X.K t)) (h2 : PGs X es (TGs' X.K ts)) (hp : plainTg a = true) : PGs X (a :: es) (TGs' X.K (.cons t ts)) :=
  (pgs_cons h1 h2 (tg_each hp _ _)).weak fun v σ H R ⟨ι, ds, ρ, ρ', st, e, hd, s, es, q⟩ => by
    cases hd with
    | nil => cases es
    | cons r rr =>
      simp only [setTg] at es
      split at es
      · rename_i ρ1 e1
        exact ⟨_, _, rfl, ι, _, ρ, ρ1, st, e, r, s, e1, fun σ' e' o' => ⟨ι, _, ρ1, ρ', st, e', rr, s, es, fun σ2 e2 o2 => q σ2 e2 (o'.trans o2)⟩⟩
      · cases es
theorem tg_len : ∀ {es : List Expr} (_ : es.all plainTg = true) (env : Env), (assignEach es env).length = es.length ∧ (assignEach es env).findIdx? (·.1) = none
  | [], _, _ => ⟨rfl, rfl⟩
  | e :: es, h, env => by
    rw [List.all_cons, Bool.and_eq_true] at h
    obtain ⟨h1, h2⟩ := tg_len h.2 env
    have e1 : ∃ f, assignEach (e :: es) env = (false, f) :: assignEach es env := by
      cases e <;> first | exact ⟨_, rfl⟩ | cases h.1
    obtain ⟨f, e1⟩ := e1
    rw [e1]
    refine ⟨by simp [h1], ?_⟩
    rw [List.findIdx?_cons]
    simp [h2]
def Tg.size : Tg → Nat
  | .cons _ ts => ts.size + 1
  | _ => 0
/-- a row of targets -/
inductive Row : Tg → List Expr → Prop
  | nil : Row .nil []
  | cons {t ts : Tg} {e : Expr} {es : List Expr} : Row ts es → Row (.cons t ts) (e :: es)
theorem row_len {t : Tg} {es : List Expr} (h : Row t es) : ∀ {ds : List D} {ρ ρ' : Env1}, setTg t (.tup ds) ρ = some ρ' → ds.length = es.length := by
  induction h with
  | nil =>
    intro ds ρ ρ' h
    cases ds with
    | nil => rfl
    | cons d ds => cases h
  | cons _ ih =>
    intro ds ρ ρ' h
    cases ds with
    | nil => cases h
    | cons d ds =>
      simp only [setTg] at h
      split at h
      · simp [ih h]
      · cases h
theorem g_tup {t : Tg} {k : Nat} (hc : X.calm = true) (h : PGs X es (TGs' X.K t)) (hp : es.all plainTg = true) (hr : Row t es) : PG X (.Tuple es k pos) (TG' X.K (.tup t)) :=
  (pg_tup hc h (tg_len hp _).1 (tg_len hp _).2).weak fun v σ H R ⟨ι, d, ρ, ρ', st, e, hd, s, es', q⟩ => by
    cases hd with
    | @tup a vs ds g1 g2 =>
      have es2 : setTg t (.tup ds) ρ = some ρ' := by
        cases t <;> exact es'
      exact ⟨a, vs, rfl, SqT.of g1, by rw [← g2.len]; exact row_len hr es2, ι, ds, ρ, ρ', st, e, g2, s, es2, q⟩
    | _ => cases t <;> cases es'
end
end Cb

namespace Cb
open PySem PySem.Spec PyProof.Rows L2

/-! ## comprehensions -/
theorem wipe_get {α : Type} (f : List (Option α) → List Nat → List (Option α)) (h0 : ∀ σ, f σ [] = σ) (h1 : ∀ σ v vs, f σ (v :: vs) = (f σ vs).set v none) :
    ∀ (vs : List Nat) (σ : List (Option α)), (f σ vs).length = σ.length ∧ ∀ i, (f σ vs)[i]? = if i ∈ vs then (if i < σ.length then some none else none) else σ[i]?
  | [], σ => by
    rw [h0]
    exact ⟨rfl, fun i => by simp⟩
  | v :: vs, σ => by
    obtain ⟨l, g⟩ := wipe_get f h0 h1 vs σ
    rw [h1]
    refine ⟨by rw [List.length_set, l], fun i => ?_⟩
    by_cases e : v = i
    · subst e
      rw [if_pos List.mem_cons_self]
      by_cases hl : v < σ.length
      · rw [List.getElem?_set_self (by rw [l]; exact hl), if_pos hl]
      · rw [List.getElem?_eq_none (by rw [List.length_set, l]; omega), if_neg hl]
    · rw [List.getElem?_set_ne e, g]
      by_cases hm : i ∈ vs
      · rw [if_pos hm, if_pos (List.mem_cons_of_mem _ hm)]
      · rw [if_neg hm, if_neg (fun z => (List.mem_cons.mp z).elim (fun q => e q.symm) hm)]
theorem wipeV (vs : List Nat) (σ : L2.St) : (wipe σ vs).length = σ.length ∧ ∀ i, (wipe σ vs)[i]? = if i ∈ vs then (if i < σ.length then some none else none) else σ[i]? := wipe_get wipe (fun _ => rfl) (fun _ _ _ => rfl) vs σ
theorem wipeDV (vs : List Nat) (ρ : Env1) : (wipeD ρ vs).length = ρ.length ∧ ∀ i, (wipeD ρ vs)[i]? = if i ∈ vs then (if i < ρ.length then some none else none) else ρ[i]? := wipe_get wipeD (fun _ => rfl) (fun _ _ _ => rfl) vs ρ
theorem wipe_off {vs ws : List Nat} {σ σ2 : L2.St} (o : Off ws (wipe σ vs) σ2) (hs : ∀ i ∈ ws, i ∈ vs) : wipe σ2 vs = wipe σ vs := by
  apply List.ext_getElem?
  intro i
  rw [(wipeV vs σ2).2, (wipeV vs σ).2]
  have hl : σ2.length = σ.length := o.len.trans (wipeV vs σ).1
  by_cases hi : i ∈ vs
  · rw [if_pos hi, if_pos hi, hl]
  · rw [if_neg hi, if_neg hi, o.get i fun z => hi (hs i z), (wipeV vs σ).2, if_neg hi]
section
variable {K : PySem.W.Frag} {ι ι' : List Addr} {H H' : Hp} {st : Store}
theorem EnvR.wipe {σ : L2.St} {ρ : Env1} (e : EnvR K ι H σ ρ) (vs : List Nat) : EnvR K ι H (L2.wipe σ vs) (wipeD ρ vs) := by
  refine ⟨by rw [(wipeV vs σ).1, (wipeDV vs ρ).1]; exact e.len, fun i d h => ?_⟩
  rw [(wipeDV vs ρ).2] at h
  by_cases hi : i ∈ vs
  · rw [if_pos hi] at h
    split at h <;> cases h
  · rw [if_neg hi] at h
    obtain ⟨v, h1, h2⟩ := e.get i d h
    exact ⟨v, by rw [(wipeV vs σ).2, if_neg hi]; exact h1, h2⟩
theorem StR.addr {n : Nat} {a : Addr} (s : StR K ι H st) (h : ι[n]? = some a) : ∃ o, H a = some o := by
  obtain ⟨hn, _⟩ := List.getElem?_eq_some_iff.mp h
  exact (s.cell n _ a (List.getElem?_eq_getElem (by rw [← s.len]; exact hn)) h).some
theorem StR.notMem {a : Addr} (s : StR K ι H st) (h : H a = none) : a ∉ ι := fun hm => by
  obtain ⟨n, hn⟩ := List.getElem?_of_mem hm
  obtain ⟨o, e⟩ := s.addr hn
  rw [h] at e
  cases e
/-- what stands aside stays, and is no place of the store -/
theorem Keep.side (k : Keep ι ι' H H') {a : Addr} {o : HO} (hn : a ∉ ι) (h : H a = some o) : H' a = some o ∧ a ∉ ι' :=
  ⟨k.out a o h hn, fun hm => by
    rcases k.new a hm with z | z
    · exact hn z
    · rw [h] at z
      cases z⟩
/-- a list that stood aside becomes a place of the store -/
theorem StR.adopt {a : Addr} {c : Cell} (s : StR K ι H st) (hn : a ∉ ι) (hc : CellR K (ι ++ [a]) H a c) : StR K (ι ++ [a]) H (st ++ [c]) := by
  refine ⟨by rw [List.length_append, List.length_append, s.len]; rfl, ?_, fun n c' b ec hb => ?_⟩
  · refine List.nodup_append.mpr ⟨s.nd, by simp, fun x hx y hy => ?_⟩
    have : y = a := by simpa using hy
    subst this
    rintro rfl
    exact hn hx
  · by_cases hl : n < st.length
    · rw [List.getElem?_append_left hl] at ec
      rw [List.getElem?_append_left (by rw [s.len]; exact hl)] at hb
      exact (s.cell n c' b ec hb).mono (List.prefix_append _ _) (KeepT.refl H) rfl
    · have hln : n < (st ++ [c]).length := (List.getElem?_eq_some_iff.mp ec).1
      have e0 : n = st.length := by
        rw [List.length_append] at hln
        simp only [List.length_singleton] at hln
        omega
      subst e0
      rw [List.getElem?_append_right (Nat.le_refl _), Nat.sub_self] at ec
      rw [List.getElem?_append_right (by rw [s.len]; exact Nat.le_refl _), s.len, Nat.sub_self] at hb
      obtain rfl : _ = c' := Option.some.inj ec
      obtain rfl : a = b := Option.some.inj hb
      exact hc
/-- a list that stands aside changes -/
theorem StR.aside {a : Addr} {o : HO} {vs : List V} (s : StR K ι H st) (hn : a ∉ ι) (ha : H a = some (.lst vs)) : StR K ι (upd H a o) st ∧ KeepT H (upd H a o) := by
  have k : KeepT H (upd H a o) := .upd ha (fun _ h => by cases h) fun _ _ h => by cases h
  exact ⟨s.grow k fun n b hb => upd_ne fun e => hn (by rw [← e]; exact List.mem_of_getElem? hb), k⟩
end
section
variable {X : Cx} {F : Fm} {tg elt iter : Expr} {ifs : List Expr} {scope : Scope} {pos : Pos} {as c e : C} {t : Tg} {k : Ik} {own : List (Str × Nat)}
/-- the reading of a comprehension from ours -/
theorem lc_read {σ : L2.St} {H : Hp} {R : VK} {vs : List Nat} (hv : ∀ i ∈ t.vars, i ∈ vs) (h : TD X.K F (.lc vs t k as c e) σ H R) : tLc (TI' X.K F k as) (TG' X.K t) (TT' X.K F c) (TD X.K F e) vs σ H R := by
  obtain ⟨ι, ρ, st, Q, he, hs, hw, hp⟩ := h
  refine ⟨ι, ρ, st, fun it st1 => ∃ n, lcLoop it.step (fun d => setTg t d (wipeD ρ vs)) (wp F c) (wp F e) Q n 0 [] st1, he, hs, hw, fun J H1 ι1 it st1 g1 k1 e1 s1 hit ⟨n0, hl0⟩ => ?_⟩
  intro D hD
  have hD1 : D ∉ ι1 := s1.notMem hD
  have hDH : H D = none := by
    cases z : H D with
    | none => rfl
    | some o =>
      have : D ∉ ι := fun hm => hD1 (g1.subset hm)
      rw [k1.out D o z this] at hD
      cases hD
  refine ⟨fun i m Hc => ∃ ι' st' acc ws, ι1 <+: ι' ∧ Keep ι1 ι' H1 Hc ∧ Hc D = some (.lst ws) ∧ D ∉ ι' ∧ DRs X.K ι' Hc acc ws ∧ StR X.K ι' Hc st' ∧ lcLoop it.step (fun d => setTg t d (wipeD ρ vs)) (wp F c) (wp F e) Q m i acc st', ⟨n0, ι1, st1, [], [], List.prefix_refl _, .new1 hD, upd_same, hD1, .nil, s1.newTup hD, hl0⟩, ?_⟩
  rintro i m Hc ⟨ι', st', acc, ws, g2, k2, hDc, hDi, hr, s2, hl⟩
  cases m with
  | zero => exact hl.elim
  | succ m =>
    have hstep := hit ι' Hc st' i g2 k2.t s2
    simp only [lcLoop] at hl
    split at hl
    · exact hl.elim
    · rename_i es
      refine .inl ⟨hstep.1 es, ?_⟩
      have kk := k1.trans k2
      refine hp (.ref D) Hc (ι' ++ [D]) (.ref st'.length) _ ((g1.trans g2).trans (List.prefix_append _ _)) ⟨kk.tup, kk.frz, kk.out, fun a ha => ?_⟩ (.last s2) (s2.adopt hDi (cellR_lst hDc (hr.mono (List.prefix_append _ _) (KeepT.refl _)))) hl
      rcases List.mem_append.mp ha with ha | ha
      · exact kk.new a ha
      · right
        rw [List.mem_singleton.mp ha]
        exact hDH
    · rename_i d es
      obtain ⟨go, hy⟩ := hstep.2 d es
      refine .inr ⟨go, fun Hn => ∃ m', m' < m + 1 ∧ ∃ ι' st' acc ws, ι1 <+: ι' ∧ Keep ι1 ι' H1 Hn ∧ Hn D = some (.lst ws) ∧ D ∉ ι' ∧ DRs X.K ι' Hn acc ws ∧ StR X.K ι' Hn st' ∧ lcLoop it.step (fun d => setTg t d (wipeD ρ vs)) (wp F c) (wp F e) Q m' (i + 1) acc st', fun _ hn => hn, fun x H' y => ?_⟩
      obtain ⟨k3, s3, d3⟩ := hy x H' y
      obtain ⟨ρ1, eb, hl⟩ := hl
      refine ⟨ι', d, wipeD ρ vs, ρ1, st', ((e1.mono g2 k2.t).mono (List.prefix_refl _) k3.t).wipe vs, d3, s3, eb, fun σ' e' o' => ⟨wipe_off o' hv, ?_⟩⟩
      have hD3 := k3.side hDi hDc
      refine TT'.go e' s3 hl fun b H4 ι4 st4 g4 k4 e4 s4 q4 => ?_
      obtain ⟨b', eb', q4⟩ := q4
      cases eb'
      have hD4 := k4.side hDi hD3.1
      cases b with
      | true =>
        refine TD.go e4 s4 q4 fun y H5 ι5 d5 st5 g5 k5 e5 r5 s5 q5 => ?_
        have hD5 := k5.side hD4.2 hD4.1
        obtain ⟨hz, hl5⟩ := q5
        have hr5 := hr.mono (g4.trans g5) (k3.trans (k4.trans k5)).t
        obtain ⟨s6, k6⟩ := s5.aside (o := .lst (ws ++ [y])) hD5.2 hD5.1
        have kk : Keep ι1 ι5 H1 H5 := k2.trans (k3.trans (k4.trans k5))
        refine ⟨ws, hD5.1, by rw [← hr.len]; exact hz, m, Nat.lt_succ_self m, ι5, st5, acc ++ [d5], ws ++ [y], g2.trans (g4.trans g5), ⟨fun a xs h => k6.tup a xs (kk.tup a xs h), fun a o u h => k6.frz a o u (kk.frz a o u h), fun a o h hn => ?_, kk.new⟩, upd_same, hD5.2, (hr5.append (.one r5)).mono (List.prefix_refl _) k6, s6, hl5⟩
        rw [upd_ne (ne_of_none h hD)]
        exact kk.out a o h hn
      | false => exact ⟨m, Nat.lt_succ_self m, ι4, st4, acc, ws, g2.trans g4, k2.trans (k3.trans k4), hD4.1, hD4.2, hr.mono g4 (k3.trans k4).t, s4, q4⟩
/-- the tests of a comprehension: none, one -/
theorem ts_nil : PTs X [] (TT' X.K F (.cst (.bl true))) := ⟨fun pins s σ H Q I ⟨ι, ρ, st, Q', e, hs, q, p⟩ => pts_nil.run pins s σ H Q I (p true H ι st (List.prefix_refl _) (.refl H) hs q)⟩
theorem ts_one {a : Expr} (h : PT X a (TT' X.K F c)) : PTs X [a] (TT' X.K F c) := pts_one h
theorem d_lc (hc : X.calm = true) (hN : X.N.Nodup) (hi : PI X tg iter (TI' X.K F k as)) (ok : BlkOk X.N X.env.scope scope own) (hv : ∀ i ∈ t.vars, i ∈ own.map (·.2))
    (hg : ∀ (s : Shared) (H : Hp) (C : Addr) (cl : List (Str × Addr)) (fp : List Addr), PG (X.blk s H scope (compEnvC scope cl C X.env) fp) tg (TG' X.K t)) (ht : ∀ (s : Shared) (H : Hp) (C : Addr) (cl : List (Str × Addr)) (fp : List Addr), PTs (X.blk s H scope (compEnvC scope cl C X.env) fp) ifs (TT' X.K F c))
    (he : ∀ (s : Shared) (H : Hp) (C : Addr) (cl : List (Str × Addr)) (fp : List Addr), PE (X.blk s H scope (compEnvC scope cl C X.env) fp) elt (TD X.K F e)) (hs : ∀ x, foldedSetIterable iter X.env x = pure x) :
    PE X (.ListComp elt [⟨tg, iter, ifs, 0⟩] scope pos) (TD X.K F (.lc (own.map (·.2)) t k as c e)) :=
  (pe_lc hc hN hi ok hg ht he hs).weak fun σ H R h => lc_read hv h
/-! ### two clauses -/
theorem lc2_read {σ : L2.St} {H : Hp} {R : VK} {vs vs1 : List Nat} {t1 : Tg} {k1 : Ik} {as1 c1 : C} (hv : ∀ i ∈ t.vars, i ∈ vs) (hv1 : ∀ i ∈ t1.vars, i ∈ vs1) (h : TD X.K F (.lc2 vs vs1 t k as c t1 k1 as1 c1 e) σ H R) :
    tLc2 (TI' X.K F k as) (TG' X.K t) (TT' X.K F c) (TI' X.K F k1 as1) (TG' X.K t1) (TT' X.K F c1) (TD X.K F e) vs vs1 σ H R := by
  obtain ⟨ι, ρ, st, Q, he, hs, hw, hp⟩ := h
  generalize hin : (fun (ρ1 : Env1) (acc : List D) (st2 : Store) (K : List D → Store → Prop) => wp F as1 ρ1 st2 fun y st3 => ∃ xs, y = .tup xs ∧ som (itOf k1 xs st3) fun it1 => ∃ n, lcIn it1.step (fun d => setTg t1 d (wipeD ρ1 vs1)) (wp F c1) (wp F e) K n 0 acc st3) = inner
  have hw' : wp F as ρ st fun y st1 => ∃ xs, y = .tup xs ∧ som (itOf k xs st1) fun it => ∃ n, lc2Loop it.step (fun d => setTg t d (wipeD ρ vs)) (wp F c) inner Q n 0 [] st1 := by
    rw [← hin]
    exact hw
  refine ⟨ι, ρ, st, fun it st1 => ∃ n, lc2Loop it.step (fun d => setTg t d (wipeD ρ vs)) (wp F c) inner Q n 0 [] st1, he, hs, hw', fun J H1 ι1 it st1 g1 kk1 e1 s1 hit ⟨n0, hl0⟩ => ?_⟩
  intro D hD
  have hD1 : D ∉ ι1 := s1.notMem hD
  have hDH : H D = none := by
    cases z : H D with
    | none => rfl
    | some o =>
      have : D ∉ ι := fun hm => hD1 (g1.subset hm)
      rw [kk1.out D o z this] at hD
      cases hD
  refine ⟨fun i m Hc => ∃ ι' st' acc ws, ι1 <+: ι' ∧ Keep ι1 ι' H1 Hc ∧ Hc D = some (.lst ws) ∧ D ∉ ι' ∧ DRs X.K ι' Hc acc ws ∧ StR X.K ι' Hc st' ∧ lc2Loop it.step (fun d => setTg t d (wipeD ρ vs)) (wp F c) inner Q m i acc st', ⟨n0, ι1, st1, [], [], List.prefix_refl _, .new1 hD, upd_same, hD1, .nil, s1.newTup hD, hl0⟩, ?_⟩
  rintro i m Hc ⟨ι', st', acc, ws, g2, k2, hDc, hDi, hr, s2, hl⟩
  cases m with
  | zero => exact hl.elim
  | succ m =>
    have hstep := hit ι' Hc st' i g2 k2.t s2
    simp only [lc2Loop] at hl
    split at hl
    · exact hl.elim
    · rename_i es
      refine .inl ⟨hstep.1 es, ?_⟩
      have kk := kk1.trans k2
      refine hp (.ref D) Hc (ι' ++ [D]) (.ref st'.length) _ ((g1.trans g2).trans (List.prefix_append _ _)) ⟨kk.tup, kk.frz, kk.out, fun a ha => ?_⟩ (.last s2) (s2.adopt hDi (cellR_lst hDc (hr.mono (List.prefix_append _ _) (KeepT.refl _)))) hl
      rcases List.mem_append.mp ha with ha | ha
      · exact kk.new a ha
      · right
        rw [List.mem_singleton.mp ha]
        exact hDH
    · rename_i d es
      obtain ⟨go, hy⟩ := hstep.2 d es
      refine .inr ⟨go, fun Hn => ∃ m', m' < m + 1 ∧ ∃ ι' st' acc ws, ι1 <+: ι' ∧ Keep ι1 ι' H1 Hn ∧ Hn D = some (.lst ws) ∧ D ∉ ι' ∧ DRs X.K ι' Hn acc ws ∧ StR X.K ι' Hn st' ∧ lc2Loop it.step (fun d => setTg t d (wipeD ρ vs)) (wp F c) inner Q m' (i + 1) acc st', fun _ hn => hn, fun x H' y => ?_⟩
      obtain ⟨k3, s3, d3⟩ := hy x H' y
      obtain ⟨ρ1, eb, hl⟩ := hl
      refine ⟨ι', d, wipeD ρ vs, ρ1, st', ((e1.mono g2 k2.t).mono (List.prefix_refl _) k3.t).wipe vs, d3, s3, eb, fun σ' e' o' => ⟨wipe_off o' hv, ?_⟩⟩
      have hD3 := k3.side hDi hDc
      refine TT'.go e' s3 hl fun b H4 ι4 st4 g4 k4 e4 s4 q4 => ?_
      obtain ⟨b', eb', q4⟩ := q4
      cases eb'
      have hD4 := k4.side hDi hD3.1
      cases b with
      | false => exact ⟨m, Nat.lt_succ_self m, ι4, st4, acc, ws, g2.trans g4, k2.trans (k3.trans k4), hD4.1, hD4.2, hr.mono g4 (k3.trans k4).t, s4, q4⟩
      | true =>
        simp only [if_true] at q4 ⊢
        rw [← hin] at q4
        refine ⟨ι4, ρ1, st4, fun it1 st5 => ∃ n, lcIn it1.step (fun d => setTg t1 d (wipeD ρ1 vs1)) (wp F c1) (wp F e) (lc2Loop it.step (fun d => setTg t d (wipeD ρ vs)) (wp F c) inner Q m (i + 1)) n 0 acc st5, e4, s4, by rw [← hin]; exact q4, fun J1 H5 ι5 it1 st5 g5 k5 e5 s5 hit1 ⟨n1, hl1⟩ => ?_⟩
        have hD5 := k5.side hD4.2 hD4.1
        have hr5 := hr.mono (g4.trans g5) (k3.trans (k4.trans k5)).t
        have kk5 : Keep ι1 ι5 H1 H5 := k2.trans (k3.trans (k4.trans k5))
        refine ⟨fun j kk Hc => ∃ ι' st' acc ws, ι5 <+: ι' ∧ KeepT H5 Hc ∧ Keep ι1 ι' H1 Hc ∧ Hc D = some (.lst ws) ∧ D ∉ ι' ∧ DRs X.K ι' Hc acc ws ∧ StR X.K ι' Hc st' ∧ lcIn it1.step (fun d => setTg t1 d (wipeD ρ1 vs1)) (wp F c1) (wp F e) (lc2Loop it.step (fun d => setTg t d (wipeD ρ vs)) (wp F c) inner Q m (i + 1)) kk j acc st', ⟨n1, ι5, st5, acc, ws, List.prefix_refl _, .refl _, kk5, hD5.1, hD5.2, hr5, s5, hl1⟩, ?_⟩
        rintro j kn H6 ⟨ι6, st6, acc6, ws6, g6, t6, k6, hD6, hD6', hr6, s6, hl6⟩
        cases kn with
        | zero => exact hl6.elim
        | succ kn =>
          have hstep1 := hit1 ι6 H6 st6 j g6 t6 s6
          simp only [lcIn] at hl6
          split at hl6
          · exact hl6.elim
          · rename_i es1
            exact .inl ⟨hstep1.1 es1, m, Nat.lt_succ_self m, ι6, st6, acc6, ws6, (g2.trans (g4.trans g5)).trans g6, k6, hD6, hD6', hr6, s6, hl6⟩
          · rename_i d1 es1
            obtain ⟨go1, hy1⟩ := hstep1.2 d1 es1
            refine .inr ⟨go1, fun Hn => ∃ k', k' < kn + 1 ∧ ∃ ι' st' acc ws, ι5 <+: ι' ∧ KeepT H5 Hn ∧ Keep ι1 ι' H1 Hn ∧ Hn D = some (.lst ws) ∧ D ∉ ι' ∧ DRs X.K ι' Hn acc ws ∧ StR X.K ι' Hn st' ∧ lcIn it1.step (fun d => setTg t1 d (wipeD ρ1 vs1)) (wp F c1) (wp F e) (lc2Loop it.step (fun d => setTg t d (wipeD ρ vs)) (wp F c) inner Q m (i + 1)) k' (j + 1) acc st', fun _ hn => hn, fun x1 H7 y1 => ?_⟩
            obtain ⟨k7, s7, d7⟩ := hy1 x1 H7 y1
            obtain ⟨ρ2, eb1, hl6⟩ := hl6
            refine ⟨ι6, d1, wipeD ρ1 vs1, ρ2, st6, ((e5.mono g6 t6).mono (List.prefix_refl _) k7.t).wipe vs1, d7, s7, eb1, fun σ3 e7 o7 => ⟨wipe_off o7 hv1, ?_⟩⟩
            have hD7 := k7.side hD6' hD6
            refine TT'.go e7 s7 hl6 fun b1 H8 ι8 st8 g8 k8 e8 s8 q8 => ?_
            obtain ⟨b1', eb1', q8⟩ := q8
            cases eb1'
            have hD8 := k8.side hD6' hD7.1
            cases b1 with
            | true =>
              refine TD.go e8 s8 q8 fun y9 H9 ι9 d9 st9 g9 k9 e9 r9 s9 q9 => ?_
              have hD9 := k9.side hD8.2 hD8.1
              obtain ⟨hz, hl9⟩ := q9
              have hr9 := hr6.mono (g8.trans g9) (k7.trans (k8.trans k9)).t
              obtain ⟨s10, k10⟩ := s9.aside (o := .lst (ws6 ++ [y9])) hD9.2 hD9.1
              have kk : Keep ι1 ι9 H1 H9 := k6.trans (k7.trans (k8.trans k9))
              refine ⟨ws6, hD9.1, by rw [← hr6.len]; exact hz, kn, Nat.lt_succ_self kn, ι9, st9, acc6 ++ [d9], ws6 ++ [y9], g6.trans (g8.trans g9), (t6.trans (k7.trans (k8.trans k9)).t).trans k10, ⟨fun a xs h => k10.tup a xs (kk.tup a xs h), fun a o u h => k10.frz a o u (kk.frz a o u h), fun a o h hn => ?_, kk.new⟩, upd_same, hD9.2, (hr9.append (.one r9)).mono (List.prefix_refl _) k10, s10, hl9⟩
              rw [upd_ne (ne_of_none h hD)]
              exact kk.out a o h hn
            | false => exact ⟨kn, Nat.lt_succ_self kn, ι8, st8, acc6, ws6, g6.trans g8, t6.trans (k7.trans k8).t, k6.trans (k7.trans k8), hD8.1, hD8.2, hr6.mono g8 (k7.trans k8).t, s8, q8⟩
theorem d_lc2 {tg1 iter1 : Expr} {ifs1 : List Expr} {t1 : Tg} {k1 : Ik} {as1 c1 : C} (hc : X.calm = true) (hN : X.N.Nodup) (hi : PI X tg iter (TI' X.K F k as)) (ok : BlkOk X.N X.env.scope scope own) (hv : ∀ i ∈ t.vars, i ∈ own.map (·.2)) (hv1 : ∀ i ∈ t1.vars, i ∈ own.map (·.2))
    (hg : ∀ (s : Shared) (H : Hp) (C : Addr) (cl : List (Str × Addr)) (fp : List Addr), PG (X.blk s H scope (compEnvC scope cl C X.env) fp) tg (TG' X.K t)) (ht : ∀ (s : Shared) (H : Hp) (C : Addr) (cl : List (Str × Addr)) (fp : List Addr), PTs (X.blk s H scope (compEnvC scope cl C X.env) fp) ifs (TT' X.K F c))
    (hi1 : ∀ (s : Shared) (H : Hp) (C : Addr) (cl : List (Str × Addr)) (fp : List Addr), PI (X.blk s H scope (compEnvC scope cl C X.env) fp) tg1 iter1 (TI' X.K F k1 as1))
    (hg1 : ∀ (s : Shared) (H : Hp) (C : Addr) (cl : List (Str × Addr)) (fp : List Addr), PG (X.blk s H scope (compEnvC scope cl C X.env) fp) tg1 (TG' X.K t1)) (ht1 : ∀ (s : Shared) (H : Hp) (C : Addr) (cl : List (Str × Addr)) (fp : List Addr), PTs (X.blk s H scope (compEnvC scope cl C X.env) fp) ifs1 (TT' X.K F c1))
    (he : ∀ (s : Shared) (H : Hp) (C : Addr) (cl : List (Str × Addr)) (fp : List Addr), PE (X.blk s H scope (compEnvC scope cl C X.env) fp) elt (TD X.K F e)) (hs : ∀ x, foldedSetIterable iter X.env x = pure x) (hs1 : ∀ env x, foldedSetIterable iter1 env x = pure x) :
    PE X (.ListComp elt [⟨tg, iter, ifs, 0⟩, ⟨tg1, iter1, ifs1, 0⟩] scope pos) (TD X.K F (.lc2 (own.map (·.2)) t1.vars t k as c t1 k1 as1 c1 e)) :=
  (pe_lc2 hc hN hi ok (vs1 := t1.vars) hv1 hg ht hi1 hg1 ht1 he hs hs1).weak fun σ H R h => lc2_read hv (fun _ h => h) h
end
end Cb

namespace Cb
open PySem PySem.Spec PyProof.Rows L2

/-! ## statements -/
structure PostS (K : PySem.W.Frag) (ι : List Addr) (H : Hp) (E : EndsD) (D : Ends) : Prop where
  nx : ∀ σ' H' ι' ρ' st', ι <+: ι' → Keep ι ι' H H' → EnvR K ι' H' σ' ρ' → StR K ι' H' st' → E.nx ρ' st' → D.nx σ' H'
  rt : Post K ι H E.rt D.rt
  bk : ∀ σ' H' ι' ρ' st', ι <+: ι' → Keep ι ι' H H' → EnvR K ι' H' σ' ρ' → StR K ι' H' st' → E.bk ρ' st' → D.bk σ' H'
  ct : ∀ σ' H' ι' ρ' st', ι <+: ι' → Keep ι ι' H H' → EnvR K ι' H' σ' ρ' → StR K ι' H' st' → E.ct ρ' st' → D.ct σ' H'
def TS' (K : PySem.W.Frag) (F : Fm) (s : S) : TS := fun D σ H => ∃ ι ρ st E, EnvR K ι H σ ρ ∧ StR K ι H st ∧ wps F s ρ st E ∧ PostS K ι H E D
section
variable {K : PySem.W.Frag} {ι ι1 : List Addr} {H H1 : Hp} {E : EndsD} {D : Ends}
theorem PostS.shift (p : PostS K ι H E D) (h : ι <+: ι1) (k : Keep ι ι1 H H1) : PostS K ι1 H1 E D :=
  ⟨fun σ' H' ι' ρ' st' h' k' => p.nx σ' H' ι' ρ' st' (h.trans h') (k.trans k'), p.rt.shift h k, fun σ' H' ι' ρ' st' h' k' => p.bk σ' H' ι' ρ' st' (h.trans h') (k.trans k'), fun σ' H' ι' ρ' st' h' k' => p.ct σ' H' ι' ρ' st' (h.trans h') (k.trans k')⟩
theorem PostS.next (p : PostS K ι H E D) {σ : L2.St} {ρ : Env1} {st : Store} (e : EnvR K ι H σ ρ) (s : StR K ι H st) (q : E.nx ρ st) : D.nx σ H := p.nx σ H ι ρ st (List.prefix_refl _) (.refl H) e s q
end
section
variable {X : Cx} {F : Fm} {e a b o i : Expr} {es : List Expr} {ce ca cb ci cc as : C} {pos : Pos} {st0 : Stmt} {rest : List Stmt} {s r : S}
theorem s_nil : PSs X [] (TS' X.K F .done) := pss_nil.weak fun D σ H ⟨ι, ρ, st, E, e, s, q, p⟩ => p.next e s q
theorem s_cons (h1 : PS X st0 (TS' X.K F s)) (h2 : PSs X rest (TS' X.K F r)) : PSs X (st0 :: rest) (TS' X.K F (.seq s r)) :=
  (pss_cons h1 h2).weak fun D σ H ⟨ι, ρ, st, E, e, s, q, p⟩ => ⟨ι, ρ, st, _, e, s, q, ⟨fun σ' H' ι' ρ' st' h' k' e' s' q' => ⟨ι', ρ', st', E, e', s', q', p.shift h' k'⟩, p.rt, p.bk, p.ct⟩⟩
/-- no comprehension -/
def noComp : Expr → Bool
  | .ListComp .. => false
  | .SetComp .. => false
  | .DictComp .. => false
  | _ => true
theorem sw_no {e : Expr} (h : noComp e = true) (t : Option Expr) (l : Nat) (env : Env) : swapsWith e t l env = pure false := by
  cases e <;> first | rfl | cases h
/-- no tuple stored into a row of targets -/
def noRow : Expr → Expr → Bool
  | .Tuple .., .Tuple .. => false
  | .List .., .Tuple .. => false
  | _, _ => true
theorem row_no {t e : Expr} (h : noRow t e = true) (env : Env) : swappedStores [t] e env = pure none := by
  cases t <;> first | rfl | (cases e <;> first | rfl | cases h)
theorem tg_one {t : Expr} (h : plainTg t = true) (env : Env) : (assignEach [t] env).map (·.2) = [assign t env] := tg_each h [] env
theorem s_asg {tg : Expr} {t : Tg} (he : PE X e (TD X.K F ce)) (hg : PG X tg (TG' X.K t)) (hc : noComp e = true) (hw : swappedStores [tg] e X.env = pure none) (hp : plainTg tg = true) : PS X (.Assign [tg] e pos) (TS' X.K F (.asg t ce)) :=
  (ps_asg he hg (sw_no hc _ _ _) hw (tg_one hp _)).weak fun D σ H ⟨ι, ρ, st, E, e, s, q, p⟩ => .go e s q fun v H1 ι1 d st1 h1 k1 e1 d1 s1 q1 => by
    obtain ⟨ρ1, es, q2⟩ := q1
    exact ⟨ι1, d, ρ, ρ1, st1, e1, d1, s1, es, fun σ' e' _ => p.nx σ' H1 ι1 ρ1 st1 h1 k1 e' s1 q2⟩
/-- y = [..] -/
def swB (sc scope : Scope) (y : Str) (py pos : Pos) : Bool := sc.names.lookup y == some .local && py.line == pos.line && !(scope.names.any fun (n, k) => n == y && (k == .local || k == .cell))
theorem sw_lc {elt : Expr} {gs : List Comprehension} {scope : Scope} {cpos py : Pos} {y : Str} {l : Nat} {env : Env} (hk : env.scope.kind = .function) : swapsWith (.ListComp elt gs scope cpos) (some (.Name y py)) l env = pure (swB env.scope scope y py cpos) := by
  have hb : env.blockKind = .function := by unfold Env.blockKind; rw [hk]; rfl
  unfold swapsWith swB
  simp only [hb, Expr.pos]
  rfl
section
variable {i : Nat} {y : Str} {py spos cpos : Pos} {elt tg iter : Expr} {ifs : List Expr} {scope : Scope} {own : List (Str × Nat)} {k : Ik} {t : Tg} {c ee : C}
theorem s_lcT (hc : X.calm = true) (hN : X.N.Nodup) (hy : X.N[i]? = some y) (hk : X.env.scope.kind = .function) (hsw : swB X.env.scope scope y py cpos = true) (hi : PI X tg iter (TI' X.K F k as)) (ok : BlkOk X.N X.env.scope scope own) (hv : ∀ i ∈ t.vars, i ∈ own.map (·.2))
    (hg : ∀ (s : Shared) (H : Hp) (C : Addr) (cl : List (Str × Addr)) (fp : List Addr), PG (X.blk s H scope (compEnvC scope cl C X.env) fp) tg (TG' X.K t)) (ht : ∀ (s : Shared) (H : Hp) (C : Addr) (cl : List (Str × Addr)) (fp : List Addr), PTs (X.blk s H scope (compEnvC scope cl C X.env) fp) ifs (TT' X.K F c))
    (he : ∀ (s : Shared) (H : Hp) (C : Addr) (cl : List (Str × Addr)) (fp : List Addr), PE (X.blk s H scope (compEnvC scope cl C X.env) fp) elt (TD X.K F ee)) (hs : ∀ x, foldedSetIterable iter X.env x = pure x) :
    PS X (.Assign [.Name y py] (.ListComp elt [⟨tg, iter, ifs, 0⟩] scope cpos) spos) (TS' X.K F (.asg (.name i) (.lc (own.map (·.2)) t k as c ee))) := by
  have h0 : X.env.scope.names.lookup y = some .local := by
    unfold swB at hsw
    rw [Bool.and_eq_true, Bool.and_eq_true] at hsw
    exact eq_of_beq hsw.1.1
  refine (ps_setLc hc hN hy h0 (by rw [sw_lc hk, hsw]) hi ok hg ht he hs).weak fun D σ H ⟨ι, ρ, st, E, e, s, q, p⟩ => ?_
  refine lc_read hv ?_
  exact TD.go e s q fun v H1 ι1 d st1 h1 k1 e1 d1 s1 q1 => by
    obtain ⟨ρ1, es, q2⟩ := q1
    cases es
    exact p.nx _ H1 ι1 _ st1 h1 k1 (e1.set d1 i) s1 q2
theorem s_lcF (hN : X.N.Nodup) (hy : X.N[i]? = some y) (hl : Loc X.env.scope y) (hf : X.fn y = true ∨ X.env.scope.names.lookup y = some .local) (hk : X.env.scope.kind = .function) (hsw : swB X.env.scope scope y py cpos = false) (he : PE X (.ListComp elt [⟨tg, iter, ifs, 0⟩] scope cpos) (TD X.K F ce)) :
    PS X (.Assign [.Name y py] (.ListComp elt [⟨tg, iter, ifs, 0⟩] scope cpos) spos) (TS' X.K F (.asg (.name i) ce)) :=
  (ps_set hN hy hl he (by rw [sw_lc hk, hsw]) hf).weak fun D σ H ⟨ι, ρ, st, E, e, s, q, p⟩ => .go e s q fun v H1 ι1 d st1 h1 k1 e1 d1 s1 q1 => by
    obtain ⟨ρ1, es, q2⟩ := q1
    cases es
    exact p.nx _ H1 ι1 _ st1 h1 k1 (e1.set d1 i) s1 q2
end
/-- two, three names stored beside one another -/
theorem s_par2 {i j : Nat} {x y : Str} {px py pt : Pos} {kt k2 : Nat} {pt2 : Pos} (hc : X.calm = true) (hN : X.N.Nodup) (hi : X.N[i]? = some x) (hj : X.N[j]? = some y) (hij : i ≠ j)
    (hx : X.env.scope.names.lookup x = some .local) (hy : X.env.scope.names.lookup y = some .local) (ha : PA X [a, b] (TDA X.K F as))
    (hw : swappedStores [.Tuple [.Name x px, .Name y py] kt pt] (.Tuple [a, b] k2 pt2) X.env = pure (some [x, y])) :
    PS X (.Assign [.Tuple [.Name x px, .Name y py] kt pt] (.Tuple [a, b] k2 pt2) pos) (TS' X.K F (.par [i, j] as)) :=
  (ps_par hc hN hi hj hij hx hy ha hw rfl).weak fun D σ H ⟨ι, ρ, st, E, e, s, q, p⟩ => .go e s q fun vs H1 ι1 ds st1 h1 k1 e1 d1 s1 q1 => by
    obtain ⟨xs, ex, ρ1, es, q2⟩ := q1
    cases ex
    match ds, vs, d1, es with
    | [d, d'], [v, w], .cons r (.cons r2 .nil), es =>
      cases es
      exact ⟨v, w, rfl, p.nx _ H1 ι1 _ st1 h1 k1 ((e1.set r i).set r2 j) s1 q2⟩
theorem s_par3 {c : Expr} {i j l : Nat} {x y z : Str} {px py pz pt : Pos} {kt k2 : Nat} {pt2 : Pos} (hc : X.calm = true) (hN : X.N.Nodup) (hi : X.N[i]? = some x) (hj : X.N[j]? = some y) (hl : X.N[l]? = some z) (hij : i ≠ j) (hil : i ≠ l) (hjl : j ≠ l)
    (hx : X.env.scope.names.lookup x = some .local) (hy : X.env.scope.names.lookup y = some .local) (hz : X.env.scope.names.lookup z = some .local) (ha : PA X [a, b, c] (TDA X.K F as))
    (hw : swappedStores [.Tuple [.Name x px, .Name y py, .Name z pz] kt pt] (.Tuple [a, b, c] k2 pt2) X.env = pure (some [x, y, z])) :
    PS X (.Assign [.Tuple [.Name x px, .Name y py, .Name z pz] kt pt] (.Tuple [a, b, c] k2 pt2) pos) (TS' X.K F (.par [i, j, l] as)) :=
  (ps_par3 hc hN hi hj hl hij hil hjl hx hy hz ha hw rfl).weak fun D σ H ⟨ι, ρ, st, E, e, s, q, p⟩ => .go e s q fun vs H1 ι1 ds st1 h1 k1 e1 d1 s1 q1 => by
    obtain ⟨xs, ex, ρ1, es, q2⟩ := q1
    cases ex
    match ds, vs, d1, es with
    | [d, d', d2], [v, w, u], .cons r (.cons r2 (.cons r3 .nil)), es =>
      cases es
      exact ⟨v, w, u, rfl, p.nx _ H1 ι1 _ st1 h1 k1 (((e1.set r i).set r2 j).set r3 l) s1 q2⟩
/-! ### a[i] = e -/
def TSt (K : PySem.W.Frag) : TSet := fun o i v H R => ∃ ι x k d st Q, StR K ι H st ∧ DR K ι H x o ∧ DR K ι H k i ∧ DR K ι H d v ∧ stoS x k d st Q ∧ ∀ H' st', Keep ι ι H H' → StR K ι H' st' → Q st' → R H'
theorem set_ok (hu : X.A.units + 1 < cLine) : PSet X (TSt X.K) := by
  intro pins s σ H o i v ov iv u R I r1 r2 r3 ⟨ι, x, k, d, st, Q, hs, hx, hk, hd, h, p⟩
  obtain ⟨n, rfl, h⟩ := h
  cases hx with
  | @ref _ a h1 =>
    rcases h with ⟨xs, j, m, e0, rfl, em, q⟩ | ⟨kvs, kk, e0, ek, hl, q⟩ | ⟨kvs, kk, e0, ek, hl, q⟩
    · obtain ⟨vs, g, r⟩ := cell_lst hs h1 e0
      cases hk
      obtain ⟨kp, s'⟩ := lst_put hs h1 g (r.set hd m)
      exact set_list pins s σ H _ _ v ov iv u R I r1 r2 r3 ⟨a, vs, j, m, rfl, rfl, g, by rw [← r.len]; exact em, p _ _ kp s' q⟩
    · obtain ⟨vs, g, r⟩ := hs.at e0 h1
      obtain rfl := keyOf_rel hk ek
      cases r1
      have kp : Keep ι ι H (upd H a (.dK (putK vs kk v))) := .upd (List.mem_of_getElem? h1) g (fun _ h => by cases h) fun _ _ h => by cases h
      refine d_setItem hu I (DPut.k (v := v) g (by rw [← r.len]; exact hl)) r2 r3 fun s' I' => ⟨_, I', p _ _ kp (hs.put h1 kp ?_) q⟩
      exact ⟨_, upd_same, (r.put hd).mono (List.prefix_refl _) kp.t⟩
    · obtain ⟨vs, g, r⟩ := hs.at e0 h1
      obtain ⟨b, rfl, gb⟩ := keyT_rel hk ek
      cases r1
      have kp : Keep ι ι H (upd H a (.dT (putK vs kk v))) := .upd (List.mem_of_getElem? h1) g (fun _ h => by cases h) fun _ _ h => by cases h
      refine d_setItem hu I (DPut.t (v := v) g gb (by rw [← r.len]; exact hl)) r2 r3 fun s' I' => ⟨_, I', p _ _ kp (hs.put h1 kp ?_) q⟩
      exact ⟨_, upd_same, (r.put hd).mono (List.prefix_refl _) kp.t⟩
def noSlice : Expr → Bool
  | .Slice .. => false
  | _ => true
theorem s_sto {p2 : Pos} (hu : X.A.units + 1 < cLine) (he : PE X e (TD X.K F ce)) (ho : PE X o (TD X.K F ca)) (hi : PE X i (TD X.K F ci)) (hc : noComp e = true) (hn : noSlice i = true) : PS X (.Assign [.Subscript o i p2] e pos) (TS' X.K F (.sto ce ca ci)) := by
  refine (ps_asg he (pg_sub ho hi (set_ok hu) (fun v => by cases i <;> first | rfl | cases hn)) (by show swapsWith e (some (.Subscript o i p2)) pos.line X.env = pure false; exact sw_no hc _ _ _) (by cases e <;> rfl) rfl).weak fun D σ H ⟨ι, ρ, st, E, e, s, q, p⟩ => ?_
  exact .go e s q fun v H1 ι1 d st1 h1 k1 e1 d1 s1 q1 => .go e1 s1 q1 fun w H2 ι2 d2 st2 h2 k2 e2 r2 s2 q2 => .go e2 s2 q2 fun u H3 ι3 d3 st3 h3 k3 e3 r3 s3 q3 =>
    ⟨ι3, d2, d3, d, st3, _, s3, r2.mono h3 k3, r3, d1.mono (h2.trans h3) (k2.trans k3).t, q3, fun H' st' k' s' q' => p.nx σ H' ι3 ρ st' ((h1.trans h2).trans h3) (((k1.trans k2).trans k3).trans k') (e3.mono (List.prefix_refl _) k'.t) s' q'⟩
/-- a[i], b[j] = e -/
theorem s_sto2 {o2 i2 : Expr} {ca2 ci2 : C} {p2 p3 pt : Pos} {kt : Nat} (hcm : X.calm = true) (hu : X.A.units + 1 < cLine) (he : PE X e (TD X.K F ce)) (ho : PE X o (TD X.K F ca)) (hi : PE X i (TD X.K F ci)) (ho2 : PE X o2 (TD X.K F ca2)) (hi2 : PE X i2 (TD X.K F ci2)) (hc : noComp e = true) (hn : noSlice i = true) (hn2 : noSlice i2 = true)
    (hw : swappedStores [.Tuple [.Subscript o i p2, .Subscript o2 i2 p3] kt pt] e X.env = pure none) : PS X (.Assign [.Tuple [.Subscript o i p2, .Subscript o2 i2 p3] kt pt] e pos) (TS' X.K F (.sto2 ce ca ci ca2 ci2)) := by
  have hg : PG X (.Tuple [.Subscript o i p2, .Subscript o2 i2 p3] kt pt) (gTup X.K 2 (gCons (gSub (TD X.K F ca) (TD X.K F ci) (TSt X.K)) (gCons (gSub (TD X.K F ca2) (TD X.K F ci2) (TSt X.K)) gNil))) :=
    pg_tup hcm (pgs_cons (pg_sub ho hi (set_ok hu) (fun v => by cases i <;> first | rfl | cases hn)) (pgs_cons (pg_sub ho2 hi2 (set_ok hu) (fun v => by cases i2 <;> first | rfl | cases hn2)) pgs_nil)) rfl rfl
  refine (ps_asg he hg (by cases e <;> first | rfl | cases hc) hw rfl).weak fun D σ H ⟨ι, ρ, st, E, e, s, q, p⟩ => ?_
  refine .go e s q fun v H1 ι1 d st1 h1 k1 e1 d1 s1 q1 => ?_
  obtain ⟨w1, w2, ed, q2⟩ := q1
  subst ed
  obtain ⟨a, vs, ev, g1, g2⟩ : ∃ a vs, v = .ref a ∧ SqT X.K H1 a vs ∧ DRs X.K ι1 H1 [w1, w2] vs := by
    cases d1 with
    | @tup a vs ds g1 g2 => exact ⟨a, vs, rfl, SqT.of g1, g2⟩
  subst ev
  obtain ⟨u1, u2, ev, r1, r2⟩ := drs_two g2
  subst ev
  refine ⟨a, [u1, u2], rfl, g1, rfl, u1, [u2], rfl, ?_⟩
  refine .go e1 s1 q2 fun w H2 ι2 d2 st2 h2 k2 e2 dd2 s2 q2 => .go e2 s2 q2 fun u H3 ι3 d3 st3 h3 k3 e3 r3 s3 q3 => ?_
  refine ⟨ι3, d2, d3, w1, st3, _, s3, dd2.mono h3 k3, r3, r1.mono (h2.trans h3) (k2.trans k3).t, q3, fun H' st' k' s' q' => ?_⟩
  refine ⟨u2, [], rfl, ?_⟩
  refine .go (e3.mono (List.prefix_refl _) k'.t) s' q' fun w H4 ι4 d4 st4 h4 k4 e4 dd4 s4 q4 => .go e4 s4 q4 fun u H5 ι5 d5 st5 h5 k5 e5 r5 s5 q5 => ?_
  have kk := ((k2.trans k3).trans k').trans (k4.trans k5)
  have hh := (h2.trans h3).trans (h4.trans h5)
  refine ⟨ι5, d4, d5, w2, st5, _, s5, dd4.mono h5 k5, r5, r2.mono hh kk.t, q5, fun H'' st'' k'' s'' q'' => ⟨rfl, ?_⟩⟩
  exact p.nx σ H'' ι5 ρ st'' (h1.trans hh) ((k1.trans kk).trans k'') (e5.mono (List.prefix_refl _) k''.t) s'' q''
/-! ### x op= e, of whole numbers -/
theorem iopB (op : Bop) (hop : op ≠ .pow) : OpR X (inplaceOp (opOfB op)) (TV2 X.K fun x y st Q => ∃ a b, x = .int a ∧ y = .int b ∧ binS op x y st Q) := by
  intro pins s σ H x y v u R I rx ry ⟨ι, d, e, st, Q, hs, hd, he, ⟨a, b, ea, eb, hb⟩, hp⟩
  subst ea eb
  cases hd
  cases he
  cases op with
  | add => exact iop_add pins s σ H _ _ v u R I rx ry ⟨_, _, rfl, rfl, hp.fin (.int _) hs hb⟩
  | sub => exact iop_sub pins s σ H _ _ v u R I rx ry ⟨_, _, rfl, rfl, hp.fin (.int _) hs hb⟩
  | mul =>
    refine opI (f := inplaceOp .Mult) (C := IntMulOk) (g := fun i j => i * j) (fun _ _ _ _ _ _ _ hc q => imul_int q hc) pins s σ H _ _ v u R I rx ry ⟨_, _, rfl, rfl, hb.1, hp.fin (.int _) hs hb.2⟩
  | fdiv =>
    refine opI (f := inplaceOp .FloorDiv) (C := DivOk) (g := fun i j => i / j) (fun i j _ _ _ _ _ hc q => ?_) pins s σ H _ _ v u R I rx ry ⟨_, _, rfl, rfl, hb.1, hp.fin (.int _) hs hb.2⟩
    have h1 : (0 : Int) < j := hc.1
    refine ifloordiv_int (by omega) ?_ (.inl hc.2)
    rw [Int.fdiv_eq_ediv_of_nonneg _ (by omega)]
    exact q
  | mod => exact iop_mod pins s σ H _ _ v u R I rx ry ⟨_, _, rfl, rfl, hb.1, hp.fin (.int _) hs hb.2⟩
  | pow => exact absurd rfl hop
  | shl => exact iop_shlW pins s σ H _ _ v u R I rx ry ⟨_, _, rfl, rfl, hb.1, hp.fin (.int _) hs hb.2⟩
  | shr => exact iop_shr pins s σ H _ _ v u R I rx ry ⟨_, _, rfl, rfl, hb.1, hp.fin (.int _) hs hb.2⟩
  | band => exact iop_and pins s σ H _ _ v u R I rx ry ⟨_, _, rfl, rfl, hp.fin (.int _) hs hb⟩
  | bor => exact iop_or pins s σ H _ _ v u R I rx ry ⟨_, _, rfl, rfl, hp.fin (.int _) hs hb⟩
  | bxor => exact iop_xor pins s σ H _ _ v u R I rx ry ⟨_, _, rfl, rfl, hp.fin (.int _) hs hb⟩
theorem s_aug {i : Nat} {x : Str} {px : Pos} (op : Bop) (hop : op ≠ .pow) (hN : X.N.Nodup) (hi : X.N[i]? = some x) (hx : Loc X.env.scope x) (hf : X.fn x = true ∨ X.env.scope.names.lookup x = some .local) (he : PE X e (TD X.K F ce)) : PS X (.AugAssign (.Name x px) (opOfB op) e pos) (TS' X.K F (.aug i op ce)) :=
  (ps_aug hN hi hx he (iopB op hop) hf).weak fun D σ H ⟨ι, ρ, st, E, e, s, ⟨x, hx, q⟩, p⟩ => by
    obtain ⟨v, hv, rv⟩ := e.get i x hx
    exact ⟨v, hv, .go e s q fun w H1 ι1 d st1 h1 k1 e1 d1 s1 q1 => ⟨ι1, x, d, st1, _, s1, rv.mono h1 k1, d1, (by
      obtain ⟨a, b, ea, eb, hb⟩ := q1
      exact ⟨a, b, ea, eb, hb⟩), fun z H2 ι2 d2 st2 h2 k2 r2 s2 q2 => p.nx _ H2 ι2 _ st2 (h1.trans h2) (k1.trans k2) ((e1.mono h2 k2.t).set r2 i) s2 q2⟩⟩
theorem s_expr (he : PE X e (TD X.K F ce)) (hc : noComp e = true) : PS X (.Expr e pos) (TS' X.K F (.expr ce)) :=
  (ps_expr he (sw_no hc _ _ _)).weak fun D σ H ⟨ι, ρ, st, E, e, s, q, p⟩ => .go e s q fun v H1 ι1 d st1 h1 k1 e1 d1 s1 q1 => p.nx σ H1 ι1 ρ st1 h1 k1 e1 s1 q1
theorem s_ret (he : PE X e (TD X.K F ce)) : PS X (.Return (some e) pos) (TS' X.K F (.ret ce)) :=
  (ps_ret he).weak fun D σ H ⟨ι, ρ, st, E, e, s, q, p⟩ => ⟨ι, ρ, st, _, e, s, q, p.rt⟩
theorem s_retN : PS X (.Return none pos) (TS' X.K F .retN) :=
  ps_retN.weak fun D σ H ⟨ι, ρ, st, E, e, s, q, p⟩ => p.rt.fin .non s q
theorem s_pass : PS X (.Pass pos) (TS' X.K F .pass) := ps_pass.weak fun D σ H ⟨ι, ρ, st, E, e, s, q, p⟩ => p.next e s q
theorem s_brk : PS X (.Break pos) (TS' X.K F .brk) := ps_break.weak fun D σ H ⟨ι, ρ, st, E, e, s, q, p⟩ => p.bk σ H ι ρ st (List.prefix_refl _) (.refl H) e s q
theorem s_cont : PS X (.Continue pos) (TS' X.K F .cont) := ps_continue.weak fun D σ H ⟨ι, ρ, st, E, e, s, q, p⟩ => p.ct σ H ι ρ st (List.prefix_refl _) (.refl H) e s q
theorem s_never : PS X st0 (TS' X.K F .never) := ps_never.weak fun D σ H ⟨ι, ρ, st, E, e, s, q, p⟩ => q.elim
theorem s_doc {x : Str} {j : Nat} {p2 : Pos} : PS X (.Expr (.Constant (.str x) j p2) pos) (TS' X.K F .pass) := ps_doc.weak fun D σ H ⟨ι, ρ, st, E, e, s, q, p⟩ => p.next e s q
theorem s_if {c : Expr} {p q : List Stmt} (hc : PT X c (TT' X.K F cc)) (ha : PSs X p (TS' X.K F s)) (hb : PSs X q (TS' X.K F r)) : PS X (.If c p q pos) (TS' X.K F (.ite cc s r)) :=
  (ps_if hc ha hb).weak fun D σ H ⟨ι, ρ, st, E, e, s, q, p⟩ => .go e s q fun t H1 ι1 st1 h1 k1 e1 s1 q1 => by
    obtain ⟨t', et, q2⟩ := q1
    cases et
    cases t with
    | true => exact ⟨ι1, ρ, st1, E, e1, s1, q2, p.shift h1 k1⟩
    | false => exact ⟨ι1, ρ, st1, E, e1, s1, q2, p.shift h1 k1⟩
theorem s_for {tg iter : Expr} {body : List Stmt} {t : Tg} {k : Ik} (hp : PassesOwn (model X.prog X.w) X.A X.env X.xe) (hc : X.calm = true) (hi : PI X tg iter (TI' X.K F k as)) (hg : PG X tg (TG' X.K t)) (hb : PSs X body (TS' X.K F s))
    (hs : ∀ x, foldedSetIterable iter X.env x = pure x) : PS X (.For tg iter body [] pos) (TS' X.K F (.loop t k as s)) := by
  refine (ps_for hp hc hi hg hb hs).weak fun D σ H ⟨ι, ρ, st, E, e, hs, q, p⟩ => ?_
  refine ⟨ι, ρ, st, fun it st1 => ∃ n, forLoop it.step (fun d ρ => setTg t d ρ) (wps F s) E n 0 ρ st1, e, hs, q, fun J H1 ι1 it st1 h1 k1 e1 s1 hit ⟨n0, hl0⟩ => ?_⟩
  refine ⟨fun i m σ' Hc => ∃ ι' ρ' st', ι1 <+: ι' ∧ Keep ι1 ι' H1 Hc ∧ EnvR X.K ι' Hc σ' ρ' ∧ StR X.K ι' Hc st' ∧ forLoop it.step (fun d ρ => setTg t d ρ) (wps F s) E m i ρ' st', ⟨n0, ι1, ρ, st1, List.prefix_refl _, .refl _, e1, s1, hl0⟩, ?_⟩
  rintro i m σ' Hc ⟨ι', ρ', st', g2, k2, e2, s2, hl⟩
  cases m with
  | zero => exact hl.elim
  | succ m =>
    have hstep := hit ι' Hc st' i g2 k2.t s2
    simp only [forLoop] at hl
    split at hl
    · exact hl.elim
    · rename_i es
      exact .inl ⟨hstep.1 es, p.nx σ' Hc ι' ρ' st' (h1.trans g2) (k1.trans k2) e2 s2 hl⟩
    · rename_i d es
      obtain ⟨go, hy⟩ := hstep.2 d es
      refine .inr ⟨go, fun σn Hn => ∃ ι' ρ' st', ι1 <+: ι' ∧ Keep ι1 ι' H1 Hn ∧ EnvR X.K ι' Hn σn ρ' ∧ StR X.K ι' Hn st' ∧ forLoop it.step (fun d ρ => setTg t d ρ) (wps F s) E m (i + 1) ρ' st', fun σn Hn hn => ⟨m, Nat.lt_succ_self m, hn⟩, fun x H' y => ?_⟩
      obtain ⟨k3, s3, d3⟩ := hy x H' y
      obtain ⟨ρ1, eb, hl⟩ := hl
      have kk := k2.trans k3
      refine ⟨ι', d, ρ', ρ1, st', e2.mono (List.prefix_refl _) k3.t, d3, s3, eb, fun σ3 e3 _ => ⟨ι', ρ1, st', _, e3, s3, hl, ⟨?_, ?_, ?_, ?_⟩⟩⟩
      · exact fun σ4 H4 ι4 ρ4 st4 h4 k4 e4 s4 q4 => ⟨ι4, ρ4, st4, g2.trans h4, kk.trans k4, e4, s4, q4⟩
      · exact p.rt.shift (h1.trans g2) (k1.trans kk)
      · exact fun σ4 H4 ι4 ρ4 st4 h4 k4 e4 s4 q4 => p.nx σ4 H4 ι4 ρ4 st4 ((h1.trans g2).trans h4) ((k1.trans kk).trans k4) e4 s4 q4
      · exact fun σ4 H4 ι4 ρ4 st4 h4 k4 e4 s4 q4 => ⟨ι4, ρ4, st4, g2.trans h4, kk.trans k4, e4, s4, q4⟩
theorem s_while {c : Expr} {body : List Stmt} (hp : PassesOwn (model X.prog X.w) X.A X.env X.xe) (hc : PT X c (TT' X.K F cc)) (hb : PSs X body (TS' X.K F s)) : PS X (.While c body [] pos) (TS' X.K F (.whil cc s)) := by
  refine (ps_while hp hc hb).weak fun D σ H ⟨ι, ρ, st, E, e, hs, ⟨n0, hl0⟩, p⟩ => ?_
  refine ⟨fun m σ' Hc => ∃ ι' ρ' st', ι <+: ι' ∧ Keep ι ι' H Hc ∧ EnvR X.K ι' Hc σ' ρ' ∧ StR X.K ι' Hc st' ∧ whileLoop (wp F cc) (wps F s) E m ρ' st', ⟨n0, ι, ρ, st, List.prefix_refl _, .refl _, e, hs, hl0⟩, ?_⟩
  rintro m σ' Hc ⟨ι', ρ', st', g2, k2, e2, s2, hl⟩
  cases m with
  | zero => exact hl.elim
  | succ m =>
    refine TT'.go e2 s2 hl fun t H3 ι3 st3 h3 k3 e3 s3 q3 => ?_
    obtain ⟨t', et, q3⟩ := q3
    cases et
    cases t with
    | false => exact p.nx σ' H3 ι3 ρ' st3 (g2.trans h3) (k2.trans k3) e3 s3 q3
    | true =>
      refine ⟨fun σn Hn => ∃ ι' ρ' st', ι <+: ι' ∧ Keep ι ι' H Hn ∧ EnvR X.K ι' Hn σn ρ' ∧ StR X.K ι' Hn st' ∧ whileLoop (wp F cc) (wps F s) E m ρ' st', fun σn Hn hn => ⟨m, Nat.lt_succ_self m, hn⟩, ι3, ρ', st3, _, e3, s3, q3, ⟨?_, ?_, ?_, ?_⟩⟩
      · exact fun σ4 H4 ι4 ρ4 st4 h4 k4 e4 s4 q4 => ⟨ι4, ρ4, st4, (g2.trans h3).trans h4, (k2.trans k3).trans k4, e4, s4, q4⟩
      · exact p.rt.shift (g2.trans h3) (k2.trans k3)
      · exact fun σ4 H4 ι4 ρ4 st4 h4 k4 e4 s4 q4 => p.nx σ4 H4 ι4 ρ4 st4 ((g2.trans h3).trans h4) ((k2.trans k3).trans k4) e4 s4 q4
      · exact fun σ4 H4 ι4 ρ4 st4 h4 k4 e4 s4 q4 => ⟨ι4, ρ4, st4, (g2.trans h3).trans h4, (k2.trans k3).trans k4, e4, s4, q4⟩
end
end Cb

namespace Cb
open PySem PySem.Spec PyProof.Rows L2

/-! ## calls of the text's own defs -/
/-- room for k calls in one another, each with an instance made -/
structure RoomM (k : Nat) (A : Around) : Prop where
  hd : A.handled = none
  dp : A.depth + 2 * k + 5 < recursionLimit
  un : A.units + 8 * k + 200 < cLine
/-- .. within a body -/
structure RoomB (k : Nat) (A : Around) : Prop where
  hd : A.handled = none
  dp : A.depth + 2 * k + 6 < recursionLimit
  un : A.units + 8 * k + 205 < cLine
theorem RoomM.of {k : Nat} {A : Around} (r : Room k A) : RoomM k A := ⟨r.hd, by have := r.dp; omega, by have := r.un; omega⟩
theorem RoomM.depth {k : Nat} {A : Around} (r : RoomM k A) : A.depth < recursionLimit := by have := r.dp; omega
theorem RoomM.deeper {k : Nat} {A : Around} (r : RoomM (k + 1) A) (env : Env) : RoomB k (A.deeper env) :=
  ⟨r.hd, by have := r.dp; show A.depth + 1 + 2 * k + 6 < _; omega, by have := r.un; show A.units + 3 + 8 * k + 205 < _; omega⟩
theorem RoomB.m {k : Nat} {A : Around} (r : RoomB k A) : RoomM k A := ⟨r.hd, by have := r.dp; omega, by have := r.un; omega⟩
theorem RoomB.make {k : Nat} {A : Around} (r : RoomB k A) (C : Addr) (us : List Value) (kw : List (Str × Value)) : RoomM k (A.under (.builtin "type.__call__" ⟨.ref C :: us, kw⟩)) :=
  ⟨r.hd, by have := r.dp; rw [make_depth]; omega, by have := r.un; rw [make_units]; omega⟩
/-- a def keeps its promise wherever k rooms are left and no repr is under way; nothing is raised -/
structure FnG (P : Program) (w : World) (K : PySem.W.Frag) (mg : Str → Option Value) (base : Heap) (k : Nat) (f : Addr) (fd : FuncData) (ps : List Str) (sp : List V → Hp → VK → Prop) : Prop where
  run : ∀ (A : Around) (outer : List Env) (s : Shared) (H : Hp) (args : Args) (us : List Value) (vs : List V) (Q : VK), RoomM k A → A.guards = some [] →
    Env0 P w K mg base A outer s H → BindsTo s fd args (ps.zip us) → Vals vs us → vs.length = ps.length → sp vs H Q → codeAny (model P w) A (.call (.ref f) args) (CR CX0 outer P w H s Q E0) s
/-- what our semantics promises -/
def spD (K : PySem.W.Frag) (F : Fm) (f : Nat) : List V → Hp → VK → Prop := fun vs H R => ∃ ι ds st Q, DRs K ι H ds vs ∧ StR K ι H st ∧ F f ds st Q ∧ Post K ι H Q R
/-- how a def is called: its name, how many by position, which by name; its number, the arguments' places by the parameters -/
structure Pat where
  name : Str
  npos : Nat
  ks : List Str
  f : Nat
  perm : List Nat
def PatOk (P : Program) (w : World) (K : PySem.W.Frag) (mg : Str → Option Value) (base : Heap) (F : Fm) (k : Nat) (p : Pat) : Prop :=
  ∃ a fd ps, mg p.name = some (.ref a) ∧ PySem.W.keepIn K (.ref a) = true ∧ FnG P w K mg base k a fd ps (spD K F p.f) ∧ p.perm.length = ps.length ∧
    (∀ (s : Shared) (us ws xs : List Value), K.In s.heap → us.length = p.npos → ws.length = p.ks.length → permL (us ++ ws) p.perm = some xs → BindsTo s fd ⟨us, p.ks.zip ws⟩ (ps.zip xs)) ∧ (p.name == ("__debug__" : Str)) = false
theorem permL_len {α : Type} {xs ys : List α} : ∀ {p : List Nat}, permL xs p = some ys → ys.length = p.length := by
  intro p
  induction p generalizing ys with
  | nil => intro h; cases h; rfl
  | cons i r ih =>
    intro h
    unfold permL at h
    split at h
    · cases h
      rename_i e
      simp [ih e]
    · cases h
theorem permL_rel {K : PySem.W.Frag} {ι : List Addr} {H : Hp} {ds es : List D} {vs : List V} {us : List Value} (r : DRs K ι H ds vs) (q : Vals vs us) : ∀ {p : List Nat}, permL ds p = some es → ∃ ws xs, permL us p = some xs ∧ DRs K ι H es ws ∧ Vals ws xs := by
  intro p
  induction p generalizing es with
  | nil => intro h; cases h; exact ⟨[], [], rfl, .nil, .nil⟩
  | cons i p ih =>
    intro h
    unfold permL at h
    split at h
    · rename_i d es' e1 e2
      cases h
      obtain ⟨v, ev, rv⟩ := r.get e1
      obtain ⟨u, eu, ru⟩ := q.get ev
      obtain ⟨ws, xs, h1, h2, h3⟩ := ih e2
      refine ⟨v :: ws, u :: xs, ?_, .cons rv h2, .cons ru h3⟩
      unfold permL
      rw [eu, h1]
    · cases h
section
variable {X : Cx} {F : Fm} {k : Nat} {x : Str} {p pos : Pos} {e : Expr} {es : List Expr} {kws : List Keyword} {ca ck ce cs : C} {kpos : Pos} {nm : Option Str}
/-- keywords -/
theorem k_nil : PK X [] (TDA X.K F .nil) := ⟨fun pos pins s σ H Q I ⟨ι, ρ, st, Q', e, hs, q, p⟩ => pk_nil.run pos pins s σ H Q I (p [] H ι [] st (List.prefix_refl _) (.refl H) .nil hs q)⟩
theorem k_cons (ha : PE X e (TD X.K F ce)) (hr : PK X kws (TDA X.K F cs)) : PK X (⟨nm, e, kpos⟩ :: kws) (TDA X.K F (.cons ce cs)) :=
  ⟨fun pos pins s σ H R I ⟨ι, ρ, st, Q, e, hs, q, p⟩ => (pk_cons ha hr).run pos pins s σ H R I (.go e hs q fun v H1 ι1 d st1 h1 k1 e1 d1 s1 q1 =>
    .go e1 s1 q1 fun vs H2 ι2 ds st2 h2 k2 e2 d2 s2 q2 => by
      obtain ⟨xs, e3, q3⟩ := q2
      cases e3
      exact p (v :: vs) H2 ι2 (d :: ds) st2 (h1.trans h2) (k1.trans k2) (.cons (d1.mono h2 k2) d2) s2 q3)⟩
/-- a keyword has a name -/
def kwNames : List Keyword → Option (List Str)
  | [] => some []
  | ⟨some n, _, _⟩ :: r => match kwNames r with
    | some ns => some (n :: ns)
    | none => none
  | ⟨none, _, _⟩ :: _ => none
theorem kw_ok (pos : Pos) (env : Env) : ∀ {kws : List Keyword} {ns : List Str}, kwNames kws = some ns → (backToKw pos (keywordEach kws env)).all (·.1.isSome) = true ∧ (backToKw pos (keywordEach kws env)).filterMap (·.1) = ns ∧ (backToKw pos (keywordEach kws env)).any (·.1.isNone) = false ∧ kws.length = ns.length
  | [], _, h => by cases h; exact ⟨rfl, rfl, rfl, rfl⟩
  | ⟨some n, v, q⟩ :: r, ns, h => by
    unfold kwNames at h
    split at h
    · rename_i ms e
      cases h
      obtain ⟨h1, h2, h3, h4⟩ := kw_ok pos env e
      refine ⟨?_, ?_, ?_, by simp [h4]⟩
      · show (true && (backToKw pos (keywordEach r env)).all (·.1.isSome)) = true
        rw [h1]
        rfl
      · show n :: (backToKw pos (keywordEach r env)).filterMap (·.1) = n :: ms
        rw [h2]
      · show (false || (backToKw pos (keywordEach r env)).any (·.1.isNone)) = false
        rw [h3]
        rfl
    · cases h
  | ⟨none, v, q⟩ :: r, ns, h => by cases h
/-- the callee runs -/
theorem run_pat {pt : Pat} (hp : PatOk X.prog X.w X.K X.mg X.base F k pt) (hr : RoomM k X.A) (hg : X.A.guards = some []) {pins : List (Addr × Obj)} {σ : L2.St} {s : Shared} {ι : List Addr} {H : Hp} {R : VK} {us ws : List Value} {vs zs : List V} {ds es ys : List D} {st : Store} {Q : K1}
    (I : Inv X pins σ H s) (h1 : DRs X.K ι H ds vs) (h2 : DRs X.K ι H es zs) (r1 : Vals vs us) (r2 : Vals zs ws) (l1 : us.length = pt.npos) (l2 : ws.length = pt.ks.length) (hs : StR X.K ι H st) (hpm : permL (ds ++ es) pt.perm = some ys) (hF : F pt.f ys st Q) (p : Post X.K ι H Q R) (a : Addr) (ha : X.mg pt.name = some (.ref a)) :
    wpAny (model X.prog X.w) X.A (call (.ref a) us (pt.ks.zip ws)) (EP X pins σ R) X.xe s := by
  obtain ⟨a', fd, ps, hm, hk, G, hl, hb, _⟩ := hp
  rw [ha] at hm
  cases hm
  obtain ⟨qs, xs, e1, e2, e3⟩ := permL_rel (h1.append h2) (r1.append r2) hpm
  have hlen : qs.length = ps.length := by rw [← e2.len, permL_len hpm, hl]
  refine wpAny_call (codeAny_mono (G.run X.A X.stack s H ⟨us, pt.ks.zip ws⟩ xs qs R hr hg I.env0 (hb s us ws xs I.kIn l1 l2 e1) e3 hlen ⟨ι, ys, st, Q, e2, hs, hF, p⟩) fun r s' hq => ?_)
  match r, hq with
  | .ok (.ret u), hq => exact I.after hq
  | .ok .next, hq => exact hq.elim
  | .ok .brk, hq => exact hq.elim
  | .ok .cont, hq => exact hq.elim
  | .error _, hq => exact (show False from hq).elim
theorem permN_of {α : Type} {n m : Nat} {xs zs ys : List α} {p : List Nat} (h : permN n m xs zs p = some ys) : xs.length = n ∧ zs.length = m ∧ permL (xs ++ zs) p = some ys := by
  unfold permN at h
  split at h
  · rename_i e
    exact ⟨e.1, e.2, h⟩
  · cases h
/-- f(e, .., k = v, ..) -/
theorem d_call {pt : Pat} (hp : PatOk X.prog X.w X.K X.mg X.base F k pt) (hr : RoomM k X.A) (hg : X.A.guards = some []) (hx : pt.name = x) (hgl : Gl X x) (ha : PA X es (TDA X.K F ca)) (hkw : PK X kws (TDA X.K F ck)) (hst : es.all notStar = true) (hks : kwNames kws = some pt.ks) (hca : es = [] → ca = .nil) :
    PE X (.Call (.Name x p) es kws pos) (TD X.K F (.call pt.f pt.npos pt.ks.length pt.perm ca ck)) := by
  subst hx
  have hp' := hp
  obtain ⟨a, fd, ps, hm, hk, _, _, _, hdb⟩ := hp'
  refine ⟨fun pins s σ H R I ⟨ι, ρ, st, Q, e, hs, q, pp⟩ => ?_⟩
  obtain ⟨k1, k2, k3, k4⟩ := kw_ok pos X.env hks
  refine wpAny_Call_Name_kw (ld_glob I hgl hm ?_ hdb)
  -- the arguments by position, then by name, then the call
  have go : ∀ (s1 : Shared) (H1 : Hp) (vs : List V) (us : List Value), Inv X pins σ H1 s1 → Vals vs us → (∃ ι1 ds st1, ι <+: ι1 ∧ Keep ι ι1 H H1 ∧ EnvR X.K ι1 H1 σ ρ ∧ DRs X.K ι1 H1 ds vs ∧ StR X.K ι1 H1 st1 ∧ wp F ck ρ st1 fun z st2 => ∃ zs, z = .tup zs ∧ som (permN pt.npos pt.ks.length ds zs pt.perm) fun ys => F pt.f ys st2 Q) →
      wpAny (model X.prog X.w) X.A (evalAll ((backToKw pos (keywordEach kws X.env)).map (·.2))) (fun ks s₂ => X.K.In s₂.heap ∧ wpAny (model X.prog X.w) X.A (call (.ref a) us (((backToKw pos (keywordEach kws X.env)).filterMap (·.1)).zip ks)) (EP X pins σ R) X.xe s₂) X.xe s1 := by
    intro s1 H1 vs us I1 r ⟨ι1, ds, st1, g1, kk1, e1, d1, hs1, q1⟩
    refine thn (hkw.run pos pins s1 σ H1 (fun zs H2 => ∃ ι2 es st2, ι <+: ι2 ∧ Keep ι ι2 H H2 ∧ DRs X.K ι2 H2 ds vs ∧ DRs X.K ι2 H2 es zs ∧ StR X.K ι2 H2 st2 ∧ som (permN pt.npos pt.ks.length ds es pt.perm) fun ys => F pt.f ys st2 Q) I1
      (.go e1 hs1 q1 fun zs H2 ι2 es st2 g2 kk2 e2 d2 s2 q2 => ?_)) fun ws s2 ⟨zs, H2, I2, rz, ι2, es', st2, g2, kk2, d1', d2, hs2, ys, hpm, hF⟩ => ⟨I2.kIn, ?_⟩
    · obtain ⟨zs', ez, q3⟩ := q2
      cases ez
      exact ⟨ι2, es, st2, g1.trans g2, kk1.trans kk2, d1.mono g2 kk2, d2, s2, q3⟩
    · rw [k2]
      obtain ⟨l1, l2, hpm⟩ := permN_of hpm
      exact run_pat hp hr hg I2 d1' d2 r rz (by rw [← r.length, ← d1'.len]; exact l1) (by rw [← rz.length, ← d2.len]; exact l2) hs2 hpm hF (pp.shift g2 kk2) a hm
  cases es with
  | cons e0 es =>
    rw [List.all_cons, Bool.and_eq_true] at hst
    refine PySem.W.callWith_KW (h₀ := X.base) I.ok.mod.kin hk k1 (thn (ha.run pos pins s σ H (fun vs H1 => ∃ ι1 ds st1, ι <+: ι1 ∧ Keep ι ι1 H H1 ∧ EnvR X.K ι1 H1 σ ρ ∧ DRs X.K ι1 H1 ds vs ∧ StR X.K ι1 H1 st1 ∧ wp F ck ρ st1 fun z st2 => ∃ zs, z = .tup zs ∧ som (permN pt.npos pt.ks.length ds zs pt.perm) fun ys => F pt.f ys st2 Q) I
      (.go e hs q fun vs H1 ι1 ds st1 g1 kk1 e1 d1 s1 q1 => ?_)) fun us s1 ⟨vs, H1, I1, r, h1⟩ => go s1 H1 vs us I1 r h1) ?_ (star_cons hst.1 _ _)
    · obtain ⟨xs, ex, q2⟩ := q1
      cases ex
      exact ⟨ι1, ds, st1, g1, kk1, e1, d1, s1, q2⟩
    · rw [star_cons hst.1]
      show ((false || (backTo pos (starEach es X.env)).any (·.1)) || _) = false
      rw [star_any pos X.env es hst.2, k3]
      rfl
  | nil =>
    refine PySem.W.callWith_KW0 (h₀ := X.base) I.ok.mod.kin hk k1 ?_ (by rw [k3]; rfl)
    cases hca rfl
    obtain ⟨xs, ex, q2⟩ := q
    cases ex
    exact go s H [] [] I .nil ⟨ι, [], st, List.prefix_refl _, .refl H, e, .nil, hs, q2⟩
end
end Cb

namespace Cb
open PySem PySem.Spec PyProof.Rows L2
/-! ## instances of the text's own classes -/
/-- how a method is called -/
structure MPat where
  cls : Kl
  name : Str
  npos : Nat
  f : Nat
/-- how an instance is made -/
structure CPat where
  cls : Kl
  npos : Nat
  f : Nat
/-- the arguments by position, behind the instance -/
def SelfBinds (K : PySem.W.Frag) (fd : FuncData) (ps : List Str) (n : Nat) : Prop :=
  ps.length = n + 1 ∧ ∀ (s : Shared) (u0 : Value) (us : List Value), K.In s.heap → us.length = n → BindsTo s fd ⟨u0 :: us, []⟩ (ps.zip (u0 :: us))
def MPatOk (P : Program) (w : World) (K : PySem.W.Frag) (mg : Str → Option Value) (base : Heap) (F : Fm) (k : Nat) (p : MPat) : Prop :=
  ∃ C a fd ps, KlOk K p.cls C ∧ Meth K C p.name a ∧ FnG P w K mg base k a fd ps (spD K F p.f) ∧ SelfBinds K fd ps p.npos
def CPatOk (P : Program) (w : World) (K : PySem.W.Frag) (mg : Str → Option Value) (base : Heap) (F : Fm) (k : Nat) (p : CPat) : Prop :=
  ∃ C a fd ps, KlOk K p.cls C ∧ mg p.cls.name = some (.ref C) ∧ Mk K C a ∧ FnG P w K mg base k a fd ps (spD K F p.f) ∧ SelfBinds K fd ps p.npos ∧ (p.cls.name == ("__debug__" : Str)) = false
theorem KlOk.same {K : PySem.W.Frag} {c : Kl} {C C' : Addr} (h : KlOk K c C) (h' : KlOk K c C') : C' = C := by
  have := h.at_.symm.trans h'.at_
  cases this
  rfl
theorem cell_ins {K : PySem.W.Frag} {ι : List Addr} {H : Hp} {st : Store} (hs : StR K ι H st) {n : Nat} {a : Addr} {c : Kl} {fs : List (Str × D)} (h1 : ι[n]? = some a) (e0 : st[n]? = some (.ins c fs)) :
    ∃ C dx vs, KlOk K c C ∧ H a = some (.ins C dx vs) ∧ DFs K ι H fs vs ∧ ∀ p ∈ fs, p.1 ∈ c.names := hs.at e0 h1
theorem lookup_mem {α : Type} {f : Str} {v : α} : ∀ {fs : List (Str × α)}, fs.lookup f = some v → (f, v) ∈ fs
  | [], h => by cases h
  | (g, x) :: r, h => by
    rw [List.lookup_cons] at h
    split at h
    · rename_i e
      cases h
      rw [eq_of_beq e]
      exact List.mem_cons_self
    · exact List.mem_cons_of_mem _ (lookup_mem h)
theorem lookup_no {α : Type} {f : Str} : ∀ {fs : List (Str × α)}, (∀ p ∈ fs, p.1 ≠ f) → fs.lookup f = none
  | [], _ => rfl
  | (g, x) :: r, h => by
    rw [List.lookup_cons, beq_eq_false_iff_ne.mpr (h (g, x) List.mem_cons_self).symm]
    exact lookup_no fun p hp => h p (List.mem_cons_of_mem _ hp)
section
variable {X : Cx} {F : Fm} {k : Nat} {f m : Str} {pos apos cpos pos' tpos : Pos} {e o a value : Expr} {es : List Expr} {ca ce co cs : C}
/-- e.f -/
theorem d_fld (ha : PE X e (TD X.K F ca)) (hb : plainBase e = true) : PE X (.Attribute e f pos) (TD X.K F (.fld ca f)) :=
  (pe_fld ha (base_ok hb _ _ _)).weak fun σ H R ⟨ι, ρ, st, Q, e, s, q, p⟩ => .go e s q fun x H1 ι1 d st1 h1 k1 e1 d1 s1 q1 => by
    obtain ⟨v, ev, q2⟩ := q1
    cases d1 with
    | @ref n a hn =>
      simp only [fldS] at ev
      split at ev
      · rename_i c fs e0
        obtain ⟨C, dx, vs, ok, g, r, hm⟩ := cell_ins s1 hn e0
        obtain ⟨w, el, rw'⟩ := r.get ev
        exact ⟨a, C, dx, vs, w, rfl, g, ok.cls, ok.no f (hm _ (lookup_mem ev)), el, p w H1 ι1 v st1 h1 k1 rw' s1 q2⟩
      · cases ev
    | _ => cases ev
theorem ins_put {K : PySem.W.Frag} {ι : List Addr} {H : Hp} {st : Store} (hs : StR K ι H st) {n : Nat} {a C dx : Addr} {c : Kl} {fs : List (Str × D)} {vs : List (Str × V)} {d : D} {v : V} (hn : ι[n]? = some a) (ok : KlOk K c C) (g : H a = some (.ins C dx vs)) (r : DFs K ι H fs vs) (hm : ∀ p ∈ fs, p.1 ∈ c.names) (hf : f ∈ c.names) (hd : DR K ι H d v) :
    Keep ι ι H (upd H a (.ins C dx (putF f v vs))) ∧ StR K ι (upd H a (.ins C dx (putF f v vs))) (st.set n (.ins c (putFD f d fs))) := by
  have kp : Keep ι ι H (upd H a (.ins C dx (putF f v vs))) := .upd (List.mem_of_getElem? hn) g (fun _ h => by cases h) fun _ _ h => by cases h
  refine ⟨kp, hs.put hn kp ?_⟩
  refine ⟨C, dx, _, ok, upd_same, (DFs.put hd r).mono (List.prefix_refl _) kp.t, fun p hp => ?_⟩
  rcases putFD_sub hp with h | ⟨q, h1, h2⟩
  · rw [h]; exact hf
  · rw [← h2]; exact hm q h1
/-- a.f = e -/
theorem s_sfd (ha : PE X a (TD X.K F ca)) (he : PE X e (TD X.K F ce)) (hc : noComp e = true) : PS X (.Assign [.Attribute a f pos'] e pos) (TS' X.K F (.sfd ce ca f)) :=
  (ps_fld ha he (sw_no hc _ _ _)).weak fun D σ H ⟨ι, ρ, st, E, e, s, q, p⟩ => .go e s q fun v H1 ι1 d st1 h1 k1 e1 d1 s1 q1 =>
    .go e1 s1 q1 fun x H2 ι2 d' st2 h2 k2 e2 d2 s2 q2 => by
      obtain ⟨n, c, fs, rfl, e0, hf, hl, q3⟩ := q2
      cases d2 with
      | @ref _ a hn =>
        obtain ⟨C, dx, vs, ok, g, r, hm⟩ := cell_ins s2 hn e0
        have dv := d1.mono h2 k2.t
        obtain ⟨kp, s3⟩ := ins_put s2 hn ok g r hm hf dv
        exact ⟨a, C, dx, vs, rfl, g, ok.cls, ok.no f hf, by rw [← r.len]; exact hl, p.nx σ _ ι2 ρ _ (h1.trans h2) ((k1.trans k2).trans kp) (e2.mono (List.prefix_refl _) kp.t) s3 q3⟩
/-- a.f op= e -/
theorem s_afd (op : Bop) (hop : op ≠ .pow) (ha : PE X a (TD X.K F ca)) (he : PE X e (TD X.K F ce)) : PS X (.AugAssign (.Attribute a f tpos) (opOfB op) e pos) (TS' X.K F (.afd ca f op ce)) :=
  (ps_fldaug ha he (iopB op hop)).weak fun D σ H ⟨ι, ρ, st, E, e, s, q, p⟩ => .go e s q fun x H1 ι1 d st1 h1 k1 e1 d1 s1 q1 => by
    obtain ⟨n, c, fs, v, rfl, e0, ev, q2⟩ := q1
    cases d1 with
    | @ref _ a hn =>
      obtain ⟨C, dx, vs, ok, g, r, hm⟩ := cell_ins s1 hn e0
      obtain ⟨w, el, rw'⟩ := r.get ev
      refine ⟨a, C, dx, vs, w, rfl, g, ok.cls, ok.no f (hm _ (lookup_mem ev)), el, .go e1 s1 q2 fun y H2 ι2 dy st2 h2 k2 e2 d2 s2 q3 => ?_⟩
      obtain ⟨i, j, ei, ej, hb⟩ := q3
      refine ⟨ι2, v, dy, st2, _, s2, rw'.mono h2 k2, d2, ⟨i, j, ei, ej, hb⟩, fun z H3 ι3 d3 st3 h3 k3 r3 s3 q4 => ?_⟩
      obtain ⟨fs', e0', hf', hl', q5⟩ := q4
      have hn3 := pre_get (h2.trans h3) hn
      obtain ⟨C', dx', vs', ok', g', r', hm'⟩ := cell_ins s3 hn3 e0'
      cases ok.same ok'
      obtain ⟨kp, s4⟩ := ins_put s3 hn3 ok g' r' hm' hf' r3
      exact ⟨dx', vs', g', by rw [← r'.len]; exact hl', p.nx σ _ ι3 ρ _ ((h1.trans h2).trans h3) (((k1.trans k2).trans k3).trans kp) ((e2.mono h3 k3.t).mono (List.prefix_refl _) kp.t) s4 q5⟩
/-- o.m(..) by what the method of the value is -/
theorem wpAny_Call_own {prog : Program} {w : World} {A : Around} {env : Env} {E : Value → Shared → Prop} {s : Shared} {Q : Value → Shared → Prop}
    (hbase : attributeBase o m env (eval o env) = eval o env)
    (hfew : ((backTo pos (starEach es env)).all (fun x => !x.1) && (backToKw pos (keywordEach [] env)).all (fun x => x.1.isSome)
      && decide (es.length + ([] : List Keyword).length + (if ([] : List Keyword).isEmpty then 0 else 1) < 30)) = true)
    (hline : (apos.endLine == pos.line) = true)
    (h : wpAny (model prog w) A (eval o env) (fun ov s₁ => ∀ pl, wpAny (model prog w) A (getMethod ov m pl) (fun fx s2 => wpAny (model prog w) A (callWith pos fx.1 fx.2 (backTo pos (starEach es env)) []) Q E s2) E s₁) E s) :
    wpAny (model prog w) A (eval (.Call (.Attribute o m apos) es [] pos) env) Q E s := by
  rw [arm_eval_Call, hbase]
  refine wpAny_bind (wpAny_mono h (fun ov s₁ h₁ => ?_) fun _ _ e => e)
  refine wpAny_bind (wpAny_standAt ?_)
  have hform : methodCallForm (es.length + ([] : List Keyword).length) (backTo pos (starEach es env)) (backToKw pos (keywordEach [] env)) = true := hfew
  have hpos : methodCallPos true o env apos pos = pure pos := by unfold methodCallPos; simp [hline]
  unfold methodCall
  rw [hform]
  refine wpAny_bind (wpAny_holding (wpAny_mono (h₁ _) (fun fx s2 h2 => ?_) fun _ _ e => e))
  exact wpAny_bind (wpAny_of_eq hpos h2)
/-- the callee runs, behind its instance -/
theorem run_self {g : Addr} {fd : FuncData} {ps : List Str} {n fi : Nat} {A : Around} {stack : List Env} (G : FnG X.prog X.w X.K X.mg X.base k g fd ps (spD X.K F fi)) (hb : SelfBinds X.K fd ps n) (hr : RoomM k A) (hg : A.guards = some []) {s : Shared} {ι : List Addr} {H : Hp} {R : VK} {us : List Value} {vs : List V} {u0 : Value} {v0 : V} {d0 : D} {ds : List D} {st : Store} {Q : K1}
    (I : Env0 X.prog X.w X.K X.mg X.base A stack s H) (hK : X.K.In s.heap) (h0 : DR X.K ι H d0 v0) (h1 : DRs X.K ι H ds vs) (r0 : RelV v0 u0) (r1 : Vals vs us) (l1 : ds.length = n) (hs : StR X.K ι H st) (hF : F fi (d0 :: ds) st Q) (p : Post X.K ι H Q R) :
    codeAny (model X.prog X.w) A (.call (.ref g) ⟨u0 :: us, []⟩) (CR CX0 stack X.prog X.w H s R E0) s := by
  have e1 := h1.len
  have e2 := r1.length
  exact G.run A stack s H ⟨u0 :: us, []⟩ (u0 :: us) (v0 :: vs) R hr hg I (hb.2 s u0 us hK (by omega)) (.cons r0 r1) (by rw [hb.1, List.length_cons]; omega) ⟨ι, d0 :: ds, st, Q, .cons h0 h1, hs, hF, p⟩
/-- o.m(..) -/
theorem d_mcl {pt : MPat} (hp : MPatOk X.prog X.w X.K X.mg X.base F k pt) (hr : RoomM k X.A) (hg : X.A.guards = some []) (hnm : pt.name = m) (ho : PE X o (TD X.K F co)) (ha : PA X es (TDA X.K F ca)) (hst : es.all notStar = true) (hb : plainBase o = true) (hl : (apos.endLine == cpos.line) = true) (h30 : es.length < 30) (hca : es = [] → ca = .nil) :
    PE X (.Call (.Attribute o m apos) es [] cpos) (TD X.K F (.mcl pt.cls m pt.f pt.npos co ca)) := by
  subst hnm
  obtain ⟨C, g, fd, ps, ok, hm, G, hbind⟩ := hp
  refine ⟨fun pins s σ H R I ⟨ι, ρ, st, Q, e, hs, q, pp⟩ => ?_⟩
  have few : ((backTo cpos (starEach es X.env)).all (fun x => !x.1) && (backToKw cpos (keywordEach [] X.env)).all (fun x => x.1.isSome) && decide (es.length + ([] : List Keyword).length + (if ([] : List Keyword).isEmpty then 0 else 1) < 30)) = true := by
    rw [star_few cpos X.env es hst]
    have h1 : decide (es.length + ([] : List Keyword).length + (if ([] : List Keyword).isEmpty then 0 else 1) < 30) = true := decide_eq_true h30
    rw [h1]
    rfl
  refine wpAny_Call_own (base_ok hb _ _ _) few hl (thn (ho.run pins s σ H (fun x H1 => ∃ ι1 i fs a dx vs st1, x = .ref a ∧ ι <+: ι1 ∧ Keep ι ι1 H H1 ∧ EnvR X.K ι1 H1 σ ρ ∧ StR X.K ι1 H1 st1 ∧ DR X.K ι1 H1 (.ref i) (.ref a) ∧ H1 a = some (.ins C dx vs) ∧ vs.lookup pt.name = none ∧ fs = vs ∧
      wp F ca ρ st1 fun y st2 => ∃ xs, y = .tup xs ∧ xs.length = pt.npos ∧ F pt.f (.ref i :: xs) st2 Q) I
    (.go e hs q fun x H1 ι1 d st1 g1 kk1 e1 d1 s1 q1 => ?_)) fun u s1 ⟨x, H1, I1, rx, ι1, i, fs, a, dx, vs, st1, ex, g1, kk1, e1, s1', dref, gins, lno, _, q1⟩ pl => ?_)
  · obtain ⟨⟨i, fs, rfl, e0⟩, q2⟩ := q1
    cases d1 with
    | @ref _ a hn =>
      obtain ⟨C', dx, vs, ok', gi, r, hm'⟩ := cell_ins s1 hn e0
      cases ok.same ok'
      refine ⟨ι1, i, vs, a, dx, vs, st1, rfl, g1, kk1, e1, s1, .ref hn, gi, r.none (lookup_no fun p hp hpn => ?_), rfl, q2⟩
      have n1 := ok.no pt.name (by rw [← hpn]; exact hm' p hp)
      have n2 := hm.at_
      unfold NoAttr at n1
      rw [n1] at n2
      cases n2
  · subst ex
    obtain rfl : u = Value.ref a := rx
    refine getmeth_ok I1 gins ok.cls hm lno ?_
    have fin : ∀ (s2 : Shared) (H2 : Hp) (us : List Value) (ws : List V) (ι2 : List Addr) (ds : List D) (st2 : Store), Inv X pins σ H2 s2 → ι1 <+: ι2 → Keep ι1 ι2 H1 H2 → DRs X.K ι2 H2 ds ws → Vals ws us → StR X.K ι2 H2 st2 → ds.length = pt.npos → F pt.f (.ref i :: ds) st2 Q →
        wpAny (model X.prog X.w) X.A (call (.ref g) (.ref a :: us) []) (EP X pins σ R) X.xe s2 := fun s2 H2 us ws ι2 ds st2 I2 g2 kk2 d2 r2 s2' l2 hF => by
      refine wpAny_call (codeAny_mono (run_self (u0 := .ref a) (v0 := .ref a) G hbind hr hg I2.env0 I2.kIn (dref.mono g2 kk2.t) d2 rfl r2 l2 s2' hF (pp.shift (g1.trans g2) (kk1.trans kk2))) fun r s' hq => ?_)
      match r, hq with
      | .ok (.ret u), hq => exact I2.after hq
      | .ok .next, hq => exact hq.elim
      | .ok .brk, hq => exact hq.elim
      | .ok .cont, hq => exact hq.elim
      | .error _, hq => exact (show False from hq).elim
    cases es with
    | cons e0 es =>
      rw [List.all_cons, Bool.and_eq_true] at hst
      refine PySem.W.callWith_K (first := [.ref a]) (h₀ := X.base) I.ok.mod.kin hm.kp (thn (ha.run cpos pins s1 σ H1 (fun ws H2 => ∃ ι2 ds st2, ι1 <+: ι2 ∧ Keep ι1 ι2 H1 H2 ∧ DRs X.K ι2 H2 ds ws ∧ StR X.K ι2 H2 st2 ∧ ds.length = pt.npos ∧ F pt.f (.ref i :: ds) st2 Q) I1
        (.go e1 s1' q1 fun ws H2 ι2 ds st2 g2 kk2 e2 d2 s2 q2 => ?_)) fun us s2 ⟨ws, H2, I2, r2, ι2, ds, st2, g2, kk2, d2, s2', l2, hF⟩ => ⟨I2.kIn, fin s2 H2 us ws ι2 ds st2 I2 g2 kk2 d2 r2 s2' l2 hF⟩) (star_cons hst.1 _ _) ?_
      · obtain ⟨xs, ex, l2, hF⟩ := q2
        cases ex
        exact ⟨ι2, ds, st2, g2, kk2, d2, s2, l2, hF⟩
      · exact star_any cpos X.env es hst.2
    | nil =>
      cases hca rfl
      obtain ⟨xs, ex, l2, hF⟩ := q1
      cases ex
      exact PySem.W.callWith_K0 (first := [.ref a]) I1.kIn hm.kp (fin s1 H1 [] [] ι1 [] st1 I1 (List.prefix_refl _) (.refl _) .nil .nil s1' l2 hF)
/-- C(..) -/
theorem d_mk {pt : CPat} {x : Str} {p : Pos} (hp : CPatOk X.prog X.w X.K X.mg X.base F k pt) (hr : RoomB k X.A) (hg : X.A.guards = some []) (hx : pt.cls.name = x) (hgl : Gl X x) (ha : PA X es (TDA X.K F ca)) (hst : es.all notStar = true) (hca : es = [] → ca = .nil) :
    PE X (.Call (.Name x p) es [] pos) (TD X.K F (.mk pt.cls pt.f pt.npos ca)) := by
  subst hx
  obtain ⟨C, g, fd, ps, ok, hm, M, G, hbind, hdb⟩ := hp
  refine ⟨fun pins s σ H R I ⟨ι, ρ, st, Q, e, hs, q, pp⟩ => ?_⟩
  refine wpAny_Call_Name_kw (ld_glob I hgl hm ?_ hdb)
  have fin : ∀ (s1 : Shared) (H1 : Hp) (us : List Value) (ws : List V) (ι1 : List Addr) (ds : List D) (st1 : Store), Inv X pins σ H1 s1 → ι <+: ι1 → Keep ι ι1 H H1 → DRs X.K ι1 H1 ds ws → Vals ws us → StR X.K ι1 H1 st1 → ds.length = pt.npos → F pt.f (.ref st1.length :: ds) (st1 ++ [.ins pt.cls []]) (fun v st2 => v = .non ∧ Q (.ref st1.length) st2) →
      wpAny (model X.prog X.w) X.A (call (.ref C) us []) (EP X pins σ R) X.xe s1 := fun s1 H1 us ws ι1 ds st1 I1 g1 kk1 d1 r1 s1' l1 hF => by
    have I2 := Inv.made (C := C) I1
    have f1 : H1 s1.heap.objs.size = none := I1.hok.fresh (Nat.le_refl _)
    have f2 : H1 (s1.heap.objs.size + 1) = none := I1.hok.fresh (Nat.le_succ _)
    have ne : s1.heap.objs.size + 1 ≠ s1.heap.objs.size := by omega
    have f3 : upd H1 (s1.heap.objs.size) (.own (s1.heap.objs.size + 1)) (s1.heap.objs.size + 1) = none := by rw [upd_ne ne]; exact f2
    have kp : Keep ι1 (ι1 ++ [(s1.heap.objs.size + 1)]) H1 (upd (upd H1 (s1.heap.objs.size) (.own (s1.heap.objs.size + 1))) (s1.heap.objs.size + 1) (.ins C s1.heap.objs.size [])) := (Keep.new1 f1).trans (.newC f3)
    have s2' : StR X.K (ι1 ++ [(s1.heap.objs.size + 1)]) (upd (upd H1 (s1.heap.objs.size) (.own (s1.heap.objs.size + 1))) (s1.heap.objs.size + 1) (.ins C s1.heap.objs.size [])) (st1 ++ [.ins pt.cls []]) := (s1'.newTup f1).newCell f3 ⟨C, s1.heap.objs.size, [], ok, upd_same, .nil, by simp⟩
    have dl : DR X.K (ι1 ++ [(s1.heap.objs.size + 1)]) (upd (upd H1 (s1.heap.objs.size) (.own (s1.heap.objs.size + 1))) (s1.heap.objs.size + 1) (.ins C s1.heap.objs.size [])) (.ref st1.length) (.ref (s1.heap.objs.size + 1)) := DR.last s1'
    have d2 := d1.mono (List.prefix_append ι1 [(s1.heap.objs.size + 1)]) kp.t
    refine wpAny_call (make_map (f := g) I1.kIn M.makes M.init (beq_iff_eq.mp M.fn) (codeAny_mono (G.run _ X.stack _ _ ⟨.ref (s1.heap.objs.size + 1) :: us, []⟩ (.ref (s1.heap.objs.size + 1) :: us) (.ref (s1.heap.objs.size + 1) :: ws) (fun v H2 => v = .non ∧ R (.ref (s1.heap.objs.size + 1)) H2) (hr.make C us []) hg (I2.env0.make C us []) (hbind.2 _ _ us I2.kIn (by rw [← r1.length, ← d1.len]; exact l1)) (.cons (rfl) r1) (by rw [hbind.1, List.length_cons, ← d1.len, l1])
      ⟨ι1 ++ [(s1.heap.objs.size + 1)], .ref st1.length :: ds, _, _, .cons dl d2, s2', hF, fun v H' ι' d st' h k rd sd qd => ?_⟩) fun r s' hq' => ?_))
    · obtain ⟨ed, q2⟩ := qd
      subst ed
      cases rd
      exact ⟨rfl, pp _ H' ι' _ st' ((g1.trans (List.prefix_append _ _)).trans h) ((kk1.trans kp).trans k) (dl.mono h k.t) sd q2⟩
    · cases r with
      | error e => exact (show False from hq').elim
      | ok fl =>
        cases fl with
        | ret u =>
          obtain ⟨v, H', I3, rv, ev, q3⟩ := I2.after hq'
          subst ev
          exact ⟨rv, ⟨V.ref (s1.heap.objs.size + 1), H', I3, rfl, q3⟩⟩
        | next => exact False.elim hq'
        | brk => exact False.elim hq'
        | cont => exact False.elim hq'
  cases es with
  | cons e0 es =>
    rw [List.all_cons, Bool.and_eq_true] at hst
    refine PySem.W.callWith_K (h₀ := X.base) I.ok.mod.kin M.kp (thn (ha.run pos pins s σ H (fun ws H2 => ∃ ι2 ds st2, ι <+: ι2 ∧ Keep ι ι2 H H2 ∧ DRs X.K ι2 H2 ds ws ∧ StR X.K ι2 H2 st2 ∧ ds.length = pt.npos ∧ F pt.f (.ref st2.length :: ds) (st2 ++ [.ins pt.cls []]) (fun v st3 => v = .non ∧ Q (.ref st2.length) st3)) I
      (.go e hs q fun ws H2 ι2 ds st2 g2 kk2 e2 d2 s2 q2 => ?_)) fun us s2 ⟨ws, H2, I2, r2, ι2, ds, st2, g2, kk2, d2, s2', l2, hF⟩ => ⟨I2.kIn, fin s2 H2 us ws ι2 ds st2 I2 g2 kk2 d2 r2 s2' l2 hF⟩) (star_cons hst.1 _ _) (star_any pos X.env es hst.2)
    obtain ⟨xs, ex, l2, hF⟩ := q2
    cases ex
    exact ⟨ι2, ds, st2, g2, kk2, d2, s2, l2, hF⟩
  | nil =>
    cases hca rfl
    obtain ⟨xs, ex, l2, hF⟩ := q
    cases ex
    exact PySem.W.callWith_K0 I.kIn M.kp (fin s H [] [] ι [] st I (List.prefix_refl _) (.refl _) .nil .nil hs l2 hF)
end
end Cb

namespace Cb
open PySem PySem.Spec PyProof.Rows L2

/-! ## enumerate and zip -/
/-- enumerate of one argument: it begins where the argument begins -/
theorem meets_enum1 {v0 : Value} {ob : Obj} {H0 : Heap → Prop} (B : Begins v0 ob H0) :
    Meets (Builtin.«enumerate.__new__» ⟨[.type "enumerate", v0], []⟩) (fun _ R s => H0 s.heap ∧
      R (.ok (.ret (.ref (s.heap.push ob).objs.size))) { s with heap := (s.heap.push ob).push { cls := .type "enumerate", data := .fields #[.none, .bool false, .ref s.heap.objs.size, rawInt 0, .none, .none] } }) :=
  .of_wp fun prog w A R s h => by
    obtain ⟨hp, gg, dd, tk, os⟩ := s
    obtain ⟨h1, h⟩ := h
    have hsub := sub_enumerate
    have go : ∀ {A' : Around} {E' : Value → Shared → Prop} {Q' : Value → Shared → Prop}, Q' (.ref hp.objs.size) ⟨hp.push ob, gg, dd, tk, os⟩ → wpAny (model prog w) A' (pyIter v0) Q' E' ⟨hp, gg, dd, tk, os⟩ :=
      fun q => B.iter prog w _ _ ⟨hp, gg, dd, tk, os⟩ _ h1 q
    wp_walk using go
    refine wpAny_stack_any fun sk => wpAny_pure ?_
    split
    · rename_i c _ _ _ _ _
      cases (c == Value.type "enumerate") <;> (wp_walk using go) <;> exact ⟨_, rfl, h⟩
    · wp_walk using go
      exact ⟨_, rfl, h⟩
theorem call_enum1 {prog : Program} {w : World} {A : Around} {E : Value → Shared → Prop} {s : Shared} {v0 : Value} {ob : Obj} {H0 : Heap → Prop} {Q : Value → Shared → Prop} (B : Begins v0 ob H0) (h1 : H0 s.heap)
    (h : ∀ h', IsEnum h' (s.heap.objs.size + 1) s.heap.objs.size 0 .none → h'.get? s.heap.objs.size = some ob → (∀ b o, s.heap.get? b = some o → h'.get? b = some o) → Q (.ref (s.heap.objs.size + 1)) { s with heap := h' }) :
    wpAny (model prog w) A (call (.type "enumerate") [v0]) Q E s := by
  refine callType_new F.called_enumerate (by decide) (F.typeCall_enumerate_1 _) (F.newCall_enumerate_1 _) (fun x => F.args_object_init_2 x _) F.entry_enumerate_new (meets_enum1 B) ⟨h1, ?_⟩
  have sz : (s.heap.push ob).objs.size = s.heap.objs.size + 1 := Heap.size_push ..
  show _ ∧ _
  rw [sz]
  have ie : IsEnum ((s.heap.push ob).push { cls := .type "enumerate", data := .fields #[.none, .bool false, .ref s.heap.objs.size, rawInt 0, .none, .none] }) (s.heap.objs.size + 1) s.heap.objs.size 0 .none := by
    have e := Heap.get?_push_size (s.heap.push ob) (o := { cls := .type "enumerate", data := .fields #[.none, .bool false, .ref s.heap.objs.size, rawInt 0, .none, .none] }) rfl
    rw [sz] at e
    exact e
  exact ⟨⟨_, ie, rfl⟩, h _ ie (Heap.get?_push_of_some _ (Heap.get?_push_size _ B.free)) fun b o x => Heap.get?_push_of_some _ (Heap.get?_push_of_some _ x)⟩
/-- the tuple at a, each item in a new pair -/
def IteT (K : PySem.W.Frag) (a : Addr) : It :=
  ⟨fun i H => ∃ (xs : List V) (x : V), SqT K H a xs ∧ xs[i]? = some x, fun i H v H' => ∃ T x, v = .ref T ∧ H T = none ∧ H' = upd H T (.tup [.int (i : Nat), x]) ∧ ∀ xs, SqT K H a xs → xs[i]? = some x, fun i H => ∃ xs : List V, SqT K H a xs ∧ xs.length ≤ i⟩
theorem turn_enumT {P : Program} {w : World} {K : PySem.W.Frag} {elts : List Expr} {kk : Nat} {tpos : Pos} (a e it : Addr) :
    Turn P w K (.Tuple elts kk tpos) (IteT K a) [e, it] e (fun i h => (∃ old, IsEnum h e it ((i : Nat) : Int) old) ∧ h.IsTupleIter it a i ∧ e ≠ it) where
  mem := by simp
  obj := fun i h st b hb => by
    obtain ⟨⟨old, he⟩, ⟨o, ho, hc, hd⟩, _⟩ := st
    have hb' : b = e ∨ b = it := by simpa using hb
    rcases hb' with rfl | rfl
    · exact ⟨_, he, fun v q => nomatch q⟩
    · exact ⟨o, ho, fun v q => by rw [hd] at q; cases q⟩
  keep := fun i h h' st k => by
    obtain ⟨⟨old, he⟩, hi, hne⟩ := st
    exact ⟨⟨old, k e (by simp) _ he⟩, hi.at fun o q => k it (by simp) o q, hne⟩
  item := by
    intro X hP hw hK hc i pins s σ H E I hf st hg
    subst hP hw hK
    obtain ⟨⟨old, he⟩, hit, hne⟩ := st
    obtain ⟨xs, x, hq, hx⟩ := hg
    obtain ⟨its, rv, p, hz⟩ := I.tuple hq
    obtain ⟨u, hu, ru⟩ := rv.get hx
    have hel : e < s.heap.objs.size := Heap.lt_size he
    have hil : it < s.heap.objs.size := by obtain ⟨_, q, _⟩ := hit; exact Heap.lt_size q
    have hai : a ≠ it := by
      rintro rfl
      obtain ⟨o1, e1, c1, d1⟩ := hit
      obtain ⟨o2, e2, c2, n2, d2⟩ := p
      rw [e1] at e2
      cases e2
      rw [d1] at d2
      cases d2
    have hae : e ∉ [it, a] := fun hm => by
      have hm' : e = it ∨ e = a := by simpa using hm
      rcases hm' with q | q
      · exact hne q
      · obtain ⟨o2, e2, c2, n2, d2⟩ := p
        rw [← q, he] at e2
        cases e2
        cases d2
    have hlt : i < its.toArray.size := by
      obtain ⟨q, _⟩ := List.getElem?_eq_some_iff.mp hu
      simpa using q
    refine wpAny_pyNext_enum_itemD (Draws.tuple (prog := X.prog) (w := X.w) (A := X.A.in1) (show X.A.in1.handled = none from I.ok.hd hc) it a hai its.toArray) he ⟨hit, show s.heap.IsTuple a its.toArray from p⟩ hlt hne hae fun x' h' tk hx' ho st' hT hsz hk => ?_
    have ex : x' = u := by
      have q : its.toArray[i]? = some x' := hx'
      have q2 : its.toArray[i]? = some u := by simpa using hu
      rw [q] at q2
      exact Option.some.inj q2
    subst ex
    refine ⟨_, rfl, wpAny_letOwnedTupleGo_enum (s := { s with heap := h', toks := tk + 1 }) ho fun h'' he' sb => ?_⟩
    have hT2 : h''.get? s.heap.objs.size = some { cls := .type "tuple", data := .seq #[.int i tk, x'] } := (sb.2 _ (Nat.ne_of_gt hel)).trans hT
    have new : ObjOk X.prog X.w (upd H s.heap.objs.size (.tup [.int (i : Nat), x])) h'' s.heap.objs.size (.tup [.int (i : Nat), x]) :=
      ⟨by show 2 ≤ sizeLine; decide, [.int i tk, x'], .cons ⟨_, rfl⟩ (.cons ru .nil), ⟨_, hT2, rfl, _, rfl⟩⟩
    have I1 : Inv X pins σ (upd H s.heap.objs.size (.tup [.int (i : Nat), x])) { s with heap := h'', toks := tk + 1 } :=
      I.turnedNew (ch := [e, it]) (fun b ob hb q => (sb.2 b (fun z => hb (by simp [z]))).trans (hk b ob (fun z => hb (by simp [z])) (fun z => hb (by simp [z])) q)) hf (Nat.le_refl _) new
    refine ⟨.ref s.heap.objs.size, _, I1, rfl, ⟨_, x, rfl, I.hok.fresh (Nat.le_refl _), rfl, fun ys hy => by rw [I.tuple_inj hy hq]; exact hx⟩, ⟨⟨x', ?_⟩, st'.1.at fun o q => (sb.2 it (Ne.symm hne)).trans q, hne⟩, fun b hb => ?_⟩
    · have e1 : ((i + 1 : Nat) : Int) = (i : Int) + 1 := by omega
      rw [e1]
      exact he'
    · have hb' : b < s.heap.objs.size := by
        have hm' : b = e ∨ b = it := by simpa using hb
        rcases hm' with z | z
        · rw [z]; exact hel
        · rw [z]; exact hil
      rw [upd_ne (Nat.ne_of_lt hb')]
      exact (hf b hb).1
  done := by
    intro X hP hw hK hc i pins s σ H E I hf st hg
    subst hP hw hK
    obtain ⟨⟨old, he⟩, hit, hne⟩ := st
    obtain ⟨xs, hq, hx⟩ := hg
    obtain ⟨its, rv, p, hz⟩ := I.tuple hq
    obtain ⟨f0, f1, f2, f3, f4, f5⟩ := hf it (by simp)
    have hl := rv.length
    have hT : s.TypeIs (.ref e) "enumerate" := ⟨_, he, rfl⟩
    unfold pyNext
    refine wpAny_bind (wpAny_attempt (wpAny_callSpecial?_slot (name := Str.ofString "__next__") hT F.slot_enumerate_next
      (wpAny_call_entry F.slot_enumerate_next hT F.entry_enumerate_next ?_ (F.args_enumerate_next_1 _))))
    show wpAny _ _ (field (.ref e) 2 >>= _) _ _ _
    refine wpAny_bind (wpAny_field he rfl (x := .ref it) rfl ?_)
    refine wpAny_bind (wpAny_nextOf_tuple_end (I.ok.hd hc) hit (show s.heap.IsTuple a its.toArray from p) (by simp; omega) fun h' x eb hx' => ?_)
    obtain ⟨o, ho, hcc⟩ := hx'
    refine wpAny_bind (wpAny_isInstance (T := "StopIteration") (b := true) ⟨o, ho, hcc⟩ isSubtype_stop ?_)
    exact wpAny_pure ⟨rfl, I.turned (t' := s.toks) (fun b o hb q => eb b o hb q) f0 f1 f3 f4 f5⟩
  self := fun A i s Q E st h => by
    obtain ⟨⟨_, he⟩, _⟩ := st
    exact wpAny_pyIter_enum he h
section
variable {X : Cx} {F : Fm} {tg a b e elt : Expr} {es elts : List Expr} {ca cb ce cc as : C} {p pos tpos : Pos} {kk : Nat} {ta : TA}
theorem pi_enumS (hg : Gl X "enumerate") (hm : X.mg "enumerate" = none) (ha : PA X [e] ta) (hs : starEach [e] X.env = [(false, eval e X.env)]) :
    PI X (.Tuple elts kk tpos) (.Call (.Name "enumerate" p) [e] [] pos) (fun σ H R => ta σ H fun vs H1 => ∃ a, vs = [.ref a] ∧ ((∃ xs, SqL X.K H1 a xs ∧ R (Ite X.K a) H1) ∨ ∃ xs, SqT X.K H1 a xs ∧ R (IteT X.K a) H1)) := by
  refine ⟨fun pins s σ H R I h => ?_⟩
  refine Call_ (ld_blt I hg hm boot_enumerate (PyProof.Rows.callWith_type1 (thn (ha.run pos pins s σ H _ I h) fun us s1 ⟨vs, H1, I1, r1, q1⟩ => ?_) hs rfl))
  obtain ⟨a, ex, q1⟩ := q1
  subst ex
  have fresh : ∀ b ∈ [s1.heap.objs.size + 1, s1.heap.objs.size], FpOk X pins H1 b := fun b hb => by
    have hm' : b = s1.heap.objs.size + 1 ∨ b = s1.heap.objs.size := by simpa using hb
    have hle : s1.heap.objs.size ≤ b := by rcases hm' with z | z <;> omega
    exact I1.fpOk hle (I1.hok.fresh hle)
  cases r1 with
  | cons r rr =>
    cases rr
    cases r
    rcases q1 with ⟨xs, hq, q⟩ | ⟨xs, hq, q⟩
    · obtain ⟨its, rv, p', hz⟩ := I1.list hq
      refine call_enum1 (begins_list a its.toArray) p'.isList fun h' he hit hk => wpAny_pyIter_enum he ?_
      exact ⟨s1.heap.objs.size + 1, [s1.heap.objs.size + 1, s1.heap.objs.size], _, _, H1, rfl, I1.kept (t' := s1.toks) hk, turn_enum a (s1.heap.objs.size + 1) s1.heap.objs.size, ⟨⟨.none, he⟩, ⟨_, hit, rfl, rfl⟩, Nat.succ_ne_self _⟩, fresh, q⟩
    · obtain ⟨its, rv, p', hz⟩ := I1.tuple hq
      refine call_enum1 (begins_tuple a its.toArray) (show s1.heap.IsTuple a its.toArray from p') fun h' he hit hk => wpAny_pyIter_enum he ?_
      exact ⟨s1.heap.objs.size + 1, [s1.heap.objs.size + 1, s1.heap.objs.size], _, _, H1, rfl, I1.kept (t' := s1.toks) hk, turn_enumT a (s1.heap.objs.size + 1) s1.heap.objs.size, ⟨⟨.none, he⟩, ⟨_, hit, rfl, rfl⟩, Nat.succ_ne_self _⟩, fresh, q⟩
/-- a new pair beside the store -/
theorem new_pair {K : PySem.W.Frag} {ι : List Addr} {H : Hp} {st : Store} {T : Addr} {x y : V} {dx dy : D} (hs : StR K ι H st) (hT : H T = none) (rx : DR K ι H dx x) (ry : DR K ι H dy y) :
    Keep ι ι H (upd H T (.tup [x, y])) ∧ StR K ι (upd H T (.tup [x, y])) st ∧ DR K ι (upd H T (.tup [x, y])) (.tup [dx, dy]) (.ref T) := by
  have k : KeepT H (upd H T (.tup [x, y])) := .new hT
  exact ⟨.new1 hT, hs.newTup hT, .tup upd_same (.cons (rx.mono (List.prefix_refl _) k) (.cons (ry.mono (List.prefix_refl _) k) .nil))⟩
theorem itr_enumT {K : PySem.W.Frag} {ι0 : List Addr} {H0 : Hp} {a : Addr} {xs : List D} {vs : List V} (h : SqT K H0 a vs) (r : DRs K ι0 H0 xs vs) : ItR K ι0 H0 (IteT K a) (.enum (.seq xs)) := by
  intro ι H st i hι hk hs
  have hq := hk.seq h
  have r2 := r.mono hι hk
  simp only [ItD.step, Src.at, Option.map_some]
  refine ⟨fun e1 => ?_, fun d e1 => ?_⟩
  · have e2 : xs[i]? = none := by
      cases z : xs[i]? with
      | none => rfl
      | some d => rw [z] at e1; cases e1
    exact ⟨vs, hq, by rw [← r.len]; exact List.getElem?_eq_none_iff.mp e2⟩
  · cases e2 : xs[i]? with
    | none => rw [e2] at e1; cases e1
    | some d0 =>
      rw [e2] at e1
      cases e1
      obtain ⟨v, hv, rv⟩ := r2.get e2
      refine ⟨⟨vs, v, hq, hv⟩, fun x H' y => ?_⟩
      obtain ⟨T, x0, rfl, nT, rfl, hy⟩ := y
      have e3 : v = x0 := Option.some.inj (hv.symm.trans (hy vs hq))
      subst e3
      exact new_pair hs nT (.int _) rv
theorem live_cases {K : PySem.W.Frag} {ι : List Addr} {H : Hp} {st : Store} {n : Nat} {a : Addr} (hs : StR K ι H st) (hn : ι[n]? = some a) : (∃ xs vs, (Src.live n).at st = some xs ∧ SqL K H a vs ∧ DRs K ι H xs vs) ∨ (Src.live n).at st = none := by
  cases e0 : st[n]? with
  | none => exact .inr (by simp only [Src.at, e0])
  | some c =>
    cases c with
    | lst xs =>
      obtain ⟨vs, g, r⟩ := hs.at e0 hn
      exact .inl ⟨xs, vs, by simp only [Src.at, e0], .inl (.inl g), r⟩
    | frz xs =>
      obtain ⟨o, vs, g, r⟩ := hs.at e0 hn
      exact .inl ⟨xs, vs, by simp only [Src.at, e0], .inl (.inr ⟨o, g⟩), r⟩
    | dct xs => exact .inr (by simp only [Src.at, e0])
    | dtt xs => exact .inr (by simp only [Src.at, e0])
    | ins c xs => exact .inr (by simp only [Src.at, e0])
    | lkd xs => exact .inr (by simp only [Src.at, e0])
    | lkt xs => exact .inr (by simp only [Src.at, e0])
theorem itr_enumL {K : PySem.W.Frag} {ι0 : List Addr} {H0 : Hp} {n : Nat} {a : Addr} (h : ι0[n]? = some a) : ItR K ι0 H0 (Ite K a) (.enum (.live n)) := by
  intro ι H st i hι hk hs
  rcases live_cases hs (pre_get hι h) with ⟨xs, vs, e, hq, r⟩ | e
  · simp only [ItD.step, e, Option.map_some]
    refine ⟨fun e1 => ?_, fun d e1 => ?_⟩
    · have e2 : xs[i]? = none := by
        cases z : xs[i]? with
        | none => rfl
        | some d => rw [z] at e1; cases e1
      exact ⟨vs, hq, by rw [← r.len]; exact List.getElem?_eq_none_iff.mp e2⟩
    · cases e2 : xs[i]? with
      | none => rw [e2] at e1; cases e1
      | some d0 =>
        rw [e2] at e1
        cases e1
        obtain ⟨v, hv, rv⟩ := r.get e2
        refine ⟨⟨vs, v, hq, hv⟩, fun x H' y => ?_⟩
        obtain ⟨T, x0, rfl, nT, rfl, hy⟩ := y
        have e3 : v = x0 := Option.some.inj (hv.symm.trans (hy vs hq))
        subst e3
        exact new_pair hs nT (.int _) rv
  · simp only [ItD.step, e]
    refine ⟨fun e1 => ?_, fun d e1 => ?_⟩ <;> cases e1
theorem i_enum (hg : Gl X "enumerate") (hm : X.mg "enumerate" = none) (ha : PA X [a] (TDA X.K F as)) (hs : notStar a = true) : PI X (.Tuple elts kk tpos) (.Call (.Name "enumerate" p) [a] [] pos) (TI' X.K F .enum as) :=
  (pi_enumS hg hm ha (star_cons hs _ _)).weak fun σ H R ⟨ι, ρ, st, Q, e, s, q, p⟩ => .go e s q fun vs H1 ι1 ds st1 h1 k1 e1 d1 s1 q1 => by
    obtain ⟨xs, ex, it, ei, q2⟩ := q1
    cases ex
    cases d1 with
    | nil => cases ei
    | cons r t =>
      cases t with
      | nil =>
        cases r with
        | @tup a' vs ds g1 g2 =>
          cases ei
          exact ⟨a', rfl, .inr ⟨vs, SqT.of g1, p _ H1 ι1 _ st1 h1 k1 e1 s1 (itr_enumT (SqT.of g1) g2) q2⟩⟩
        | @ktp a' vs ds g1 g2 =>
          cases ei
          exact ⟨a', rfl, .inr ⟨vs, g1, p _ H1 ι1 _ st1 h1 k1 e1 s1 (itr_enumT g1 g2) q2⟩⟩
        | @ref n a' g1 =>
          simp only [itOf, srcOf] at ei
          refine ⟨a', rfl, .inl ?_⟩
          split at ei
          · rename_i e0
            cases ei
            obtain ⟨vs, g, r⟩ := s1.at e0 g1
            exact ⟨vs, .inl (.inl g), p _ H1 ι1 _ st1 h1 k1 e1 s1 (itr_enumL g1) q2⟩
          · rename_i e0
            cases ei
            obtain ⟨o, vs, g, r⟩ := s1.at e0 g1
            exact ⟨vs, .inl (.inr ⟨o, g⟩), p _ H1 ι1 _ st1 h1 k1 e1 s1 (itr_enumL g1) q2⟩
          · cases ei
        | _ => cases ei
      | cons r2 t2 => cases r <;> cases ei
theorem zip_step {xs ys : List D} {i : Nat} : (∃ x y, xs[i]? = some x ∧ ys[i]? = some y ∧ zipAt xs ys i = some (D.tup [x, y])) ∨ ((xs.length ≤ i ∨ ys.length ≤ i) ∧ zipAt xs ys i = none) := by
  unfold zipAt
  cases ex : xs[i]? with
  | none => exact .inr ⟨.inl (List.getElem?_eq_none_iff.mp ex), rfl⟩
  | some x =>
    cases ey : ys[i]? with
    | none => exact .inr ⟨.inr (List.getElem?_eq_none_iff.mp ey), rfl⟩
    | some y => exact .inl ⟨x, y, rfl, rfl, rfl⟩
theorem itr_zipT {K : PySem.W.Frag} {ι0 : List Addr} {H0 : Hp} {a b : Addr} {xs ys : List D} {vs ws : List V} (h : SqT K H0 a vs) (r : DRs K ι0 H0 xs vs) (h2 : SqT K H0 b ws) (r2 : DRs K ι0 H0 ys ws) : ItR K ι0 H0 (RZ.ItzT K a b) (.zip (.seq xs) (.seq ys)) := by
  intro ι H st i hι hk hs
  have hq := hk.seq h
  have hq2 := hk.seq h2
  have rr := r.mono hι hk
  have rr2 := r2.mono hι hk
  simp only [ItD.step, Src.at]
  rcases zip_step (xs := xs) (ys := ys) (i := i) with ⟨x, y, ex, ey, e⟩ | ⟨hl, e⟩ <;> rw [e]
  · refine ⟨fun e1 => (by cases e1), fun d e1 => ?_⟩
    cases e1
    obtain ⟨v, hv, rv⟩ := rr.get ex
    obtain ⟨v2, hv2, rv2⟩ := rr2.get ey
    refine ⟨⟨vs, ws, v, v2, hq, hq2, hv, hv2⟩, fun z H' yl => ?_⟩
    obtain ⟨T, x0, y0, rfl, nT, rfl, f1, f2⟩ := yl
    have e3 : v = x0 := Option.some.inj (hv.symm.trans (f1 vs hq))
    have e4 : v2 = y0 := Option.some.inj (hv2.symm.trans (f2 ws hq2))
    subst e3 e4
    exact new_pair hs nT rv rv2
  · refine ⟨fun _ => ⟨vs, ws, hq, hq2, ?_⟩, fun d e1 => (by cases e1)⟩
    rw [← rr.len, ← rr2.len]
    exact hl
theorem itr_zipL {K : PySem.W.Frag} {ι0 : List Addr} {H0 : Hp} {n m : Nat} {a b : Addr} (h : ι0[n]? = some a) (h2 : ι0[m]? = some b) : ItR K ι0 H0 (Itz K a b) (.zip (.live n) (.live m)) := by
  intro ι H st i hι hk hs
  rcases live_cases hs (pre_get hι h) with ⟨xs, vs, e, hq, rr⟩ | e
  · rcases live_cases hs (pre_get hι h2) with ⟨ys, ws, e2, hq2, rr2⟩ | e2
    · simp only [ItD.step, e, e2]
      rcases zip_step (xs := xs) (ys := ys) (i := i) with ⟨x, y, ex, ey, ez⟩ | ⟨hl, ez⟩ <;> rw [ez]
      · refine ⟨fun e1 => (by cases e1), fun d e1 => ?_⟩
        cases e1
        obtain ⟨v, hv, rv⟩ := rr.get ex
        obtain ⟨v2, hv2, rv2⟩ := rr2.get ey
        refine ⟨⟨vs, ws, v, v2, hq, hq2, hv, hv2⟩, fun z H' yl => ?_⟩
        obtain ⟨T, x0, y0, rfl, nT, rfl, f1, f2⟩ := yl
        have e3 : v = x0 := Option.some.inj (hv.symm.trans (f1 vs hq))
        have e4 : v2 = y0 := Option.some.inj (hv2.symm.trans (f2 ws hq2))
        subst e3 e4
        exact new_pair hs nT rv rv2
      · refine ⟨fun _ => ⟨vs, ws, hq, hq2, ?_⟩, fun d e1 => (by cases e1)⟩
        rw [← rr.len, ← rr2.len]
        exact hl
    · simp only [ItD.step, e, e2]
      refine ⟨fun e1 => ?_, fun d e1 => ?_⟩ <;> cases e1
  · simp only [ItD.step, e]
    refine ⟨fun e1 => ?_, fun d e1 => ?_⟩ <;> cases e1
theorem i_zip (hg : Gl X "zip") (hm : X.mg "zip" = none) (ha : PA X [a, b] (TDA X.K F as)) (hs : notStar a = true) (hs2 : notStar b = true) : PI X (.Tuple elts kk tpos) (.Call (.Name "zip" p) [a, b] [] pos) (TI' X.K F .zip as) :=
  (RZ.pi_zipA hg hm ha (star_cons hs _ _) (by rw [star_cons hs2]; rfl)).weak fun σ H R ⟨ι, ρ, st, Q, e, s, q, p⟩ => .go e s q fun vs H1 ι1 ds st1 h1 k1 e1 d1 s1 q1 => by
    obtain ⟨xs, ex, it, ei, q2⟩ := q1
    cases ex
    cases d1 with
    | nil => cases ei
    | cons r t =>
      cases t with
      | nil => cases r <;> cases ei
      | cons r2 t2 =>
        cases t2 with
        | cons r3 t3 => cases r <;> cases r2 <;> cases ei
        | nil =>
          simp only [itOf] at ei
          split at ei
          · rename_i xs ys ex ey
            cases ei
            cases r with
            | @tup a' vs ds g1 g2 =>
              cases ex
              cases r2 with
              | @tup b' ws ds2 g3 g4 =>
                cases ey
                exact ⟨a', b', vs, ws, rfl, .inr ⟨(SqT.of g1), (SqT.of g3), p _ H1 ι1 _ st1 h1 k1 e1 s1 (itr_zipT (SqT.of g1) g2 (SqT.of g3) g4) q2⟩⟩
              | @ktp b' ws ds2 g3 g4 =>
                cases ey
                exact ⟨a', b', vs, ws, rfl, .inr ⟨(SqT.of g1), g3, p _ H1 ι1 _ st1 h1 k1 e1 s1 (itr_zipT (SqT.of g1) g2 g3 g4) q2⟩⟩
              | @ref n a' g => simp only [srcOf] at ey; split at ey <;> cases ey
              | _ => cases ey
            | @ktp a' vs ds g1 g2 =>
              cases ex
              cases r2 with
              | @tup b' ws ds2 g3 g4 =>
                cases ey
                exact ⟨a', b', vs, ws, rfl, .inr ⟨g1, (SqT.of g3), p _ H1 ι1 _ st1 h1 k1 e1 s1 (itr_zipT g1 g2 (SqT.of g3) g4) q2⟩⟩
              | @ktp b' ws ds2 g3 g4 =>
                cases ey
                exact ⟨a', b', vs, ws, rfl, .inr ⟨g1, g3, p _ H1 ι1 _ st1 h1 k1 e1 s1 (itr_zipT g1 g2 g3 g4) q2⟩⟩
              | @ref n a' g => simp only [srcOf] at ey; split at ey <;> cases ey
              | _ => cases ey
            | @ref n a' g => simp only [srcOf] at ex; split at ex <;> cases ex
            | _ => cases ex
          · rename_i n m ex ey
            cases ei
            have src : ∀ {d : D} {v : V} {n : Nat}, DR X.K ι1 H1 d v → srcOf st1 d = some (.live n) → ∃ a, v = .ref a ∧ ι1[n]? = some a ∧ ∃ ws, SqL X.K H1 a ws := fun {d v n} r e => by
              cases r with
              | @ref n' a' g =>
                simp only [srcOf] at e
                split at e
                · rename_i e0
                  cases e
                  obtain ⟨vs, g', _⟩ := s1.at e0 g
                  exact ⟨a', rfl, g, vs, .inl (.inl g')⟩
                · rename_i e0
                  cases e
                  obtain ⟨o, vs, g', _⟩ := s1.at e0 g
                  exact ⟨a', rfl, g, vs, .inl (.inr ⟨o, g'⟩)⟩
                · cases e
              | _ => cases e
            obtain ⟨a', rfl, ga, vs, ha'⟩ := src r ex
            obtain ⟨b', rfl, gb, ws, hb'⟩ := src r2 ey
            exact ⟨a', b', vs, ws, rfl, .inl ⟨ha', hb', p _ H1 ι1 _ st1 h1 k1 e1 s1 (itr_zipL ga gb) q2⟩⟩
          · cases ei
end
end Cb

/-! list(zip(a, b)): the pairs in a new list -/
namespace Cb.ZL
open PySem PySem.Spec PyProof.Rows PySem.Calls PySem.W
section
variable {prog : Program} {w : World} {A : Around} {E : Value → Shared → Prop} {s : Shared} {zz TI TO j1 j2 T0 : Addr} {fp1 fp2 : List Addr} {n1 n2 i : Nat} {P1 P2 : Nat → Value → Prop} {St1 St2 : Nat → Heap → Prop}
theorem held_item {f : Bool} {oT : Obj} {Q : Value → Shared → Prop} (Sp : ZipSep2 zz TI TO j1 j2 fp1 fp2) (D1 : Draws prog w A j1 fp1 n1 P1 St1) (D2 : Draws prog w A j2 fp2 n2 P2 St2)
    (hZ : IsZipHeld s.heap zz TI TO T0 f) (hT0 : s.heap.get? T0 = some oT) (hI : IsTupOf2 s.heap TI (.ref j1) (.ref j2)) (st1 : St1 i s.heap) (st2 : St2 i s.heap) (hlt1 : i < n1) (hlt2 : i < n2)
    (hQ : ∀ x1 x2 h' tk, P1 i x1 → P2 i x2 → IsZipHeld h' zz TI TO T0 true → St1 (i + 1) h' → St2 (i + 1) h' → IsTupOf2 h' s.heap.objs.size x1 x2 → h'.objs.size = s.heap.objs.size + 1 →
      (∀ c o, c ≠ zz → c ≠ j1 → c ≠ j2 → s.heap.get? c = some o → h'.get? c = some o) → Q (.ref s.heap.objs.size) { s with heap := h', toks := tk }) :
    wpAny (model prog w) A (Builtin.«zip.__next__» ⟨[.ref zz], []⟩) (fun fin s' => ∃ v, fin = .done (.ret v) ∧ Q v s') E s := by
  obtain ⟨hp, g, d, tk0, os⟩ := s
  show wpAny _ _ (field (.ref zz) 2 >>= _) _ _ _
  refine wpAny_bind (wpAny_field hZ rfl (x := .bool false) rfl ?_)
  show wpAny _ _ (field (.ref zz) 3 >>= _) _ _ _
  refine wpAny_bind (wpAny_field hZ rfl (x := .ref TI) rfl ?_)
  refine wpAny_bind (wpAny_seqItems hI rfl ?_)
  show wpAny _ _ (Builtin.SmallTypes.ownedTupleIsFree (.ref zz) >>= _) _ _ _
  refine wpAny_bind (wpAny_tupleHeld_zip hZ hT0 fun g0 hZ0 hs0 => ?_)
  replace hs0 : Heap.SameBut zz hp g0 := hs0
  simp only [Bool.false_eq_true, if_false]
  refine wpAny_bind ?_
  rw [← Array.forIn_toList]
  simp only [List.forIn_cons, List.forIn_nil]
  refine wpAny_bind (wpAny_bind (wpAny_holding ?_))
  show wpAny _ _ (Builtin.SmallTypes.nextOf (.ref j1) >>= _) _ _ ⟨g0, g, d, tk0, os⟩
  refine wpAny_bind (D1.item i _ _ _ hlt1 (D1.over st1 hs0 Sp.zf1) fun x1 p1 tk1 hx1 sn1 hp1 => wpAny_pure ?_)
  replace hp1 : Heap.SameBut j1 g0 p1 := hp1
  refine wpAny_pure ?_
  refine wpAny_bind (wpAny_bind (wpAny_holding ?_))
  show wpAny _ _ (Builtin.SmallTypes.nextOf (.ref j2) >>= _) _ _ ⟨p1, g, d, tk1, os⟩
  refine wpAny_bind (D2.item i _ _ _ hlt2 (D2.over (D2.over st2 hs0 Sp.zf2) hp1 Sp.sep1_2) fun x2 p2 tk2 hx2 sn2 hp2 => wpAny_pure ?_)
  replace hp2 : Heap.SameBut j2 p1 p2 := hp2
  refine wpAny_pure (wpAny_pure ?_)
  show wpAny _ _ (newTuple [x1, x2] >>= _) _ _ ⟨p2, g, d, tk2, os⟩
  refine wpAny_bind (wpAny_newTuple ?_)
  have hsz : p2.objs.size = hp.objs.size := by rw [hp2.1, hp1.1, hs0.1]
  have hZ2 : IsZipHeld p2 zz TI TO T0 true := hp2.extBut _ _ Sp.zi2 (hp1.extBut _ _ Sp.zi1 hZ0)
  have hk : ∀ c o, c ≠ zz → c ≠ j1 → c ≠ j2 → hp.get? c = some o → p2.get? c = some o := fun c o c1 c2 c3 e => hp2.extBut _ _ c3 (hp1.extBut _ _ c2 (hs0.extBut _ _ c1 e))
  have sj1 : St1 (i + 1) p2 := D1.over sn1 hp2 Sp.sep2_1
  refine wpAny_pure ⟨_, rfl, ?_⟩
  show Q (.ref p2.objs.size) _
  have hpr : IsTupOf2 (p2.push { cls := .type "tuple", data := .seq #[x1, x2] }) p2.objs.size x1 x2 := Heap.get?_push_size _ rfl
  have hz4 : (p2.push { cls := .type "tuple", data := .seq #[x1, x2] }).objs.size = p2.objs.size + 1 := Heap.size_push ..
  rw [hsz] at hpr hz4 ⊢
  exact hQ x1 x2 _ tk2 hx1 hx2 (Heap.get?_push_of_some _ hZ2) (D1.frame _ _ _ sj1 fun b hb o e => Heap.get?_push_of_some _ e) (D2.frame _ _ _ sn2 fun b hb o e => Heap.get?_push_of_some _ e) hpr hz4 fun c o c1 c2 c3 e => Heap.get?_push_of_some _ (hk c o c1 c2 c3 e)
theorem held_end {f : Bool} {oT : Obj} {Q : Fin → Shared → Prop} (Sp : ZipSep2 zz TI TO j1 j2 fp1 fp2) (D1 : Draws prog w A j1 fp1 n1 P1 St1) (D2 : Draws prog w A j2 fp2 n2 P2 St2)
    (hZ : IsZipHeld s.heap zz TI TO T0 f) (hT0 : s.heap.get? T0 = some oT) (hI : IsTupOf2 s.heap TI (.ref j1) (.ref j2)) (st1 : St1 i s.heap) (st2 : St2 i s.heap) (hle1 : i ≤ n1) (hle2 : i ≤ n2) (hend : i = n1 ∨ i = n2)
    (hE : ∀ h' tk e, (∀ c o, c ≠ zz → c ≠ j1 → c ≠ j2 → s.heap.get? c = some o → h'.get? c = some o) → (∃ o, h'.get? e = some o ∧ o.cls = .type "StopIteration") → E (.ref e) { s with heap := h', toks := tk }) :
    wpAny (model prog w) A (Builtin.«zip.__next__» ⟨[.ref zz], []⟩) Q E s := by
  obtain ⟨hp, g, d, tk0, os⟩ := s
  show wpAny _ _ (field (.ref zz) 2 >>= _) _ _ _
  refine wpAny_bind (wpAny_field hZ rfl (x := .bool false) rfl ?_)
  show wpAny _ _ (field (.ref zz) 3 >>= _) _ _ _
  refine wpAny_bind (wpAny_field hZ rfl (x := .ref TI) rfl ?_)
  refine wpAny_bind (wpAny_seqItems hI rfl ?_)
  show wpAny _ _ (Builtin.SmallTypes.ownedTupleIsFree (.ref zz) >>= _) _ _ _
  refine wpAny_bind (wpAny_tupleHeld_zip hZ hT0 fun g0 hZ0 hs0 => ?_)
  replace hs0 : Heap.SameBut zz hp g0 := hs0
  simp only [Bool.false_eq_true, if_false]
  refine wpAny_bind ?_
  rw [← Array.forIn_toList]
  simp only [List.forIn_cons, List.forIn_nil]
  refine wpAny_bind (wpAny_bind (wpAny_holding ?_))
  show wpAny _ _ (Builtin.SmallTypes.nextOf (.ref j1) >>= _) _ _ ⟨g0, g, d, tk0, os⟩
  by_cases hlt1 : i < n1
  · refine wpAny_bind (D1.item i _ _ _ hlt1 (D1.over st1 hs0 Sp.zf1) fun x1 p1 tk1 hx1 sn1 hp1 => wpAny_pure ?_)
    replace hp1 : Heap.SameBut j1 g0 p1 := hp1
    have hi2 : i = n2 := by omega
    refine wpAny_pure ?_
    refine wpAny_bind (wpAny_bind (wpAny_holding ?_))
    show wpAny _ _ (Builtin.SmallTypes.nextOf (.ref j2) >>= _) _ _ ⟨p1, g, d, tk1, os⟩
    refine wpAny_bind (D2.done ⟨p1, g, d, tk1, os⟩ _ _ (by rw [← hi2]; exact D2.over (D2.over st2 hs0 Sp.zf2) hp1 Sp.sep1_2) fun q e hq he => ?_)
    replace hq : Heap.ExtBut j2 p1 q := hq
    exact hE q tk1 e (fun c o c1 c2 c3 x => hq _ _ c3 (hp1.extBut _ _ c2 (hs0.extBut _ _ c1 x))) he
  · have hi1 : i = n1 := by omega
    refine wpAny_bind (D1.done ⟨g0, g, d, tk0, os⟩ _ _ (by rw [← hi1]; exact D1.over st1 hs0 Sp.zf1) fun q e hq he => ?_)
    replace hq : Heap.ExtBut j1 g0 q := hq
    exact hE q tk0 e (fun c o c1 c2 _ x => hq _ _ c2 (hs0.extBut _ _ c1 x)) he
theorem held_next {f : Bool} {oT : Obj} {Q : Option Value → Shared → Prop} (Sp : ZipSep2 zz TI TO j1 j2 fp1 fp2) (D1 : Draws prog w A.in1 j1 fp1 n1 P1 St1) (D2 : Draws prog w A.in1 j2 fp2 n2 P2 St2)
    (hZ : IsZipHeld s.heap zz TI TO T0 f) (hT0 : s.heap.get? T0 = some oT) (hI : IsTupOf2 s.heap TI (.ref j1) (.ref j2)) (st1 : St1 i s.heap) (st2 : St2 i s.heap) (hlt1 : i < n1) (hlt2 : i < n2)
    (hQ : ∀ x1 x2 h' tk, P1 i x1 → P2 i x2 → IsZipHeld h' zz TI TO T0 true → St1 (i + 1) h' → St2 (i + 1) h' → IsTupOf2 h' s.heap.objs.size x1 x2 → h'.objs.size = s.heap.objs.size + 1 →
      (∀ c o, c ≠ zz → c ≠ j1 → c ≠ j2 → s.heap.get? c = some o → h'.get? c = some o) → Q (some (.ref s.heap.objs.size)) { s with heap := h', toks := tk }) :
    wpAny (model prog w) A (pyNext (.ref zz)) Q E s := by
  have hTy : s.TypeIs (.ref zz) "zip" := ⟨_, hZ, rfl⟩
  unfold pyNext
  exact wpAny_bind (wpAny_attempt (wpAny_callSpecial?_slot (name := Str.ofString "__next__") hTy F.slot_zip_next
    (wpAny_call_entry F.slot_zip_next hTy F.entry_zip_next
      (held_item Sp D1 D2 hZ hT0 hI st1 st2 hlt1 hlt2 fun x1 x2 h' tk a1 a2 a3 a4 a5 a6 a7 a8 => wpAny_pure (hQ x1 x2 h' tk a1 a2 a3 a4 a5 a6 a7 a8)) (F.args_zip_next_1 _))))
theorem held_stop {f : Bool} {oT : Obj} {Q : Option Value → Shared → Prop} (Sp : ZipSep2 zz TI TO j1 j2 fp1 fp2) (D1 : Draws prog w A.in1 j1 fp1 n1 P1 St1) (D2 : Draws prog w A.in1 j2 fp2 n2 P2 St2)
    (hZ : IsZipHeld s.heap zz TI TO T0 f) (hT0 : s.heap.get? T0 = some oT) (hI : IsTupOf2 s.heap TI (.ref j1) (.ref j2)) (st1 : St1 i s.heap) (st2 : St2 i s.heap) (hle1 : i ≤ n1) (hle2 : i ≤ n2) (hend : i = n1 ∨ i = n2)
    (hQ : ∀ h' tk, (∀ c o, c ≠ zz → c ≠ j1 → c ≠ j2 → s.heap.get? c = some o → h'.get? c = some o) → Q none { s with heap := h', toks := tk }) : wpAny (model prog w) A (pyNext (.ref zz)) Q E s := by
  have hTy : s.TypeIs (.ref zz) "zip" := ⟨_, hZ, rfl⟩
  unfold pyNext
  refine wpAny_bind (wpAny_attempt (wpAny_callSpecial?_slot (name := Str.ofString "__next__") hTy F.slot_zip_next
    (wpAny_call_entry F.slot_zip_next hTy F.entry_zip_next (held_end Sp D1 D2 hZ hT0 hI st1 st2 hle1 hle2 hend fun h' tk e hk he => ?_) (F.args_zip_next_1 _))))
  obtain ⟨o, ho, hc⟩ := he
  refine wpAny_bind (wpAny_isInstance (T := "StopIteration") (b := true) ⟨o, ho, hc⟩ isSubtype_stop ?_)
  exact wpAny_pure (hQ _ _ hk)
/-- the pairs so far, at their places -/
structure Prs (P1 P2 : Nat → Value → Prop) (lo : Addr) (h : Heap) (as : List Addr) : Prop where
  rise : as.Pairwise (· < ·)
  above : ∀ a ∈ as, lo < a
  pairs : ∀ j b, as[j]? = some b → ∃ x1 x2, P1 j x1 ∧ P2 j x2 ∧ IsTupOf2 h b x1 x2
theorem Prs.there {lo : Addr} {h : Heap} {as : List Addr} (g : Prs P1 P2 lo h as) {a : Addr} (ha : a ∈ as) : a < h.objs.size := by
  obtain ⟨j, hj⟩ := List.getElem?_of_mem ha
  obtain ⟨_, _, _, _, e⟩ := g.pairs j a hj
  exact Heap.lt_size e
/-- the zip behind i turns -/
def Zst (zz TI TO j1 j2 S0 : Addr) (St1 St2 : Nat → Heap → Prop) (i : Nat) (h : Heap) : Prop :=
  IsTupOf2 h TI (.ref j1) (.ref j2) ∧ St1 i h ∧ St2 i h ∧ ((i = 0 ∧ IsZip h zz TI TO .none ∧ IsTupOf2 h TO .none .none) ∨ ∃ T0 f oT, S0 < T0 ∧ IsZipHeld h zz TI TO T0 f ∧ h.get? T0 = some oT)
structure Lay (zz TI TO j1 j2 S0 : Addr) : Prop where
  z : zz < S0
  TI : TI < S0
  TO : TO < S0
  j1 : j1 < S0
  j2 : j2 < S0
theorem zst_item {S0 : Addr} {Q : Option Value → Shared → Prop} (Sp : ZipSep2 zz TI TO j1 j2 fp1 fp2) (L : Lay zz TI TO j1 j2 S0) (D1 : Draws prog w A.in1 j1 fp1 n1 P1 St1) (D2 : Draws prog w A.in1 j2 fp2 n2 P2 St2) (hst : Zst zz TI TO j1 j2 S0 St1 St2 i s.heap) (hS : S0 < s.heap.objs.size) (hlt1 : i < n1) (hlt2 : i < n2)
    (hQ : ∀ x1 x2 h' tk, P1 i x1 → P2 i x2 → Zst zz TI TO j1 j2 S0 St1 St2 (i + 1) h' → IsTupOf2 h' s.heap.objs.size x1 x2 → h'.objs.size = s.heap.objs.size + 1 →
      (∀ c o, c ≠ zz → c ≠ TO → c ≠ j1 → c ≠ j2 → s.heap.get? c = some o → h'.get? c = some o) → Q (some (.ref s.heap.objs.size)) { s with heap := h', toks := tk }) :
    wpAny (model prog w) A (pyNext (.ref zz)) Q E s := by
  obtain ⟨hI, st1, st2, ⟨rfl, hZ, hO⟩ | ⟨T0, f, oT, hT, hZ, hT0⟩⟩ := hst
  · refine wpAny_pyNext_zipD2_item Sp D1 D2 hZ hI hO st1 st2 hlt1 hlt2 fun x1 x2 h' tk y1 y2 b1 b2 d1 d2 b5 b6 hk => ?_
    exact hQ x1 x2 h' tk y1 y2 ⟨hk _ _ Sp.TIz Sp.TITO Sp.TIi1 Sp.TIi2 hI, d1, d2, .inr ⟨_, false, _, hS, b1, b5⟩⟩ b5 b6 hk
  · refine held_next Sp D1 D2 hZ hT0 hI st1 st2 hlt1 hlt2 fun x1 x2 h' tk y1 y2 b1 d1 d2 b5 b6 hk => ?_
    exact hQ x1 x2 h' tk y1 y2 ⟨hk _ _ Sp.TIz Sp.TIi1 Sp.TIi2 hI, d1, d2, .inr ⟨T0, true, oT, hT, b1, hk _ _ (Nat.ne_of_gt (Nat.lt_trans L.z hT)) (Nat.ne_of_gt (Nat.lt_trans L.j1 hT)) (Nat.ne_of_gt (Nat.lt_trans L.j2 hT)) hT0⟩⟩ b5 b6 fun c o c1 _ c2 c3 e => hk c o c1 c2 c3 e
theorem zst_stop {S0 : Addr} {Q : Option Value → Shared → Prop} (Sp : ZipSep2 zz TI TO j1 j2 fp1 fp2) (D1 : Draws prog w A.in1 j1 fp1 n1 P1 St1) (D2 : Draws prog w A.in1 j2 fp2 n2 P2 St2) (hst : Zst zz TI TO j1 j2 S0 St1 St2 i s.heap) (hle1 : i ≤ n1) (hle2 : i ≤ n2) (hend : i = n1 ∨ i = n2)
    (hQ : ∀ h' tk, (∀ c o, c ≠ zz → c ≠ TO → c ≠ j1 → c ≠ j2 → s.heap.get? c = some o → h'.get? c = some o) → Q none { s with heap := h', toks := tk }) : wpAny (model prog w) A (pyNext (.ref zz)) Q E s := by
  obtain ⟨hI, st1, st2, ⟨rfl, hZ, hO⟩ | ⟨T0, f, oT, hT, hZ, hT0⟩⟩ := hst
  · exact wpAny_pyNext_zipD2_end Sp D1 D2 hZ hI hO st1 st2 hle1 hle2 hend hQ
  · exact held_stop Sp D1 D2 hZ hT0 hI st1 st2 hle1 hle2 hend fun h' tk hk => hQ h' tk fun c o c1 _ c2 c3 e => hk c o c1 c2 c3 e
theorem Zst.keep {S0 : Addr} (D1 : Draws prog w A j1 fp1 n1 P1 St1) (D2 : Draws prog w A j2 fp2 n2 P2 St2) (L : Lay zz TI TO j1 j2 S0) {h h' : Heap} (hst : Zst zz TI TO j1 j2 S0 St1 St2 i h) (f1 : S0 ∉ fp1) (f2 : S0 ∉ fp2) (hk : ∀ b o, b ≠ S0 → h.get? b = some o → h'.get? b = some o) : Zst zz TI TO j1 j2 S0 St1 St2 i h' := by
  obtain ⟨hI, st1, st2, hz⟩ := hst
  refine ⟨hk _ _ (Nat.ne_of_lt L.TI) hI, D1.frame _ _ _ st1 fun b hb o e => hk b o (fun q => f1 (q ▸ hb)) e, D2.frame _ _ _ st2 fun b hb o e => hk b o (fun q => f2 (q ▸ hb)) e, ?_⟩
  rcases hz with ⟨e, hZ, hO⟩ | ⟨T0, f, oT, hT, hZ, hT0⟩
  · exact .inl ⟨e, hk _ _ (Nat.ne_of_lt L.z) hZ, hk _ _ (Nat.ne_of_lt L.TO) hO⟩
  · exact .inr ⟨T0, f, oT, hT, hk _ _ (Nat.ne_of_lt L.z) hZ, hk _ _ (Nat.ne_of_gt hT) hT0⟩
theorem loop {R : Result → Shared → Prop} {S0 : Addr} {base : Heap} (Sp : ZipSep2 zz TI TO j1 j2 fp1 fp2) (L : Lay zz TI TO j1 j2 S0) (f1 : S0 ∉ fp1) (f2 : S0 ∉ fp2) (D1 : Draws prog w A.in1.in1 j1 fp1 n1 P1 St1) (D2 : Draws prog w A.in1.in1 j2 fp2 n2 P2 St2) (hn : min n1 n2 ≤ sizeLine) (res : Value)
    (bz : ∀ b o, base.get? b = some o → b ≠ zz ∧ b ≠ TO ∧ b ≠ j1 ∧ b ≠ j2 ∧ b ≠ S0)
    (hR : ∀ h' tk acc c as, (∀ b o, base.get? b = some o → h'.get? b = some o) → h'.get? S0 = some { cls := .type "list", dict := none, data := .seq acc c, slots := #[] } → as.length = min n1 n2 → Prs P1 P2 S0 h' as → acc.toList = as.map Value.ref → R (.ok (.ret res)) { s with heap := h', toks := tk }) :
    ∀ (k i : Nat) (h : Heap) (tk c : Nat) (acc : Array Value) (as : List Addr), min n1 n2 - i = k → i ≤ min n1 n2 → Zst zz TI TO j1 j2 S0 St1 St2 i h → (∀ b o, base.get? b = some o → h.get? b = some o) →
      h.get? S0 = some { cls := .type "list", dict := none, data := .seq acc c, slots := #[] } → acc.toList = as.map Value.ref → as.length = i → Prs P1 P2 S0 h as →
      codeAny (model prog w) A (.builtin "list.extend.loop" ⟨[.ref S0, .ref zz, res], []⟩) R { s with heap := h, toks := tk } := by
  have up4 : ∀ b, S0 ≤ b → b ≠ zz ∧ b ≠ TO ∧ b ≠ j1 ∧ b ≠ j2 := fun b hb => ⟨Nat.ne_of_gt (Nat.lt_of_lt_of_le L.z hb), Nat.ne_of_gt (Nat.lt_of_lt_of_le L.TO hb), Nat.ne_of_gt (Nat.lt_of_lt_of_le L.j1 hb), Nat.ne_of_gt (Nat.lt_of_lt_of_le L.j2 hb)⟩
  obtain ⟨s1, s2, s3, s4⟩ := up4 S0 (Nat.le_refl _)
  intro k
  induction k with
  | zero =>
    intro i h tk c acc as hk hi hst hkeep hS hacc hal hG
    refine codeAny_builtin PySem.F.entry_extend_loop ?_
    rw [Around.under_plainId PySem.F.plain_extend_loop _]
    show wpAny _ A.in1 (pyNext (.ref zz) >>= _) _ _ _
    refine wpAny_bind (zst_stop (s := { s with heap := h, toks := tk }) (S0 := S0) Sp D1 D2 hst (by omega) (by omega) (by omega) fun h' tk' hkp => ?_)
    refine wpAny_pure (hR h' tk' acc c as (fun b o e => ?_) (hkp _ _ s1 s2 s3 s4 hS) (by omega) ⟨hG.rise, hG.above, fun j b hj => ?_⟩ hacc)
    · obtain ⟨b1, b2, b3, b4, _⟩ := bz b o e
      exact hkp b o b1 b2 b3 b4 (hkeep b o e)
    · obtain ⟨x1, x2, e1, e2, e3⟩ := hG.pairs j b hj
      obtain ⟨b1, b2, b3, b4⟩ := up4 b (Nat.le_of_lt (hG.above b (List.mem_of_getElem? hj)))
      exact ⟨x1, x2, e1, e2, hkp b _ b1 b2 b3 b4 e3⟩
  | succ k ih =>
    intro i h tk c acc as hk hi hst hkeep hS hacc hal hG
    have hsz : acc.size = i := by rw [← Array.length_toList, hacc, List.length_map, hal]
    have hSl : S0 < h.objs.size := Heap.lt_size hS
    refine codeAny_builtin PySem.F.entry_extend_loop ?_
    rw [Around.under_plainId PySem.F.plain_extend_loop _]
    show wpAny _ A.in1 (pyNext (.ref zz) >>= _) _ _ _
    refine wpAny_bind (zst_item (s := { s with heap := h, toks := tk }) (S0 := S0) Sp L D1 D2 hst hSl (by omega) (by omega) fun x1 x2 h' tk' q1 q2 hst' ht hz hkp => ?_)
    dsimp only at ht hz hkp ⊢
    have hS' := hkp S0 _ s1 s2 s3 s4 hS
    have up : ∀ b o, b ≠ S0 → h'.get? b = some o → (h'.update S0 (Obj.mapSeq (·.push (Value.ref h.objs.size)))).get? b = some o := fun b o hb e => (Heap.get?_update_other _ _ (Ne.symm hb)).trans e
    show wpAny _ A.in1 (updateSeq S0 (·.push (Value.ref h.objs.size)) >>= _) _ _ _
    refine wpAny_bind ?_
    refine wpAny_updateSeq hS' rfl (wpAny_pure ⟨plainId_quiet PySem.F.plain_extend_loop _, ih (i + 1) _ tk' _ (acc.push (Value.ref h.objs.size)) (as ++ [h.objs.size]) (by omega) (by omega) (hst'.keep D1 D2 L f1 f2 up)
      (fun b o e => ?_) (Heap.get?_update_self _ hS' rfl) (by rw [Array.toList_push, hacc, List.map_append]; rfl) (by rw [List.length_append, hal]; rfl) ⟨?_, ?_, ?_⟩⟩) (by rw [hsz]; omega) (by show (acc.push (Value.ref h.objs.size)).size ≤ sizeLine + 1; rw [Array.size_push, hsz]; omega)
    · obtain ⟨b1, b2, b3, b4, b5⟩ := bz b o e
      exact up b o b5 (hkp b o b1 b2 b3 b4 (hkeep b o e))
    · refine List.pairwise_append.mpr ⟨hG.rise, List.pairwise_singleton _ _, fun a ha b hb => ?_⟩
      rw [List.mem_singleton.mp hb]
      exact hG.there ha
    · intro a ha
      rcases List.mem_append.mp ha with ha | ha
      · exact hG.above a ha
      · rw [List.mem_singleton.mp ha]; exact hSl
    · intro j b hj
      rcases Nat.lt_trichotomy j as.length with q | q | q
      · rw [List.getElem?_append_left q] at hj
        obtain ⟨y1, y2, e1, e2, e3⟩ := hG.pairs j b hj
        have hb := hG.above b (List.mem_of_getElem? hj)
        obtain ⟨b1, b2, b3, b4⟩ := up4 b (Nat.le_of_lt hb)
        exact ⟨y1, y2, e1, e2, up b _ (Nat.ne_of_gt hb) (hkp b _ b1 b2 b3 b4 e3)⟩
      · subst q
        have hb : h.objs.size = b := by simpa using hj
        subst hb
        rw [hal]
        exact ⟨x1, x2, q1, q2, up _ _ (Nat.ne_of_gt hSl) ht⟩
      · have hnone : (as ++ [h.objs.size])[j]? = none := List.getElem?_eq_none (by rw [List.length_append, List.length_singleton]; omega)
        rw [hnone] at hj
        cases hj
end

theorem zip_nolen : typeLookup (.type "zip") "__len__" = pure none := by rw [typeLookup_type, builtinLookup_eq_fast]; kernel_rfl
theorem zip_nohint : typeLookup (.type "zip") "__length_hint__" = pure none := by rw [typeLookup_type, builtinLookup_eq_fast]; kernel_rfl
/-- what can be zipped: how it begins and how it is drawn from -/
structure SeqOk (h0 : Heap) (v : Value) (items : Array Value) (o : Obj) (Hh : Heap → Prop) (l : Addr) (St : Addr → Nat → Heap → Prop) : Prop where
  b : Begins v o Hh
  h : Hh h0
  lt : l < h0.objs.size
  d : ∀ (prog : Program) (w : World) (A : Around), A.handled = none → ∀ it, l ≠ it → Draws prog w A it [it, l] items.size (fun i v => items[i]? = some v) (St it)
  st : ∀ it h, (∀ b o', h0.get? b = some o' → h.get? b = some o') → h.get? it = some o → St it 0 h
theorem seq_list {h : Heap} {l : Addr} {items : Array Value} (hl : h.IsList l items) : SeqOk h (.ref l) items { cls := .type "list_iterator", data := .fields #[.ref l, .int 0 0] } (fun h => h.IsList l items) l (fun it i h => h.IsListIter it l i ∧ h.IsList l items) where
  b := begins_list l items
  h := hl
  lt := let ⟨_, e, _⟩ := hl; Heap.lt_size e
  d := fun prog w A hh it hne => Draws.list hh it l hne items
  st := fun it h' k e => ⟨⟨_, e, rfl, rfl⟩, hl.at fun o e => k l o e⟩
theorem seq_tuple {h : Heap} {l : Addr} {items : Array Value} (hl : h.IsTuple l items) : SeqOk h (.ref l) items { cls := .type "tuple_iterator", data := .fields #[.ref l, .int 0 0] } (fun h => h.IsTuple l items) l (fun it i h => h.IsTupleIter it l i ∧ h.IsTuple l items) where
  b := begins_tuple l items
  h := hl
  lt := let ⟨_, e, _⟩ := hl; Heap.lt_size e
  d := fun prog w A hh it hne => Draws.tuple hh it l hne items
  st := fun it h' k e => ⟨⟨_, e, rfl, rfl⟩, hl.at fun o e => k l o e⟩
section
variable {prog : Program} {w : World} {A : Around} {E : Value → Shared → Prop} {s : Shared}
abbrev At2 (xs : Array Value) : Nat → Value → Prop := fun i v => xs[i]? = some v
theorem zip_list {v1 v2 : Value} {xs ys : Array Value} {o1 o2 : Obj} {Hh1 Hh2 : Heap → Prop} {l1 l2 : Addr} {St1 St2 : Addr → Nat → Heap → Prop} (hh : A.handled = none) (q1 : SeqOk s.heap v1 xs o1 Hh1 l1 St1) (q2 : SeqOk s.heap v2 ys o2 Hh2 l2 St2) (hn : min xs.size ys.size ≤ sizeLine) {Q : Value → Shared → Prop}
    (hQ : ∀ h' tk acc c as, (∀ b o, s.heap.get? b = some o → h'.get? b = some o) → h'.get? (s.heap.objs.size + 5) = some { cls := .type "list", dict := none, data := .seq acc c, slots := #[] } → as.length = min xs.size ys.size → Prs (At2 xs) (At2 ys) (s.heap.objs.size + 5) h' as → acc.toList = as.map Value.ref → Q (.ref (s.heap.objs.size + 5)) { s with heap := h', toks := tk }) :
    wpAny (model prog w) A (call (.type "zip") [v1, v2]) (fun z s1 => wpAny (model prog w) A (call (.type "list") [z]) Q E s1) E s := by
  refine zip_begins2 q1.b q2.b q1.h q2.h fun h1 gz gI gO g1 g2 gs gk => ?_
  generalize hN : s.heap.objs.size = N at *
  have m1 : l1 < N := by have := q1.lt; rw [hN] at this; exact this
  have m2 : l2 < N := by have := q2.lt; rw [hN] at this; exact this
  have a1 : l1 ≠ N := Nat.ne_of_lt m1
  have a2 : l2 ≠ N + 1 := Nat.ne_of_lt (Nat.lt_succ_of_lt m2)
  have far : ∀ {l : Nat}, l < N → ∀ k, N + k ≠ l := fun h k => Nat.ne_of_gt (Nat.lt_of_lt_of_le h (Nat.le_add_right _ _))
  have nef : ∀ {l j : Nat} (k : Nat), l < N → j ≠ k → N + k ∉ [N + j, l] := fun k h hj hm => by
    rcases List.mem_cons.mp hm with e | hm
    · exact hj (Nat.add_left_cancel e).symm
    · exact far h k (List.mem_singleton.mp hm)
  have Sp : ZipSep2 (N + 4) (N + 2) (N + 3) N (N + 1) [N, l1] [N + 1, l2] := {
    TIz := by simp
    TOz := by simp
    TITO := by simp
    TIi1 := by simp
    mem1 := by simp
    zf1 := nef (j := 0) 4 m1 (by decide)
    Tf1 := nef (j := 0) 3 m1 (by decide)
    TIi2 := by simp
    mem2 := by simp
    zf2 := nef (j := 1) 4 m2 (by decide)
    Tf2 := nef (j := 1) 3 m2 (by decide)
    sep1_2 := nef (j := 1) 0 m2 (by decide)
    sep2_1 := nef (j := 0) 1 m1 (by decide) }
  have L : Lay (N + 4) (N + 2) (N + 3) N (N + 1) (N + 5) := ⟨by simp, by simp, by simp, by simp, by simp⟩
  have f1 : N + 5 ∉ [N, l1] := nef (j := 0) 5 m1 (by decide)
  have f2 : N + 5 ∉ [N + 1, l2] := nef (j := 1) 5 m2 (by decide)
  refine callType_codes (Q₁ := fun obj s₁ => obj = .ref (N + 5) ∧ s₁ = { s with heap := h1.push { cls := .type "list", data := .seq #[] } }) PySem.F.called_list (PySem.F.typeCall_list_1 _) PySem.F.entry_list_init
    (code_list_new _ ⟨by show Value.ref h1.objs.size = _; rw [gs], rfl⟩) fun obj s₁ e₁ => ?_
  obtain ⟨rfl, rfl⟩ := e₁
  have hS : (h1.push { cls := .type "list", data := .seq #[] }).get? (N + 5) = some { cls := .type "list", data := .seq #[] } := by rw [← gs]; exact Heap.get?_push_size _ rfl
  have up : ∀ b o, h1.get? b = some o → (h1.push { cls := .type "list", data := .seq #[] }).get? b = some o := fun b o e => Heap.get?_push_of_some _ e
  generalize h1.push { cls := .type "list", data := .seq #[] } = h2 at hS up ⊢
  refine ⟨⟨_, hS, rfl⟩, PySem.F.args_list_init_2 _ _, ?_⟩
  show wpAny _ _ (do let old ← Builtin.List.listItems (.ref (N + 5)); Builtin.List.listUpdate (.ref (N + 5)) (fun _ => #[]); letGo old.toList.reverse; Builtin.List.listExtendWith (.ref (N + 5)) (.ref (N + 4)) .none) _ _ _
  refine wpAny_bind ?_
  unfold Builtin.List.listItems
  refine wpAny_bind (wpAny_seqItems (s := { s with heap := h2 }) hS rfl (wpAny_pure ?_))
  show wpAny _ _ (updateSeq (N + 5) (fun _ => #[]) >>= fun _ => letGo (#[] : Array Value).toList.reverse >>= fun _ => Builtin.List.listExtendWith (.ref (N + 5)) (.ref (N + 4)) .none) _ _ _
  refine wpAny_bind (wpAny_updateSeq (s := { s with heap := h2 }) hS rfl ?_)
  have hS2 := Heap.get?_update_self (Obj.mapSeq (fun _ => (#[] : Array Value))) hS rfl
  have up2 : ∀ b o, b ≠ N + 5 → h2.get? b = some o → (h2.update (N + 5) (Obj.mapSeq (fun _ => (#[] : Array Value)))).get? b = some o := fun b o hb e => (Heap.get?_update_other _ _ (Ne.symm hb)).trans e
  refine wpAny_bind (wpAny_letGo ?_)
  have upA : ∀ b o, b ≠ N + 5 → h1.get? b = some o → (h2.update (N + 5) (Obj.mapSeq (fun _ => (#[] : Array Value)))).get? b = some o := fun b o hb e => up2 b o hb (up b o e)
  clear up2 up hS
  dsimp only
  generalize h2.update (N + 5) (Obj.mapSeq (fun _ => (#[] : Array Value))) = h3 at hS2 upA ⊢
  have hz3 : IsZip h3 (N + 4) (N + 2) (N + 3) .none := upA _ _ (by simp) gz
  have hTy : ∀ {tk : Nat}, Shared.TypeIs { s with heap := h3, toks := tk } (.ref (N + 4)) "zip" := ⟨_, hz3, rfl⟩
  have fin : ∀ (h4 : Heap) (c4 : Nat), (∀ b o, b ≠ N + 5 → h3.get? b = some o → h4.get? b = some o) → h4.get? (N + 5) = some { cls := .type "list", data := .seq #[] c4 } →
      codeAny (model prog w) A.in1 (.builtin "list.extend.loop" ⟨[.ref (N + 5), .ref (N + 4), .none], []⟩) (wants (fun r s₂ => r = .none ∧ Q (.ref (N + 5)) s₂) E) { s with heap := h4 } := fun h4 c4 k4 hS4 => by
    have k5 : ∀ b o, b ≠ N + 5 → h1.get? b = some o → h4.get? b = some o := fun b o hb e => k4 b o hb (upA b o hb e)
    have old : ∀ b o, s.heap.get? b = some o → b < N := fun b o e => by rw [← hN]; exact Heap.lt_size e
    have k6 : ∀ b o, s.heap.get? b = some o → h4.get? b = some o := fun b o e => k5 b o (Nat.ne_of_lt (Nat.lt_of_lt_of_le (old b o e) (Nat.le_add_right _ _))) (gk b o e)
    have hst : Zst (N + 4) (N + 2) (N + 3) N (N + 1) (N + 5) (St1 N) (St2 (N + 1)) 0 h4 :=
      ⟨k5 _ _ (by simp) gI, q1.st N h4 k6 (k5 _ _ (by simp) g1), q2.st (N + 1) h4 k6 (k5 _ _ (by simp) g2), .inl ⟨rfl, k5 _ _ (by simp) gz, k5 _ _ (by simp) gO⟩⟩
    refine loop (A := A.in1) (s := s) (base := s.heap) Sp L f1 f2 (q1.d prog w A.in1.in1.in1 hh N a1) (q2.d prog w A.in1.in1.in1 hh (N + 1) a2) hn .none (fun b o e => ?_) (fun h' tk acc c as k7 e7 l7 p7 r7 => ⟨rfl, hQ h' tk acc c as k7 e7 l7 p7 r7⟩) _ 0 h4 s.toks c4 #[] [] rfl (Nat.zero_le _) hst k6 hS4 rfl rfl ⟨List.Pairwise.nil, (fun _ ha => nomatch ha), (fun j a hj => by simp at hj)⟩
    have := old b o e
    exact ⟨Nat.ne_of_lt (Nat.lt_of_lt_of_le this (Nat.le_add_right _ _)), Nat.ne_of_lt (Nat.lt_of_lt_of_le this (Nat.le_add_right _ _)), Nat.ne_of_lt this, Nat.ne_of_lt (Nat.lt_succ_of_lt this), Nat.ne_of_lt (Nat.lt_of_lt_of_le this (Nat.le_add_right _ _))⟩
  unfold Builtin.List.listExtendWith
  refine wpAny_bind (wpAny_typeOf (T := "zip") hTy ?_)
  have e1 : Builtin.List.listSameRef (.ref (N + 5)) (.ref (N + 4)) = false := by simp [Builtin.List.listSameRef]
  have e2 : (Value.type "zip" == Value.type "list") = false := by decide
  have e3 : (Value.type "zip" == Value.type "tuple") = false := by decide
  simp only [e1, e2, e3, Bool.or_false, Bool.false_eq_true, if_false]
  refine wpAny_bind (wpAny_pyIter_zip hz3 ?_)
  refine wpAny_bind (wpAny_holding ?_)
  unfold Builtin.List.listLengthHint
  refine wpAny_bind (wpAny_specialOf hTy zip_nolen ?_)
  show wpAny _ _ (specialOf (Value.ref (N + 4)) (Str.ofString "__length_hint__") >>= _) _ _ _
  refine wpAny_bind (wpAny_specialOf hTy zip_nohint ?_)
  refine wpAny_pure ?_
  show wpAny _ _ (rule "list.extend.makes-room" >>= fun _ => Builtin.List.listTouch (.ref (N + 5)) >>= fun _ => again (.builtin "list.extend.loop" ⟨[.ref (N + 5), .ref (N + 4), .none], []⟩)) _ _ _
  refine wpAny_bind (wpAny_rule ?_)
  refine wpAny_bind ?_
  show wpAny _ _ (updateSeq (N + 5) (·.push .none) >>= fun _ => updateSeq (N + 5) (·.pop)) _ _ _
  refine wpAny_bind (wpAny_updateSeq hS2 rfl ?_)
  have hS3 := Heap.get?_update_self (Obj.mapSeq (·.push Value.none)) hS2 rfl
  refine wpAny_updateSeq (hz := by seq_fits) hS3 rfl ?_
  have hS4 := Heap.get?_update_self (Obj.mapSeq (·.pop)) hS3 rfl
  exact wpAny_pure ⟨plainId_quiet PySem.F.plain_extend_loop _, fin _ _ (fun b o hb e => (Heap.get?_update_other _ _ (Ne.symm hb)).trans ((Heap.get?_update_other _ _ (Ne.symm hb)).trans e)) hS4⟩
end
end Cb.ZL

namespace Cb.ZL
open PySem PySem.Spec PyProof.Rows L2
/-- pairs tracked at their places -/
def putP : Hp → List Addr → List (V × V) → Hp
  | H, t :: ts, q :: qs => putP (upd H t (.tup [q.1, q.2])) ts qs
  | H, _, _ => H
theorem putP_off {b : Addr} : ∀ (ts : List Addr) (qs : List (V × V)) (H : Hp), b ∉ ts → putP H ts qs b = H b
  | [], _, _, _ => rfl
  | _ :: _, [], _, _ => rfl
  | t :: ts, q :: qs, H, hb => by
    show putP (upd H t (.tup [q.1, q.2])) ts qs b = H b
    rw [putP_off ts qs _ (fun z => hb (List.mem_cons_of_mem _ z)), upd_ne (fun z => hb (by rw [z]; exact List.mem_cons_self))]
theorem putP_at : ∀ (ts : List Addr) (qs : List (V × V)) (H : Hp) (j : Nat) (t : Addr), ts.length = qs.length → ts.Nodup → ts[j]? = some t → ∃ q, qs[j]? = some q ∧ putP H ts qs t = some (.tup [q.1, q.2])
  | [], _, _, _, _, _, _, h => by simp at h
  | _ :: _, [], _, _, _, h, _, _ => by cases h
  | a :: ts, q :: qs, H, 0, t, hl, hn, e => by
    obtain rfl : a = t := by simpa using e
    refine ⟨q, rfl, ?_⟩
    show putP (upd H a (.tup [q.1, q.2])) ts qs a = _
    rw [putP_off ts qs _ (List.nodup_cons.mp hn).1, upd_same]
  | a :: ts, q :: qs, H, j + 1, t, hl, hn, e => by
    obtain ⟨q', e1, e2⟩ := putP_at ts qs (upd H a (.tup [q.1, q.2])) j t (Nat.succ.inj hl) (List.nodup_cons.mp hn).2 (by simpa using e)
    exact ⟨q', by simpa using e1, e2⟩
theorem refs_vals : ∀ ts : List Addr, Vals (ts.map V.ref) (ts.map Value.ref)
  | [] => .nil
  | _ :: ts => .cons rfl (refs_vals ts)
section
variable {X : Cx} {a b : Expr} {ta : TA} {p p2 pos pos2 : Pos}
theorem pairs_laid {pins : List (Addr × Obj)} {σ : L2.St} {H : Hp} {s : Shared} {h' : Heap} {tk : Nat} {xs ys : List V} {us ws : List Value} {acc : Array Value} {c : Nat} {ts : List Addr} {S0 : Addr} (I : Inv X pins σ H s) (hz : min xs.length ys.length ≤ sizeLine) (r1 : Vals xs us) (r2 : Vals ys ws)
    (hk : ∀ b o, s.heap.get? b = some o → h'.get? b = some o) (hS0 : s.heap.objs.size ≤ S0) (hS : h'.get? S0 = some { cls := .type "list", dict := none, data := .seq acc c, slots := #[] }) (hl : ts.length = min us.length ws.length) (hG : Prs (At2 us.toArray) (At2 ws.toArray) S0 h' ts) (hacc : acc.toList = ts.map Value.ref) :
    ∃ H' : Hp, (∀ b o, H b = some o → H' b = some o) ∧ H S0 = none ∧ (∀ t ∈ ts, H t = none) ∧ S0 ∉ ts ∧ H' S0 = some (.lst (ts.map V.ref)) ∧ (∀ (j : Nat) (t : Addr), ts[j]? = some t → ∃ q, (xs.zip ys)[j]? = some q ∧ H' t = some (.tup [q.1, q.2])) ∧ ts.length = (xs.zip ys).length ∧ ts.Nodup ∧ Inv X pins σ H' { s with heap := h', toks := tk } := by
  have e1 := r1.length
  have e2 := r2.length
  have hlz : ts.length = (xs.zip ys).length := by rw [List.length_zip, hl, e1, e2]
  have hSn : S0 ∉ ts := fun z => Nat.lt_irrefl _ (hG.above _ z)
  have nd : ts.Nodup := List.Pairwise.imp (fun {a b} (h : a < b) => Nat.ne_of_lt h) hG.rise
  have fr : ∀ t ∈ ts, H t = none := fun t ht => I.hok.fresh (Nat.le_trans hS0 (Nat.le_of_lt (hG.above t ht)))
  have frS : H S0 = none := I.hok.fresh hS0
  have atP := fun j t h => putP_at ts (xs.zip ys) (upd H S0 (.lst (ts.map V.ref))) j t hlz nd h
  have off : ∀ b, b ∉ ts → b ≠ S0 → putP (upd H S0 (.lst (ts.map V.ref))) ts (xs.zip ys) b = H b := fun b h1 h2 => by rw [putP_off ts _ _ h1, upd_ne h2]
  have low : ∀ b o, s.heap.get? b = some o → b ∉ ts ∧ b ≠ S0 := fun b o e => by
    have hb : b < S0 := Nat.lt_of_lt_of_le (Heap.lt_size e) hS0
    exact ⟨fun z => Nat.lt_irrefl _ (Nat.lt_trans hb (hG.above b z)), Nat.ne_of_lt hb⟩
  have kp : ∀ b u, H b = some u → (putP (upd H S0 (.lst (ts.map V.ref))) ts (xs.zip ys)) b = some u := fun b u e => by
    rw [off b (fun z => by rw [fr b z] at e; cases e) (fun z => by rw [z, frS] at e; cases e)]
    exact e
  have eS : putP (upd H S0 (.lst (ts.map V.ref))) ts (xs.zip ys) S0 = some (.lst (ts.map V.ref)) := by rw [putP_off ts _ _ hSn, upd_same]
  refine ⟨putP (upd H S0 (.lst (ts.map V.ref))) ts (xs.zip ys), kp, frS, fr, hSn, eS, atP, hlz, nd, ?_⟩
  refine I.call' (ch := []) rfl ⟨fun b o q _ _ _ => hk b o q, fun b o q _ _ _ => ⟨o.slots, hk b o q⟩, fun b o q n _ => ?_, fun b o q _ => ⟨o, hk b o q⟩, fun b xs q => kp b _ q, fun b o u q => kp b _ q, fun b ps q => ⟨#[], by rw [kp b _ q]; simp⟩⟩ (fun b u q => ?_) I.bare fun b z => by simp at z
  · obtain ⟨z1, z2⟩ := low b o q
    rw [off b z1 z2]
    exact n
  · by_cases hb : b ∈ ts
    · obtain ⟨j, ej⟩ := List.getElem?_of_mem hb
      obtain ⟨pr, g1, g2⟩ := atP j b ej
      rw [g2] at q
      cases q
      obtain ⟨x1, x2, f1, f2, f3⟩ := hG.pairs j b ej
      have gz := List.getElem?_zip_eq_some.mp g1
      obtain ⟨v1, k1, k2⟩ := r1.get gz.1
      obtain ⟨v2, k3, k4⟩ := r2.get gz.2
      have q1 : us[j]? = some x1 := by simpa [At2] using f1
      have q2 : ws[j]? = some x2 := by simpa [At2] using f2
      rw [k1] at q1
      cases q1
      rw [k3] at q2
      cases q2
      exact ⟨by show 2 ≤ sizeLine; decide, [_, _], .cons k2 (.cons k4 .nil), ⟨_, f3, rfl, _, rfl⟩⟩
    · by_cases hb2 : b = S0
      · rw [hb2] at q ⊢
        rw [eS] at q
        cases q
        refine ⟨by rw [List.length_map, hlz, List.length_zip]; exact hz, acc.toList, c, by rw [hacc]; exact refs_vals ts, ?_⟩
        rw [Array.toArray_toList]
        exact hS
      · rw [off b hb hb2] at q
        exact (I.hok b u q).stay (fun d v _ y => hk d v y) (fun d y => kp d _ y) fun d xs y => kp d _ y
/-- a list or a tuple -/
def SqA (K : PySem.W.Frag) (H : Hp) (a : Addr) (xs : List V) : Prop := SqL K H a xs ∨ SqT K H a xs
theorem seqA {pins : List (Addr × Obj)} {σ : L2.St} {H : Hp} {s : Shared} {l : Addr} {xs : List V} (I : Inv X pins σ H s) (h : SqA X.K H l xs) : ∃ us o Hh St, Vals xs us ∧ xs.length ≤ sizeLine ∧ SeqOk s.heap (.ref l) us.toArray o Hh l St := by
  rcases h with h | h
  · obtain ⟨its, rv, q, hz⟩ := I.list h
    exact ⟨its, _, _, _, rv, hz, seq_list q.isList⟩
  · obtain ⟨its, rv, q, hz⟩ := I.tuple h
    exact ⟨its, _, _, _, rv, hz, seq_tuple q⟩
def tLZ (K : PySem.W.Frag) (ta : TA) : TE := fun σ H Q => ta σ H fun vs H1 => ∃ l1 l2 xs ys, vs = [.ref l1, .ref l2] ∧ SqA K H1 l1 xs ∧ SqA K H1 l2 ys ∧
  ∀ (H' : Hp) (S0 : Addr) (ts : List Addr), (∀ b o, H1 b = some o → H' b = some o) → H1 S0 = none → (∀ t ∈ ts, H1 t = none) → S0 ∉ ts → H' S0 = some (.lst (ts.map V.ref)) → (∀ (j : Nat) (t : Addr), ts[j]? = some t → ∃ q, (xs.zip ys)[j]? = some q ∧ H' t = some (.tup [q.1, q.2])) → ts.length = (xs.zip ys).length → ts.Nodup → Q (.ref S0) H'
theorem pe_listZip (hc : X.calm = true) (hg : Gl X "list") (hm : X.mg "list" = none) (hg2 : Gl X "zip") (hm2 : X.mg "zip" = none) (ha : PA X [a, b] ta) (hs : starEach [a, b] X.env = (false, eval a X.env) :: starEach [b] X.env) (hpl : (backTo pos2 (starEach [b] X.env)).any (·.1) = false)
    (hs2 : starEach [.Call (.Name "zip" p2) [a, b] [] pos2] X.env = (false, eval (.Call (.Name "zip" p2) [a, b] [] pos2) X.env) :: starEach [] X.env := by rfl) : PE X (.Call (.Name "list" p) [.Call (.Name "zip" p2) [a, b] [] pos2] [] pos) (tLZ X.K ta) := by
  refine ⟨fun pins s σ H Q I hq => ?_⟩
  refine wpAny_Call_Name_kw (ld_blt I hg hm PyProof.Rows.boot_list ?_)
  refine PyProof.Rows.callWith_type1 ?_ hs2 rfl
  rw [hs2]
  show wpAny _ _ (spliced ((false, eval (.Call (.Name "zip" p2) [a, b] [] pos2) X.env) :: backTo pos (starEach [] X.env))) _ _ s
  refine Calls.spliced_cons ?_
  refine Call_ (ld_blt I hg2 hm2 PyProof.Rows.boot_zip (PyProof.Rows.callWith_type1 (thn (ha.run pos2 pins s σ H _ I hq) fun us s1 ⟨vs, H1, I1, r1, q1⟩ => ?_) hs hpl))
  obtain ⟨l1, l2, xs, ys, rfl, h1, h2, q1⟩ := q1
  cases r1 with
  | cons ra rr =>
    cases rr with
    | cons rb rr =>
      cases rr
      cases ra
      cases rb
      obtain ⟨us, o1, Hh1, St1, v1, z1, k1⟩ := seqA I1 h1
      obtain ⟨ws, o2, Hh2, St2, v2, z2, k2⟩ := seqA I1 h2
      have e1 := v1.length
      have e2 := v2.length
      refine wpAny_mono (zip_list (I1.ok.hd hc) k1 k2 (by simp only [List.size_toArray]; omega) fun h' tk acc c ts hk hS hl hG hacc => ?_) (fun z s1 h => Calls.spliced_nil h) (fun _ _ h => h)
      obtain ⟨H', g1, g2, g3, g4, g5, g6, g7, g8, J⟩ := pairs_laid (tk := tk) I1 (by omega) v1 v2 hk (Nat.le_add_right _ _) hS (by simpa using hl) hG hacc
      exact ⟨.ref _, H', J, rfl, q1 H' _ ts g1 g2 g3 g4 g5 g6 g7 g8⟩
end
end Cb.ZL

/-! len(set(t)), t a tuple of ints -/
namespace Cb.LS
open PySem PySem.Spec PyProof.Rows L2
section
variable {X : Cx} {a : Expr} {ta : TA} {p p2 pos pos2 : Pos}
def tLenT (K : PySem.W.Frag) (ta : TA) : TE := fun σ H Q => ta σ H fun vs H1 => ∃ l, ∃ ns : List Int, vs = [.ref l] ∧ SqT K H1 l (ns.map V.int) ∧ ns.length ≤ 1000 ∧ ∀ out : List Int, out.Nodup → (∀ k, k ∈ out ↔ k ∈ ns) → Q (.int out.length) H1
theorem pe_lenSetT (hc : X.calm = true) (hg : Gl X "len") (hm : X.mg "len" = none) (hg2 : Gl X "set") (hm2 : X.mg "set" = none) (ha : PA X [a] ta) (hs : starEach [a] X.env = [(false, eval a X.env)]) : PE X (.Call (.Name "len" p) [.Call (.Name "set" p2) [a] [] pos2] [] pos) (tLenT X.K ta) := by
  refine ⟨fun pins s σ H Q I hq => Call_ (ld_blt I hg hm PySem.boot_len (PyProof.Rows.callWith_builtin1 (PyProof.Rows.args_cons (Call_ (ld_blt I hg2 hm2 PyProof.Rows.boot_set ?_)) rfl) rfl rfl))⟩
  refine PyProof.Rows.callWith_type1 (thn (ha.run pos2 pins s σ H _ I hq) fun us s1 ⟨vs, H1, I1, r1, l, ns, ev, ht, hz, q1⟩ => ?_) hs rfl
  subst ev
  cases r1 with
  | cons ra rr =>
    cases rr
    cases ra
    obtain ⟨its, rv, pt, _⟩ := I1.tuple ht
    refine call_set_tupI (items := its.toArray) ns (I1.ok.hd hc) pt (ints_of_vals rv) (by unfold scanBound; omega) fun h' tk c R1 hcn hk => PyProof.Rows.args_nil ?_
    obtain ⟨ob, es, ep, t, ho, hex, hdt, g, nd, hm3, hb, hf, hn, _, _⟩ := R1
    refine call_len_set (s := { s1 with heap := h', toks := tk }) ho hex hdt hf (by unfold scanBound at hb; omega) ⟨.int es.size, H1, (I1.kept hk).tok _, ⟨_, rfl⟩, ?_⟩
    have hl : (es.toList.map L2.keyOf).length = es.size := by rw [List.length_map, Array.length_toList]
    rw [← hl]
    exact q1 _ nd fun k => by rw [← hm3 k, decide_eq_true_eq]
end
end Cb.LS

namespace Cb
open PySem PySem.Spec PyProof.Rows L2
section
variable {K : PySem.W.Frag} {ι : List Addr} {H : Hp}
theorem drs_of : ∀ {ds : List D} {vs : List V}, ds.length = vs.length → (∀ (j : Nat) (d : D) (v : V), ds[j]? = some d → vs[j]? = some v → DR K ι H d v) → DRs K ι H ds vs
  | [], [], _, _ => .nil
  | [], _ :: _, h, _ => by cases h
  | _ :: _, [], h, _ => by cases h
  | d :: ds, v :: vs, h, g => .cons (g 0 d v rfl rfl) (drs_of (Nat.succ.inj h) fun j d' v' e1 e2 => g (j + 1) d' v' (by simpa using e1) (by simpa using e2))
end
section
variable {X : Cx} {F : Fm} {a b : Expr} {ca : C} {p p2 pos pos2 : Pos} {x : Str}
/-- a new list at S0, and what else is new -/
theorem new_list {K : PySem.W.Frag} {ι : List Addr} {H H' : Hp} {S0 : Addr} {vs : List V} {ds : List D} {st : Store} (s : StR K ι H st) (hk : ∀ b o, H b = some o → H' b = some o) (hS : H S0 = none) (hS' : H' S0 = some (.lst vs)) (r : DRs K (ι ++ [S0]) H' ds vs) :
    Keep ι (ι ++ [S0]) H H' ∧ StR K (ι ++ [S0]) H' (st ++ [.lst ds]) := by
  have kT : KeepT H H' := ⟨fun a xs h => hk a _ h, fun a o u h => hk a _ h⟩
  have hn : S0 ∉ ι := fun hm => by
    obtain ⟨n, hn⟩ := List.getElem?_of_mem hm
    obtain ⟨hlt, _⟩ := List.getElem?_eq_some_iff.mp hn
    obtain ⟨o, eo⟩ := (s.cell n _ S0 (List.getElem?_eq_getElem (by rw [← s.len]; exact hlt)) hn).some
    rw [hS] at eo
    cases eo
  refine ⟨⟨kT.tup, kT.frz, fun a o h _ => hk a o h, fun c hc => ?_⟩, ⟨by rw [List.length_append, List.length_append, s.len]; rfl, ?_, fun n c b ec hb => ?_⟩⟩
  · rcases List.mem_append.mp hc with hc | hc
    · exact .inl hc
    · right
      rw [List.mem_singleton.mp hc]
      exact hS
  · refine List.nodup_append.mpr ⟨s.nd, by simp, fun x hx y hy => ?_⟩
    have : y = S0 := by simpa using hy
    subst this
    intro z
    subst z
    exact hn hx
  · by_cases hlt : n < st.length
    · rw [List.getElem?_append_left hlt] at ec
      rw [List.getElem?_append_left (by rw [s.len]; exact hlt)] at hb
      have hc := s.cell n c b ec hb
      obtain ⟨o, eo⟩ := hc.some
      exact hc.mono (List.prefix_append _ _) kT (by rw [hk b o eo, eo])
    · have hln : n < (st ++ [Cell.lst ds]).length := (List.getElem?_eq_some_iff.mp ec).1
      have e0 : n = st.length := by
        rw [List.length_append] at hln
        simp only [List.length_singleton] at hln
        omega
      subst e0
      rw [List.getElem?_append_right (Nat.le_refl _), Nat.sub_self] at ec
      rw [List.getElem?_append_right (by rw [s.len]; exact Nat.le_refl _), s.len, Nat.sub_self] at hb
      obtain rfl : _ = c := Option.some.inj ec
      obtain rfl : S0 = b := Option.some.inj hb
      exact ⟨vs, hS', r⟩
theorem d_lz (hc : X.calm = true) (hg : Gl X "list") (hm : X.mg "list" = none) (hg2 : Gl X "zip") (hm2 : X.mg "zip" = none) (na : notStar a = true) (nb : notStar b = true) (ha : PA X [a, b] (TDA X.K F ca)) : PE X (.Call (.Name "list" p) [.Call (.Name "zip" p2) [a, b] [] pos2] [] pos) (TD X.K F (.lz ca)) :=
  (ZL.pe_listZip hc hg hm hg2 hm2 ha (star_cons na _ _) (by rw [star_cons nb]; rfl)).weak fun σ H R ⟨ι, ρ, st, Q, e, s, q, pp⟩ => .go e s q fun vs H1 ι1 ds st1 h1 k1 e1 d1 s1 q1 => by
    obtain ⟨da, db, us, ws, ed, ea, eb, q2⟩ := q1
    cases ed
    cases d1 with
    | cons ra rr =>
      cases rr with
      | cons rb rr =>
        cases rr
        obtain ⟨l1, xs, rfl, hx, r1⟩ := seqS_of s1 ra ea
        obtain ⟨l2, ys, rfl, hy, r2⟩ := seqS_of s1 rb eb
        refine ⟨l1, l2, xs, ys, rfl, hx, hy, fun H' S0 ts hk hS hts hSn hS' hP hl hnd => ?_⟩
        have kT : KeepT H1 H' := ⟨fun a xs h => hk a _ h, fun a o u h => hk a _ h⟩
        have n1 := r1.len
        have n2 := r2.len
        have hr : DRs X.K (ι1 ++ [S0]) H' (zipD us ws) (ts.map V.ref) := by
          refine drs_of ?_ fun j d v ej et => ?_
          · unfold zipD
            rw [List.length_map, List.length_map, hl, List.length_zip, List.length_zip, n1, n2]
          · unfold zipD at ej
            rw [List.getElem?_map] at ej et
            obtain ⟨pr, g1, rfl⟩ := Option.map_eq_some_iff.mp ej
            obtain ⟨t, g2, rfl⟩ := Option.map_eq_some_iff.mp et
            obtain ⟨qv, g3, g4⟩ := hP j t g2
            have z1 := List.getElem?_zip_eq_some.mp g1
            have z2 := List.getElem?_zip_eq_some.mp g3
            obtain ⟨v1, y1, y2⟩ := r1.get z1.1
            obtain ⟨v2, y3, y4⟩ := r2.get z1.2
            rw [z2.1] at y1
            cases y1
            rw [z2.2] at y3
            cases y3
            exact .tup g4 (.cons (y2.mono (List.prefix_append _ _) kT) (.cons (y4.mono (List.prefix_append _ _) kT) .nil))
        obtain ⟨kk, ss⟩ := new_list s1 hk hS hS' hr
        exact pp _ H' _ (.ref st1.length) _ (h1.trans (List.prefix_append _ _)) (k1.trans kk) (.last s1) ss q2
theorem d_lns (hc : X.calm = true) (hg : Gl X "len") (hm : X.mg "len" = none) (hg2 : Gl X "set") (hm2 : X.mg "set" = none) (na : notStar a = true) (ha : PA X [a] (TDA X.K F ca)) : PE X (.Call (.Name "len" p) [.Call (.Name "set" p2) [a] [] pos2] [] pos) (TD X.K F (.lns ca)) :=
  (LS.pe_lenSetT hc hg hm hg2 hm2 ha (by rw [star_cons na]; rfl)).weak fun σ H R ⟨ι, ρ, st, Q, e, s, q, pp⟩ => .go e s q fun vs H1 ι1 ds st1 h1 k1 e1 d1 s1 q1 => by
    obtain ⟨xs, ns, ed, en, hl, q2⟩ := q1
    cases ed
    cases d1 with
    | cons ra rr =>
      cases rr
      cases ra with
      | tup hT r =>
        rw [ints_rel r en] at hT
        exact ⟨_, ns, rfl, SqT.of hT, hl, fun out h3 h4 => (pp.shift h1 k1).fin (.int _) s1 (q2 out h3 h4)⟩
theorem d_cmb (hm : X.mg x = some (.builtin "math.comb")) (hg : Gl X x) (na : notStar a = true) (nb : notStar b = true) (hd : (x == ("__debug__" : Str)) = false) (ha : PA X [a, b] (TDA X.K F ca)) : PE X (.Call (.Name x p) [a, b] [] pos) (TD X.K F (.cmb ca)) :=
  (pe_callBfun RT.cr_comb hg hm ha hd (star_cons na _ _) (by rw [star_cons nb]; rfl)).weak fun σ H R ⟨ι, ρ, st, Q, e, s, q, pp⟩ => .go e s q fun vs H1 ι1 ds st1 h1 k1 e1 d1 s1 q1 => by
    obtain ⟨i, j, ed, h0, h2, h3, q2⟩ := q1
    cases ed
    cases d1 with
    | cons ra rr =>
      cases rr with
      | cons rb rr =>
        cases rr
        cases ra
        cases rb
        exact ⟨i, j, rfl, h0, h2, h3, (pp.shift h1 k1).fin (.int _) s1 q2⟩
/-- {} -/
theorem d_dnew : PE X (.Dict [] [] pos) (TD X.K F .dnw) := by
  refine ⟨fun pins s σ H R I ⟨ι, ρ, st, Q, e, hs, q, pp⟩ => ?_⟩
  rcases q with q | q
  · refine pe_dnewK.run pins s σ H R I fun a ha => ?_
    exact pp _ _ (ι ++ [a]) (.ref st.length) _ (List.prefix_append _ _) (.newC ha) (.last hs) (hs.newCell ha (show CellR X.K (ι ++ [a]) (upd H a (.dK [])) a (.dct []) from ⟨[], upd_same, .nil⟩)) q
  · refine pe_dnewT.run pins s σ H R I fun a ha => ?_
    exact pp _ _ (ι ++ [a]) (.ref st.length) _ (List.prefix_append _ _) (.newC ha) (.last hs) (hs.newCell ha (show CellR X.K (ι ++ [a]) (upd H a (.dT [])) a (.dtt []) from ⟨[], upd_same, .nil⟩)) q
theorem isD_of {K : PySem.W.Frag} {ι : List Addr} {H : Hp} {st : Store} (hs : StR K ι H st) {d : D} {v : V} (r : DR K ι H d v) (h : IsDt st d) : ∃ a, v = .ref a ∧ IsD H a := by
  obtain ⟨n, rfl, h⟩ := h
  rcases h with ⟨kvs, e⟩ | ⟨kvs, e⟩
  · obtain ⟨a, vs, rfl, g, _⟩ := dget_of hs r e
    exact ⟨a, rfl, .inl ⟨vs, .inl g⟩⟩
  · obtain ⟨a, vs, rfl, g, _⟩ := dgetT_of hs r e
    exact ⟨a, rfl, .inr ⟨vs, .inl g⟩⟩
theorem dgetS_of {K : PySem.W.Frag} {ι : List Addr} {H : Hp} {st : Store} (hs : StR K ι H st) {x y z : D} {a : Addr} {u w : V} (rx : DR K ι H x (.ref a)) (ry : DR K ι H y u) (rz : DR K ι H z w) {Q : K1} (h : dgetS x y z st Q) : ∃ o d, DGet H a u o ∧ DR K ι H d (o.getD w) ∧ Q d st := by
  obtain ⟨n, rfl, h⟩ := h
  rcases h with ⟨kvs, k, e, ek, q⟩ | ⟨kvs, k, e, ek, q⟩
  · obtain ⟨a', vs, e1, g, r⟩ := dget_of hs rx e
    cases e1
    obtain rfl := keyOf_rel ry ek
    refine ⟨_, _, DGet.k g, ?_, q⟩
    cases e2 : getK kvs k with
    | none =>
      have := getK_isSome (k := k) r
      rw [e2] at this
      cases e3 : valV vs k with
      | none => exact rz
      | some v => rw [e3] at this; cases this
    | some d =>
      obtain ⟨v, e3, r3⟩ := getK_some r e2
      rw [e3]
      exact r3
  · obtain ⟨a', vs, e1, g, r⟩ := dgetT_of hs rx e
    cases e1
    obtain ⟨b, rfl, gb⟩ := keyT_rel ry ek
    refine ⟨_, _, DGet.t g gb, ?_, q⟩
    cases e2 : getK kvs k with
    | none =>
      have := getK_isSome (k := k) r
      rw [e2] at this
      cases e3 : valV vs k with
      | none => exact rz
      | some v => rw [e3] at this; cases this
    | some d =>
      obtain ⟨v, e3, r3⟩ := getK_some r e2
      rw [e3]
      exact r3
theorem d_dget {o e f : Expr} {co ce cf : C} {apos cpos : Pos} (hu : X.A.units + 1 < cLine) (ho : PE X o (TD X.K F co)) (he : PE X e (TD X.K F ce)) (hf : PE X f (TD X.K F cf)) (hb : plainBase o = true) (hl : (apos.endLine == cpos.line) = true) (ne : notStar e = true) (nf : notStar f = true) : PE X (.Call (.Attribute o "get" apos) [e, f] [] cpos) (TD X.K F (.dget co ce cf)) := by
  have hst : ([e, f] : List Expr).all notStar = true := by simp [ne, nf]
  have m : M2 X o "get" apos e f cpos := ⟨base_ok hb _ _ _, by rw [star_few cpos X.env [e, f] hst]; rfl, hl, by rw [star_cons ne, star_cons nf]; rfl⟩
  exact (pe_dget2 hu ho he hf m).weak fun σ H R ⟨ι, ρ, st, Q, ee, s, q, pp⟩ => .go ee s q fun x H1 ι1 d1 st1 h1 k1 e1 r1 s1 q1 => by
    obtain ⟨i1, q2⟩ := q1
    obtain ⟨a, rfl, ia⟩ := isD_of s1 r1 i1
    refine ⟨a, rfl, ia, .go e1 s1 q2 fun y H2 ι2 d2 st2 h2 k2 e2 r2 s2 q3 => .go e2 s2 q3 fun z H3 ι3 d3 st3 h3 k3 e3 r3 s3 q4 => ?_⟩
    obtain ⟨ov, d, g, rd, q5⟩ := dgetS_of s3 (r1.mono (h2.trans h3) (k2.trans k3).t) (r2.mono h3 k3.t) r3 q4
    exact ⟨ov, g, pp _ H3 ι3 d st3 ((h1.trans h2).trans h3) ((k1.trans k2).trans k3) rd s3 q5⟩
end
end Cb

namespace Cb
open PySem PySem.Spec PyProof.Rows L2
/-! ## dicts walked: locked meanwhile -/
structure KeepQ (K : PySem.W.Frag) (H H' : Hp) : Prop where
  tup : ∀ a xs, H a = some (.tup xs) → H' a = some (.tup xs)
  seq : ∀ a xs, SqT K H a xs → SqT K H' a xs
section
variable {K : PySem.W.Frag} {ι ι' : List Addr} {H H' : Hp}
mutual
theorem DR.monoQ (k : KeepQ K H H') : ∀ {d : D} {v : V}, DR K ι H d v → DR K ι H' d v
  | _, _, .non => .non
  | _, _, .bl b => .bl b
  | _, _, .int i => .int i
  | _, _, .str s => .str s
  | _, _, .tup h1 h2 => .tup (k.tup _ _ h1) (DRs.monoQ k h2)
  | _, _, .ktp h1 h2 => .ktp (k.seq _ _ h1) (DRs.monoQ k h2)
  | _, _, .ref h => .ref h
theorem DRs.monoQ (k : KeepQ K H H') : ∀ {d : List D} {v : List V}, DRs K ι H d v → DRs K ι H' d v
  | _, _, .nil => .nil
  | _, _, .cons h1 h2 => .cons (DR.monoQ k h1) (DRs.monoQ k h2)
end
theorem DKs.monoQ {κ : Type} (k : KeepQ K H H') : ∀ {d : List (κ × D)} {v : List (κ × V)}, DKs K ι H d v → DKs K ι H' d v
  | _, _, .nil => .nil
  | _, _, .cons h1 h2 => .cons (DR.monoQ k h1) (DKs.monoQ k h2)
theorem DFs.monoQ (k : KeepQ K H H') : ∀ {d : List (Str × D)} {v : List (Str × V)}, DFs K ι H d v → DFs K ι H' d v
  | _, _, .nil => .nil
  | _, _, .cons h1 h2 => .cons (DR.monoQ k h1) (DFs.monoQ k h2)
theorem CellR.monoQ {a : Addr} (k : KeepQ K H H') (e : H' a = H a) : ∀ {c : Cell}, CellR K ι H a c → CellR K ι H' a c
  | .lst ds, ⟨vs, h1, h2⟩ => ⟨vs, by rw [e]; exact h1, h2.monoQ k⟩
  | .frz ds, ⟨o, vs, h1, h2⟩ => ⟨o, vs, by rw [e]; exact h1, h2.monoQ k⟩
  | .dct ds, ⟨vs, h1, h2⟩ => ⟨vs, by rw [e]; exact h1, h2.monoQ k⟩
  | .dtt ds, ⟨vs, h1, h2⟩ => ⟨vs, by rw [e]; exact h1, h2.monoQ k⟩
  | .ins c fs, ⟨C, dx, vs, h0, h1, h2, h3⟩ => ⟨C, dx, vs, h0, by rw [e]; exact h1, h2.monoQ k, h3⟩
  | .lkd ds, ⟨o, vs, h1, h2⟩ => ⟨o, vs, by rw [e]; exact h1, h2.monoQ k⟩
  | .lkt ds, ⟨o, vs, h1, h2⟩ => ⟨o, vs, by rw [e]; exact h1, h2.monoQ k⟩
theorem EnvR.monoQ {σ : L2.St} {ρ : Env1} (k : KeepQ K H H') (e : EnvR K ι H σ ρ) : EnvR K ι H' σ ρ :=
  ⟨e.len, fun i d h => let ⟨v, h1, h2⟩ := e.get i d h; ⟨v, h1, h2.monoQ k⟩⟩
theorem unlockQ {a : Addr} {od : Obj} {u : HO} (h : H a = some (.frz od u)) (hu : ∀ xs, u ≠ .tup xs) : KeepQ K H (upd H a u) := by
  refine ⟨fun b xs hb => ?_, fun b xs hb => ?_⟩
  · rw [upd_ne]
    · exact hb
    · rintro rfl
      rw [h] at hb
      cases hb
  · rcases hb with (hb | ⟨o, hb⟩) | hb
    · refine .inl (.inl ?_)
      rw [upd_ne]
      · exact hb
      · rintro rfl
        rw [h] at hb
        cases hb
    · refine .inl (.inr ⟨o, ?_⟩)
      rw [upd_ne]
      · exact hb
      · rintro rfl
        rw [h] at hb
        cases hb
        exact hu _ rfl
    · exact .inr hb
theorem StR.unlock {st : Store} {n : Nat} {a : Addr} {od : Obj} {u : HO} {c : Cell} (s : StR K ι H st) (hn : ι[n]? = some a) (h : H a = some (.frz od u)) (hu : ∀ xs, u ≠ .tup xs) (hc : CellR K ι (upd H a u) a c) : StR K ι (upd H a u) (st.set n c) := by
  refine ⟨by rw [List.length_set]; exact s.len, s.nd, fun m c' b e hb => ?_⟩
  by_cases hm : n = m
  · subst hm
    obtain ⟨hl, _⟩ := List.getElem?_eq_some_iff.mp hn
    rw [List.getElem?_set_self (by rw [← s.len]; exact hl)] at e
    obtain rfl : c = c' := Option.some.inj e
    rw [hn] at hb
    obtain rfl : a = b := Option.some.inj hb
    exact hc
  · rw [List.getElem?_set_ne hm] at e
    exact (s.cell m c' b e hb).monoQ (unlockQ h hu) (upd_ne (nd_ne s.nd hn hb hm))
theorem unlockKeep {a : Addr} {od : Obj} {u : HO} (hi : a ∈ ι) (h0 : H a = some u) (h1 : ∀ xs, u ≠ .tup xs) (h2 : ∀ o' u', u ≠ .frz o' u') (k : Keep ι ι' (upd H a (.frz od u)) H') : Keep ι ι' H (upd H' a u) := by
  have ne : ∀ b o, H b = some o → o ≠ u → b ≠ a := fun b o hb ho z => by
    subst z
    rw [h0] at hb
    exact ho (Option.some.inj hb).symm
  refine ⟨fun b xs hb => ?_, fun b o v hb => ?_, fun b o hb hm => ?_, fun b hb => ?_⟩
  · have := ne b _ hb fun z => h1 _ z.symm
    rw [upd_ne this]
    exact k.tup b xs (by rw [upd_ne this]; exact hb)
  · have := ne b _ hb fun z => h2 _ _ z.symm
    rw [upd_ne this]
    exact k.frz b o v (by rw [upd_ne this]; exact hb)
  · have : b ≠ a := fun z => hm (by rw [z]; exact hi)
    rw [upd_ne this]
    exact k.out b o (by rw [upd_ne this]; exact hb) hm
  · rcases k.new b hb with z | z
    · exact .inl z
    · by_cases e : b = a
      · rw [e]
        exact .inl hi
      · right
        rw [upd_ne e] at z
        exact z
end
section
variable {X : Cx} {F : Fm} {e : Expr} {c : C} {s : S} {sm : Stmt}
theorem lock_read {σ : L2.St} {H : Hp} {R : VK} {i : Nat} (h : TD X.K F (.lck i c) σ H R) : tLockE (TD X.K F c) σ H R := by
  obtain ⟨ι, ρ, st, Q, e, s, ⟨n, hi, h⟩, p⟩ := h
  obtain ⟨v, hv, rv⟩ := e.get i _ hi
  cases rv with
  | @ref _ a hn =>
  have hm := List.mem_of_getElem? hn
  rcases h with ⟨kvs, hst, go⟩ | ⟨kvs, hst, go⟩
  · obtain ⟨vs, g, r⟩ := s.at hst hn
    refine ⟨a, .dK vs, g, trivial, fun od => ?_⟩
    have kp : KeepT H (upd H a (.frz od (.dK vs))) := .upd g (fun _ h => by cases h) fun _ _ h => by cases h
    refine ⟨ι, ρ, st.set n (.lkd kvs), _, e.mono (List.prefix_refl _) kp, s.put hn kp ⟨od, vs, upd_same, r.mono (List.prefix_refl _) kp⟩, go, fun v H' ι' d st' hp hk hd hs ⟨h1, q⟩ => ?_⟩
    have ha' := hk.frz a od _ upd_same
    have hn' := pre_get hp hn
    obtain ⟨o2, vs2, g2, r2⟩ := hs.at h1 hn'
    rw [ha'] at g2
    cases g2
    have kq : KeepQ X.K H' (upd H' a (.dK vs)) := unlockQ ha' fun _ h => by cases h
    exact ⟨ha', p v _ ι' d _ hp (unlockKeep hm g (fun _ h => by cases h) (fun _ _ h => by cases h) hk) (hd.monoQ kq) (hs.unlock (c := .dct kvs) hn' ha' (fun _ h => by cases h) ⟨vs, upd_same, r2.monoQ kq⟩) q⟩
  · obtain ⟨vs, g, r⟩ := s.at hst hn
    refine ⟨a, .dT vs, g, trivial, fun od => ?_⟩
    have kp : KeepT H (upd H a (.frz od (.dT vs))) := .upd g (fun _ h => by cases h) fun _ _ h => by cases h
    refine ⟨ι, ρ, st.set n (.lkt kvs), _, e.mono (List.prefix_refl _) kp, s.put hn kp ⟨od, vs, upd_same, r.mono (List.prefix_refl _) kp⟩, go, fun v H' ι' d st' hp hk hd hs ⟨h1, q⟩ => ?_⟩
    have ha' := hk.frz a od _ upd_same
    have hn' := pre_get hp hn
    obtain ⟨o2, vs2, g2, r2⟩ := hs.at h1 hn'
    rw [ha'] at g2
    cases g2
    have kq : KeepQ X.K H' (upd H' a (.dT vs)) := unlockQ ha' fun _ h => by cases h
    exact ⟨ha', p v _ ι' d _ hp (unlockKeep hm g (fun _ h => by cases h) (fun _ _ h => by cases h) hk) (hd.monoQ kq) (hs.unlock (c := .dtt kvs) hn' ha' (fun _ h => by cases h) ⟨vs, upd_same, r2.monoQ kq⟩) q⟩
theorem d_lck {i : Nat} (h : PE X e (TD X.K F c)) : PE X e (TD X.K F (.lck i c)) := (pe_lock h).weak fun σ H R h => lock_read h
theorem lock_readS {σ : L2.St} {H : Hp} {D : Ends} {i : Nat} (h : TS' X.K F (.lck i s) D σ H) : tLock (TS' X.K F s) D σ H := by
  obtain ⟨ι, ρ, st, E, e, hs, ⟨n, hi, h⟩, p⟩ := h
  obtain ⟨v, hv, rv⟩ := e.get i _ hi
  cases rv with
  | @ref _ a hn =>
  have hm := List.mem_of_getElem? hn
  rcases h with ⟨kvs, hst, go⟩ | ⟨kvs, hst, go⟩
  · obtain ⟨vs, g, r⟩ := hs.at hst hn
    refine ⟨a, .dK vs, g, trivial, fun od => ?_⟩
    have kp : KeepT H (upd H a (.frz od (.dK vs))) := .upd g (fun _ h => by cases h) fun _ _ h => by cases h
    have fin : ∀ {H' : Hp} {ι' : List Addr} {st' : Store}, ι <+: ι' → Keep ι ι' (upd H a (.frz od (.dK vs))) H' → StR X.K ι' H' st' → st'[n]? = some (.lkd kvs) →
        H' a = some (.frz od (.dK vs)) ∧ Keep ι ι' H (upd H' a (.dK vs)) ∧ KeepQ X.K H' (upd H' a (.dK vs)) ∧ StR X.K ι' (upd H' a (.dK vs)) (st'.set n (.dct kvs)) := fun {H' ι' st'} hp hk hs h1 => by
      have ha' := hk.frz a od _ upd_same
      have hn' := pre_get hp hn
      obtain ⟨o2, vs2, g2, r2⟩ := hs.at h1 hn'
      rw [ha'] at g2
      cases g2
      have kq : KeepQ X.K H' (upd H' a (.dK vs)) := unlockQ ha' fun _ h => by cases h
      exact ⟨ha', unlockKeep hm g (fun _ h => by cases h) (fun _ _ h => by cases h) hk, kq, hs.unlock hn' ha' (fun _ h => by cases h) ⟨vs, upd_same, r2.monoQ kq⟩⟩
    refine ⟨ι, ρ, st.set n (.lkd kvs), _, e.mono (List.prefix_refl _) kp, hs.put hn kp ⟨od, vs, upd_same, r.mono (List.prefix_refl _) kp⟩, go, ⟨?_, ?_, ?_, ?_⟩⟩
    · intro σ' H' ι' ρ' st' hp hk he hs ⟨h1, q⟩
      obtain ⟨f1, f2, f3, f4⟩ := fin hp hk hs h1
      exact ⟨f1, p.nx _ _ ι' ρ' _ hp f2 (he.monoQ f3) f4 q⟩
    · intro v H' ι' d st' hp hk hd hs ⟨h1, q⟩
      obtain ⟨f1, f2, f3, f4⟩ := fin hp hk hs h1
      exact ⟨f1, p.rt _ _ ι' d _ hp f2 (hd.monoQ f3) f4 q⟩
    · intro σ' H' ι' ρ' st' hp hk he hs ⟨h1, q⟩
      obtain ⟨f1, f2, f3, f4⟩ := fin hp hk hs h1
      exact ⟨f1, p.bk _ _ ι' ρ' _ hp f2 (he.monoQ f3) f4 q⟩
    · intro σ' H' ι' ρ' st' hp hk he hs ⟨h1, q⟩
      obtain ⟨f1, f2, f3, f4⟩ := fin hp hk hs h1
      exact ⟨f1, p.ct _ _ ι' ρ' _ hp f2 (he.monoQ f3) f4 q⟩
  · obtain ⟨vs, g, r⟩ := hs.at hst hn
    refine ⟨a, .dT vs, g, trivial, fun od => ?_⟩
    have kp : KeepT H (upd H a (.frz od (.dT vs))) := .upd g (fun _ h => by cases h) fun _ _ h => by cases h
    have fin : ∀ {H' : Hp} {ι' : List Addr} {st' : Store}, ι <+: ι' → Keep ι ι' (upd H a (.frz od (.dT vs))) H' → StR X.K ι' H' st' → st'[n]? = some (.lkt kvs) →
        H' a = some (.frz od (.dT vs)) ∧ Keep ι ι' H (upd H' a (.dT vs)) ∧ KeepQ X.K H' (upd H' a (.dT vs)) ∧ StR X.K ι' (upd H' a (.dT vs)) (st'.set n (.dtt kvs)) := fun {H' ι' st'} hp hk hs h1 => by
      have ha' := hk.frz a od _ upd_same
      have hn' := pre_get hp hn
      obtain ⟨o2, vs2, g2, r2⟩ := hs.at h1 hn'
      rw [ha'] at g2
      cases g2
      have kq : KeepQ X.K H' (upd H' a (.dT vs)) := unlockQ ha' fun _ h => by cases h
      exact ⟨ha', unlockKeep hm g (fun _ h => by cases h) (fun _ _ h => by cases h) hk, kq, hs.unlock hn' ha' (fun _ h => by cases h) ⟨vs, upd_same, r2.monoQ kq⟩⟩
    refine ⟨ι, ρ, st.set n (.lkt kvs), _, e.mono (List.prefix_refl _) kp, hs.put hn kp ⟨od, vs, upd_same, r.mono (List.prefix_refl _) kp⟩, go, ⟨?_, ?_, ?_, ?_⟩⟩
    · intro σ' H' ι' ρ' st' hp hk he hs ⟨h1, q⟩
      obtain ⟨f1, f2, f3, f4⟩ := fin hp hk hs h1
      exact ⟨f1, p.nx _ _ ι' ρ' _ hp f2 (he.monoQ f3) f4 q⟩
    · intro v H' ι' d st' hp hk hd hs ⟨h1, q⟩
      obtain ⟨f1, f2, f3, f4⟩ := fin hp hk hs h1
      exact ⟨f1, p.rt _ _ ι' d _ hp f2 (hd.monoQ f3) f4 q⟩
    · intro σ' H' ι' ρ' st' hp hk he hs ⟨h1, q⟩
      obtain ⟨f1, f2, f3, f4⟩ := fin hp hk hs h1
      exact ⟨f1, p.bk _ _ ι' ρ' _ hp f2 (he.monoQ f3) f4 q⟩
    · intro σ' H' ι' ρ' st' hp hk he hs ⟨h1, q⟩
      obtain ⟨f1, f2, f3, f4⟩ := fin hp hk hs h1
      exact ⟨f1, p.ct _ _ ι' ρ' _ hp f2 (he.monoQ f3) f4 q⟩
theorem s_lck {i : Nat} (h : PS X sm (TS' X.K F s)) : PS X sm (TS' X.K F (.lck i s)) := (ps_lock h).weak fun D σ H h => lock_readS h
/-! ### the items -/
theorem DKs.getK {κ : Type} {K : PySem.W.Frag} {ι : List Addr} {H : Hp} : ∀ {ds : List (κ × D)} {vs : List (κ × V)} {i : Nat}, DKs K ι H ds vs → (ds[i]? = none → vs.length ≤ i) ∧ ∀ kd, ds[i]? = some kd → ∃ v, vs[i]? = some (kd.1, v) ∧ DR K ι H kd.2 v
  | _, _, i, .nil => ⟨fun _ => by simp, fun kd h => by simp at h⟩
  | _, _, 0, .cons r t => ⟨fun h => by simp at h, fun kd h => by
    cases h
    exact ⟨_, rfl, r⟩⟩
  | _, _, i + 1, .cons r t => by
    obtain ⟨h1, h2⟩ := DKs.getK (i := i) t
    refine ⟨fun h => ?_, fun kd h => ?_⟩
    · have := h1 (by simpa using h)
      simp only [List.length_cons]
      omega
    · obtain ⟨v, e, r⟩ := h2 kd (by simpa using h)
      exact ⟨v, by simpa using e, r⟩
theorem lt_of_get {α : Type} {xs : List α} {i : Nat} {x : α} (h : xs[i]? = some x) : i < xs.length := (List.getElem?_eq_some_iff.mp h).1
theorem keyD_one {K : PySem.W.Frag} {ι : List Addr} {H : Hp} : ∀ k : L2.Key, DR K ι H (keyD k) (kV k)
  | .inl i => .int i
  | .inr s => .str s
theorem itr_keysD {K : PySem.W.Frag} {ι0 : List Addr} {H0 : Hp} {n : Nat} {a : Addr} {o : Obj} {vs : List (L2.Key × V)} (h : ι0[n]? = some a) (h0 : H0 a = some (.frz o (.dK vs))) : ItR K ι0 H0 (Itk a o vs) (.keys n) := by
  intro ι H st i hι hk hs
  have hn := pre_get hι h
  have ha := hk.frz _ _ _ h0
  simp only [ItD.step]
  split
  · rename_i kvs e0
    obtain ⟨o', vs', g, r⟩ := hs.at e0 hn
    rw [ha] at g
    cases g
    obtain ⟨g1, g2⟩ := r.getK (i := i)
    refine ⟨fun e1 => ⟨ha, g1 (by simpa using e1)⟩, fun d e1 => ?_⟩
    obtain ⟨kd, ek, rfl⟩ := Option.map_eq_some_iff.mp (Option.some.inj e1)
    obtain ⟨v, ev, rv⟩ := g2 kd ek
    refine ⟨⟨ha, lt_of_get ev⟩, fun x H' ⟨eH, k, v', ek', ex⟩ => ?_⟩
    subst eH
    rw [ev] at ek'
    cases ek'
    subst ex
    exact ⟨.refl _, hs, keyD_one _⟩
  · rename_i kvs e0
    obtain ⟨o', vs', g, r⟩ := hs.at e0 hn
    rw [ha] at g
    cases g
  · exact ⟨fun e => (by cases e), fun d e => (by cases e)⟩
theorem itr_keysT {K : PySem.W.Frag} {ι0 : List Addr} {H0 : Hp} {n : Nat} {a : Addr} {o : Obj} {vs : List (List L2.Key × V)} (h : ι0[n]? = some a) (h0 : H0 a = some (.frz o (.dT vs))) : ItR K ι0 H0 (Itkt a o vs) (.keys n) := by
  intro ι H st i hι hk hs
  have hn := pre_get hι h
  have ha := hk.frz _ _ _ h0
  simp only [ItD.step]
  split
  · rename_i kvs e0
    obtain ⟨o', vs', g, r⟩ := hs.at e0 hn
    rw [ha] at g
    cases g
  · rename_i kvs e0
    obtain ⟨o', vs', g, r⟩ := hs.at e0 hn
    rw [ha] at g
    cases g
    obtain ⟨g1, g2⟩ := r.getK (i := i)
    refine ⟨fun e1 => ⟨ha, g1 (by simpa using e1)⟩, fun d e1 => ?_⟩
    obtain ⟨kd, ek, rfl⟩ := Option.map_eq_some_iff.mp (Option.some.inj e1)
    obtain ⟨v, ev, rv⟩ := g2 kd ek
    refine ⟨⟨ha, lt_of_get ev⟩, fun x H' ⟨eH, k, v', q, ek', ex, eq⟩ => ?_⟩
    subst eH
    rw [ev] at ek'
    cases ek'
    subst ex
    exact ⟨.refl _, hs, .tup eq (keyD_rel _)⟩
  · exact ⟨fun e => (by cases e), fun d e => (by cases e)⟩
theorem itr_vals {K : PySem.W.Frag} {ι0 : List Addr} {H0 : Hp} {n : Nat} {a : Addr} {o : Obj} {vs : List (L2.Key × V)} (h : ι0[n]? = some a) (h0 : H0 a = some (.frz o (.dK vs))) : ItR K ι0 H0 (Itd a o vs) (.vals n) := by
  intro ι H st i hι hk hs
  have hn := pre_get hι h
  have ha := hk.frz _ _ _ h0
  simp only [ItD.step]
  split
  · rename_i kvs e0
    obtain ⟨o', vs', g, r⟩ := hs.at e0 hn
    rw [ha] at g
    cases g
    obtain ⟨g1, g2⟩ := r.getK (i := i)
    refine ⟨fun e1 => ⟨ha, g1 (by simpa using e1)⟩, fun d e1 => ?_⟩
    obtain ⟨kd, ek, rfl⟩ := Option.map_eq_some_iff.mp (Option.some.inj e1)
    obtain ⟨v, ev, rv⟩ := g2 kd ek
    refine ⟨⟨ha, lt_of_get ev⟩, fun x H' ⟨eH, k, ek'⟩ => ?_⟩
    subst eH
    rw [ev] at ek'
    cases ek'
    exact ⟨.refl _, hs, rv⟩
  · exact ⟨fun e => (by cases e), fun d e => (by cases e)⟩
theorem itr_items {K : PySem.W.Frag} {ι0 : List Addr} {H0 : Hp} {n : Nat} {a : Addr} {o : Obj} {vs : List (L2.Key × V)} (h : ι0[n]? = some a) (h0 : H0 a = some (.frz o (.dK vs))) : ItR K ι0 H0 (Iti a o vs) (.items n) := by
  intro ι H st i hι hk hs
  have hn := pre_get hι h
  have ha := hk.frz _ _ _ h0
  simp only [ItD.step]
  split
  · rename_i kvs e0
    obtain ⟨o', vs', g, r⟩ := hs.at e0 hn
    rw [ha] at g
    cases g
    obtain ⟨g1, g2⟩ := r.getK (i := i)
    refine ⟨fun e1 => ⟨ha, g1 (by simpa using e1)⟩, fun d e1 => ?_⟩
    obtain ⟨kd, ek, rfl⟩ := Option.map_eq_some_iff.mp (Option.some.inj e1)
    obtain ⟨v, ev, rv⟩ := g2 kd ek
    refine ⟨⟨ha, lt_of_get ev⟩, fun x H' ⟨T, k, v', ek', ex, hT, eH⟩ => ?_⟩
    subst eH
    rw [ev] at ek'
    cases ek'
    subst ex
    have k1 : Keep ι ι H (upd H T (.tup [kV kd.1, v])) := .new1 hT
    exact ⟨k1, hs.newTup hT, .tup upd_same (.cons (keyD_one _) (.cons (rv.mono (List.prefix_refl _) k1.t) .nil))⟩
  · exact ⟨fun e => (by cases e), fun d e => (by cases e)⟩
variable {tg a : Expr} {ca : C} {apos cpos px : Pos} {x : Str}
theorem i_keys (ha : PE X a (TD X.K F ca)) : PI X tg a (TI' X.K F .keys (.cons ca .nil)) :=
  (pi_keys ha).weak fun σ H R ⟨ι, ρ, st, Q, e, s, q, p⟩ => .go e s q fun x H1 ι1 d st1 h1 k1 e1 d1 s1 q1 => by
    obtain ⟨xs, ex, ys, ey, q2⟩ := q1
    cases ex
    cases ey
    obtain ⟨it, ei, q3⟩ := q2
    cases d1 with
    | @ref n a' g1 =>
      simp only [itOf] at ei
      split at ei
      · rename_i kvs e0
        cases ei
        obtain ⟨o, vs, g, r⟩ := s1.at e0 g1
        exact ⟨a', o, rfl, .inl ⟨vs, g, p _ H1 ι1 _ st1 h1 k1 e1 s1 (itr_keysD g1 g) q3⟩⟩
      · rename_i kvs e0
        cases ei
        obtain ⟨o, vs, g, r⟩ := s1.at e0 g1
        exact ⟨a', o, rfl, .inr ⟨vs, g, p _ H1 ι1 _ st1 h1 k1 e1 s1 (itr_keysT g1 g) q3⟩⟩
      · cases ei
    | _ => cases ei
theorem i_vals (ha : PE X (.Name x px) (TD X.K F ca)) (hl : (apos.endLine == cpos.line) = true) : PI X tg (.Call (.Attribute (.Name x px) "values" apos) [] [] cpos) (TI' X.K F .vals (.cons ca .nil)) :=
  (pi_values ha rfl hl).weak fun σ H R ⟨ι, ρ, st, Q, e, s, q, p⟩ => .go e s q fun x H1 ι1 d st1 h1 k1 e1 d1 s1 q1 => by
    obtain ⟨xs, ex, ys, ey, q2⟩ := q1
    cases ex
    cases ey
    obtain ⟨it, ei, q3⟩ := q2
    cases d1 with
    | @ref n a' g1 =>
      simp only [itOf] at ei
      split at ei
      · rename_i kvs e0
        cases ei
        obtain ⟨o, vs, g, r⟩ := s1.at e0 g1
        exact ⟨a', o, vs, rfl, g, p _ H1 ι1 _ st1 h1 k1 e1 s1 (itr_vals g1 g) q3⟩
      · cases ei
    | _ => cases ei
theorem i_items {elts : List Expr} {kk : Nat} {tpos : Pos} (ha : PE X (.Name x px) (TD X.K F ca)) (hl : (apos.endLine == cpos.line) = true) : PI X (.Tuple elts kk tpos) (.Call (.Attribute (.Name x px) "items" apos) [] [] cpos) (TI' X.K F .items (.cons ca .nil)) :=
  (pi_items ha rfl hl).weak fun σ H R ⟨ι, ρ, st, Q, e, s, q, p⟩ => .go e s q fun x H1 ι1 d st1 h1 k1 e1 d1 s1 q1 => by
    obtain ⟨xs, ex, ys, ey, q2⟩ := q1
    cases ex
    cases ey
    obtain ⟨it, ei, q3⟩ := q2
    cases d1 with
    | @ref n a' g1 =>
      simp only [itOf] at ei
      split at ei
      · rename_i kvs e0
        cases ei
        obtain ⟨o, vs, g, r⟩ := s1.at e0 g1
        exact ⟨a', o, vs, rfl, g, p _ H1 ι1 _ st1 h1 k1 e1 s1 (itr_items g1 g) q3⟩
      · cases ei
    | _ => cases ei
end
end Cb

namespace Cb
open PySem PySem.Spec PyProof.Rows L2

/-! ## from the text to codes -/
structure Gam where
  N : List Str
  pats : List Pat
  bl : List Str
  consts : List (Str × D)
  mpats : List MPat := []
  cpats : List CPat := []
  imps : List Str := []
  lck : List Str := []
def slot (N : List Str) (x : Str) : Option Nat := N.findIdx? fun y => decide (y = x)
theorem slot_ok {N : List Str} {x : Str} {i : Nat} (h : slot N x = some i) : N[i]? = some x := by
  unfold slot at h
  obtain ⟨h1, h2, _⟩ := List.findIdx?_eq_some_iff_getElem.mp h
  rw [List.getElem?_eq_getElem h1, of_decide_eq_true h2]
def visB (sc : Scope) (x : Str) : Bool := match sc.names.lookup x with
  | some .local => true
  | some .cell => true
  | some .free => true
  | _ => false
theorem vis_ok {sc : Scope} {x : Str} (h : visB sc x = true) : Vis sc x := by
  unfold visB at h
  unfold Vis
  cases e : sc.names.lookup x with
  | none => rw [e] at h; cases h
  | some k => cases k <;> first | exact .inl rfl | exact .inr (.inl rfl) | exact .inr (.inr rfl) | (rw [e] at h; cases h)
def glB (sc : Scope) (x : Str) : Bool := decide (sc.names.lookup x = some .globalImplicit)
def plainN (x : Str) : Bool := !(x == ("__debug__" : Str)) && !(x == ("__classdict__" : Str))
theorem plainN_ok {x : Str} (h : plainN x = true) : (x == ("__debug__" : Str)) = false ∧ (x == ("__classdict__" : Str)) = false := by
  unfold plainN at h
  rw [Bool.and_eq_true] at h
  exact ⟨by simpa using h.1, by simpa using h.2⟩
def locB (sc : Scope) (fb : Str → Bool) (x : Str) : Bool := match sc.names.lookup x with
  | some .local => true
  | some .cell => fb x
  | _ => false
theorem loc_ok {sc : Scope} {fb : Str → Bool} {x : Str} (h : locB sc fb x = true) : L2.Loc sc x ∧ (fb x = true ∨ sc.names.lookup x = some .local) := by
  unfold locB at h
  unfold L2.Loc
  cases e : sc.names.lookup x with
  | none => rw [e] at h; cases h
  | some k =>
    rw [e] at h
    cases k with
    | «local» => exact ⟨.inl rfl, .inr rfl⟩
    | cell => exact ⟨.inr rfl, .inl h⟩
    | _ => cases h
structure CtxOk (Γ : Gam) (F : Fm) (k : Nat) (sc : Scope) (fb : Str → Bool) (X : Cx) : Prop where
  N : X.N = Γ.N
  nd : Γ.N.Nodup
  scp : X.env.scope = sc
  kind : sc.kind = ScopeKind.function
  cm : Calm X
  fn : ∀ x, X.fn x = fb x
  bl : ∀ x ∈ Γ.bl, X.mg x = none
  pats : ∀ p ∈ Γ.pats, PatOk X.prog X.w X.K X.mg X.base F k p
  room : RoomB k X.A
  consts : ∀ c ∈ Γ.consts, ∃ v u, X.mg c.1 = some u ∧ RelV v u ∧ (∀ H, DR X.K [] H c.2 v) ∧ (c.1 == ("__debug__" : Str)) = false
  mpats : ∀ p ∈ Γ.mpats, MPatOk X.prog X.w X.K X.mg X.base F k p
  cpats : ∀ p ∈ Γ.cpats, CPatOk X.prog X.w X.K X.mg X.base F k p
  imps : ∀ x ∈ Γ.imps, X.mg x = some (.builtin "math.comb")
def copOf : CmpOp → Cop
  | .Eq => .eq | .NotEq => .ne | .Lt => .lt | .LtE => .le | .Gt => .gt | .GtE => .ge | .Is => .isn | .IsNot => .notn | .In => .ins | .NotIn => .nins
theorem cop_ok (o : CmpOp) : cmpOf (copOf o) = o := by cases o <;> rfl
theorem bop_ok {o : Operator} {b : Bop} (h : bopOf o = some b) : opOfB b = o := by cases o <;> cases h <;> rfl

/-! targets -/
def cTgs (rec : Expr → Option Tg) : List Expr → Option Tg
  | [] => some .nil
  | e :: es => match rec e, cTgs rec es with
    | some t, some ts => if plainTg e = true then some (.cons t ts) else none
    | _, _ => none
def cTg (Γ : Gam) (sc : Scope) (fb : Str → Bool) : Nat → Expr → Option Tg
  | 0, _ => none
  | n + 1, e => match e with
    | .Name x _ => match slot Γ.N x with
      | some i => if locB sc fb x = true then some (.name i) else none
      | none => none
    | .Tuple es _ _ => match cTgs (cTg Γ sc fb n) es with
      | some ts => if es.all plainTg = true then some (.tup ts) else none
      | none => none
    | _ => none
section
variable {Γ : Gam} {F : Fm} {k : Nat} {sc : Scope} {fb : Str → Bool} {X : Cx}
theorem cTgs_row {rec : Expr → Option Tg} : ∀ {es : List Expr} {t : Tg}, cTgs rec es = some t → Row t es
  | [], t, h => by cases h; exact .nil
  | e :: es, t, h => by
    unfold cTgs at h
    split at h
    · rename_i t1 ts e1 e2
      split at h
      · cases h
        exact .cons (cTgs_row e2)
      · cases h
    · cases h
theorem cTgs_ok {rec : Expr → Option Tg} (hr : ∀ e t, rec e = some t → PG X e (TG' X.K t)) : ∀ {es : List Expr} {t : Tg}, cTgs rec es = some t → PGs X es (TGs' X.K t)
  | [], t, h => by cases h; exact gs_nil
  | e :: es, t, h => by
    unfold cTgs at h
    split at h
    · rename_i t1 ts e1 e2
      split at h
      · rename_i hp
        cases h
        exact gs_cons (hr _ _ e1) (cTgs_ok hr e2) hp
      · cases h
    · cases h
theorem cTg_ok (c : CtxOk Γ F k sc fb X) : ∀ (n : Nat) (e : Expr) (t : Tg), cTg Γ sc fb n e = some t → PG X e (TG' X.K t)
  | 0, e, t, h => by cases h
  | n + 1, e, t, h => by
    cases e with
    | Name x p =>
      simp only [cTg] at h
      split at h
      · rename_i i e1
        split at h
        · rename_i hl
          cases h
          obtain ⟨h1, h2⟩ := loc_ok hl
          exact g_name (by rw [c.N]; exact c.nd) (by rw [c.N]; exact slot_ok e1) (by rw [c.scp]; exact h1) (by rw [c.fn, c.scp]; exact h2)
        · cases h
      · cases h
    | Tuple es j p =>
      simp only [cTg] at h
      split at h
      · rename_i ts e1
        split at h
        · rename_i hp
          cases h
          exact g_tup c.cm.calm (cTgs_ok (cTg_ok c n) e1) hp (cTgs_row e1)
        · cases h
      · cases h
    | _ => cases h
theorem cTg_plain {n : Nat} {e : Expr} {t : Tg} (h : cTg Γ sc fb n e = some t) : plainTg e = true := by
  cases n with
  | zero => cases h
  | succ n => cases e <;> first | rfl | cases h
end

/-! expressions -/
def cArgs (rec : Expr → Option C) : List Expr → Option C
  | [] => some .nil
  | e :: es => match rec e, cArgs rec es with
    | some c, some cs => if notStar e = true then some (.cons c cs) else none
    | _, _ => none
def cKws (rec : Expr → Option C) : List Keyword → Option C
  | [] => some .nil
  | ⟨_, e, _⟩ :: r => match rec e, cKws rec r with
    | some c, some cs => some (.cons c cs)
    | _, _ => none
def cBool (f : C → C → C) (rec : Expr → Option C) : List Expr → Option C
  | [] => none
  | [e] => rec e
  | e :: es => match rec e, cBool f rec es with
    | some c, some cs => some (f c cs)
    | _, _ => none
def findPat (ps : List Pat) (x : Str) (n : Nat) (ks : List Str) : Option Pat := ps.find? fun p => decide (p.name = x) && decide (p.npos = n) && decide (p.ks = ks)
def cTys (sc : Scope) (bl : List Str) : List Expr → Option (List Ty)
  | [] => some []
  | .Name x _ :: es => match tyN x, cTys sc bl es with
    | some t, some ts => if (glB sc x && bl.contains x) = true then some (t :: ts) else none
    | _, _ => none
  | _ => none
def cDsp (rec : Expr → Option C) : List (Option Expr) → List Expr → Option (List Key × C)
  | [], [] => some ([], .nil)
  | some k :: ks, v :: vs => match keyC k, rec v, cDsp rec ks vs with
    | some kk, some c, some (kks, cs) => some (kk :: kks, .cons c cs)
    | _, _, _ => none
  | _, _ => none
def ownOf (N : List Str) (scope : Scope) : List (Str × Nat) := scope.names.filterMap fun (n, k) => if (k == .local || k == .cell) = true then (slot N n).map fun i => (n, i) else none
/-- what is walked -/
def noSetD : Expr → Bool
  | .Set .. => false
  | _ => true
def isTupT : Expr → Bool
  | .Tuple .. => true
  | _ => false
def cIt (Γ : Gam) (sc : Scope) (rec : Expr → Option C) (tg e : Expr) : Option (Ik × C) :=
  match e with
  | .Call (.Name x _) [a] [] _ => if x = "range" ∧ (glB sc "range" && Γ.bl.contains "range" && notStar a) = true then (match cArgs rec [a] with
      | some c => some (.range1, c)
      | none => none) else if x = "enumerate" ∧ (isTupT tg && glB sc "enumerate" && Γ.bl.contains "enumerate" && notStar a) = true then (match cArgs rec [a] with
      | some c => some (.enum, c)
      | none => none) else (match rec e with
      | some c => some (.plain, .cons c .nil)
      | none => none)
  | .Call (.Name x _) [a, b] [] _ => if x = "range" ∧ (glB sc "range" && Γ.bl.contains "range" && notStar a && notStar b) = true then (match cArgs rec [a, b] with
      | some c => some (.range2, c)
      | none => none) else if x = "zip" ∧ (isTupT tg && glB sc "zip" && Γ.bl.contains "zip" && notStar a && notStar b) = true then (match cArgs rec [a, b] with
      | some c => some (.zip, c)
      | none => none) else (match rec e with
      | some c => some (.plain, .cons c .nil)
      | none => none)
  | .Call (.Attribute (.Name x px) m ap) [] [] cp => if m = "values" ∧ (ap.endLine == cp.line) = true then (match rec (.Name x px) with
      | some c => some (.vals, .cons c .nil)
      | none => none) else if m = "items" ∧ (isTupT tg && (ap.endLine == cp.line)) = true then (match rec (.Name x px) with
      | some c => some (.items, .cons c .nil)
      | none => none) else (match rec (.Call (.Attribute (.Name x px) m ap) [] [] cp) with
      | some c => some (.plain, .cons c .nil)
      | none => none)
  | .Name x px => (match rec (.Name x px) with
      | some c => some (if Γ.lck.contains x = true then .keys else .plain, .cons c .nil)
      | none => none)
  | e => if noSetD e = true then (match rec e with
      | some c => some (.plain, .cons c .nil)
      | none => none) else none
/-- the name of the dict that is walked -/
def lockN (Γ : Gam) : Expr → Option Str
  | .Name x _ => if Γ.lck.contains x = true then some x else none
  | .Call (.Attribute (.Name x _) m _) [] [] _ => if m = "values" ∨ m = "items" then some x else none
  | _ => none
def foldOk (e : Expr) : Bool := noSetD e
def cCall (Γ : Gam) (sc : Scope) (rec : Expr → Option C) (x : Str) (es : List Expr) (kws : List Keyword) : Option C :=
  if glB sc x = false then none else
  match kwNames kws with
  | none => none
  | some ks => match findPat Γ.pats x es.length ks with
    | some p => match cArgs rec es, cKws rec kws with
      | some a, some b => some (.call p.f p.npos p.ks.length p.perm a b)
      | _, _ => none
    | none =>
      if Γ.bl.contains x = false then none else
      match kws with
      | _ :: _ => none
      | [] =>
        match es with
        | [e, t] =>
          if x = "isinstance" then
            (if notStar e = false then none else
            match rec e with
            | none => none
            | some c => match t with
              | .Name y _ => match tyN y with
                | some ty => if (glB sc y && Γ.bl.contains y) = true then some (.isi c [ty]) else none
                | none => none
              | .Tuple ts _ _ => match cTys sc Γ.bl ts with
                | some tys => if tys.length ≤ 100 then some (.isi c tys) else none
                | none => none
              | _ => none)
          else (match bltN x 2, cArgs rec [e, t] with
            | some b, some c => some (.blt b c)
            | _, _ => none)
        | e :: es' => match bltN x (es'.length + 1), cArgs rec (e :: es') with
            | some b, some c => some (.blt b c)
            | _, _ => none
        | [] => none
def cMeth (rec : Expr → Option C) (o : Expr) (m : Str) (apos : Pos) (es : List Expr) (cpos : Pos) : Option C :=
  if (plainBase o && (apos.endLine == cpos.line)) = false then none else
  match rec o with
  | none => none
  | some co => match es with
    | [] => if m = "pop" then some (.mth .pop co .nil) else none
    | [e] => match rec e with
      | none => none
      | some c => if notStar e = false then none else if m = "append" then some (.mth .append co (.cons c .nil)) else if m = "pop" then some (.mth .popAt co (.cons c .nil)) else if m = "extend" then some (.mth .extend co (.cons c .nil)) else none
    | [e, f] => match rec e, rec f with
      | some c, some d => if (notStar e && notStar f) = true ∧ m = "get" then some (.dget co c d) else none
      | _, _ => none
    | _ => none
def cName (Γ : Gam) (sc : Scope) (x : Str) : Option C := if plainN x = false then none else if visB sc x = true then (slot Γ.N x).map .var else if glB sc x = true then (match Γ.consts.find? fun c => decide (c.1 = x) with
      | some c => some (.cst c.2)
      | none => none) else none
def cConst : Const → Option C
  | .int i => some (.cst (.int i))
  | .bool b => some (.cst (.bl b))
  | .none => some (.cst .non)
  | .str s => some (.cst (.str s))
  | _ => none
def cBin (rec : Expr → Option C) (a : Expr) (o : Operator) (b : Expr) : Option C := match bopOf o, rec a, rec b with
  | some o, some ca, some cb => some (.bin o ca cb)
  | _, _, _ => none
def cUn (rec : Expr → Option C) (o : UnaryOp) (a : Expr) : Option C := match o, rec a with
  | .USub, some c => some (.neg c)
  | .Not, some c => some (.tnot (.tval c))
  | _, _ => none
def cBoolE (rec : Expr → Option C) (o : PySem.BoolOp) (es : List Expr) : Option C := match o with
  | .And => cBool .and rec es
  | .Or => cBool .or rec es
def tBoolE (rec : Expr → Option C) (o : PySem.BoolOp) (es : List Expr) : Option C := match o with
  | .And => cBool .tand rec es
  | .Or => cBool .tor rec es
def cCmp (rec : Expr → Option C) (a : Expr) (os : List CmpOp) (bs : List Expr) : Option C := match os, bs with
  | [o], [b] => (match rec a, rec b with
    | some ca, some cb => if behindInMarks o b = false then some (.cmp (copOf o) ca cb) else none
    | _, _ => none)
  | [o, o2], [b, c] => (match rec a, rec b, rec c with
    | some ca, some cb, some cc => if lastMarks [o, o2] [b, c] = false then some (.chain (copOf o) (copOf o2) ca cb cc) else none
    | _, _, _ => none)
  | [o, o2, o3], [b, c, d] => (match rec a, rec b, rec c, rec d with
    | some ca, some cb, some cc, some cd => if lastMarks [o, o2, o3] [b, c, d] = false then some (.chain3 (copOf o) (copOf o2) (copOf o3) ca cb cc cd) else none
    | _, _, _, _ => none)
  | _, _ => none
def cIf (rec recT : Expr → Option C) (c a b : Expr) : Option C := match recT c, rec a, rec b with
  | some cc, some ca, some cb => some (.ite cc ca cb)
  | _, _, _ => none
def cPart (rec : Expr → Option C) : Option Expr → Option (Bool × C)
  | none => some (false, .cst .non)
  | some e => match rec e with
    | some c => some (true, c)
    | none => none
def cSub (rec : Expr → Option C) (a b : Expr) : Option C := match rec a with
  | none => none
  | some ca => match b with
    | .Slice lo hi none _ => (match cPart rec lo, cPart rec hi with
      | some (fl, cl), some (fh, ch) => some (.slc fl fh ca cl ch)
      | _, _ => none)
    | .Slice none none (some (.UnaryOp .USub (.Constant (.int i) _ _) _)) _ => if i = 1 then some (.revL ca) else none
    | b => (match rec b with
      | some cb => if noSlice b = true then some (.idx ca cb) else none
      | none => none)
def findM (ps : List MPat) (x : Str) (n : Nat) : Option MPat := ps.find? fun p => decide (p.name = x) && decide (p.npos = n)
def findC (ps : List CPat) (x : Str) (n : Nat) : Option CPat := ps.find? fun p => decide (p.cls.name = x) && decide (p.npos = n)
def cOwnM (rec : Expr → Option C) (pt : MPat) (o : Expr) (m : Str) (apos : Pos) (es : List Expr) (cpos : Pos) : Option C :=
  if (plainBase o && (apos.endLine == cpos.line)) = true ∧ es.length < 30 then (match rec o, cArgs rec es with
    | some co, some ca => some (.mcl pt.cls m pt.f pt.npos co ca)
    | _, _ => none) else none
def cOwnC (sc : Scope) (rec : Expr → Option C) (pt : CPat) (x : Str) (es : List Expr) : Option C :=
  if glB sc x = true then (match cArgs rec es with
    | some ca => some (.mk pt.cls pt.f pt.npos ca)
    | none => none) else none
/-- list(zip(a, b)) -/
def cLz (Γ : Gam) (sc : Scope) (rec : Expr → Option C) (x : Str) (es : List Expr) : Option C := match es with
  | [.Call (.Name y _) [a, b] [] _] => if x = "list" ∧ y = "zip" ∧ (glB sc "list" && glB sc "zip" && Γ.bl.contains "list" && Γ.bl.contains "zip" && notStar a && notStar b) = true then (cArgs rec [a, b]).map .lz else none
  | _ => none
/-- len(set(a)) -/
def cLns (Γ : Gam) (sc : Scope) (rec : Expr → Option C) (x : Str) (es : List Expr) : Option C := match es with
  | [.Call (.Name y _) [a] [] _] => if x = "len" ∧ y = "set" ∧ (glB sc "len" && glB sc "set" && Γ.bl.contains "len" && Γ.bl.contains "set" && notStar a) = true then (cArgs rec [a]).map .lns else none
  | _ => none
/-- comb(a, b) -/
def cCmb (Γ : Gam) (sc : Scope) (rec : Expr → Option C) (x : Str) (es : List Expr) : Option C := match es with
  | [a, b] => if (Γ.imps.contains x && glB sc x && notStar a && notStar b && plainN x) = true then (cArgs rec [a, b]).map .cmb else none
  | _ => none
def cCallE (Γ : Gam) (sc : Scope) (rec : Expr → Option C) (f : Expr) (es : List Expr) (kws : List Keyword) (cp : Pos) : Option C := match f with
  | .Name x _ => (match kws with
    | [] => (match findC Γ.cpats x es.length with
      | some pt => cOwnC sc rec pt x es
      | none => (match cLz Γ sc rec x es with
        | some c => some c
        | none => (match cLns Γ sc rec x es with
          | some c => some c
          | none => (match cCmb Γ sc rec x es with
            | some c => some c
            | none => cCall Γ sc rec x es []))))
    | kw :: kws => cCall Γ sc rec x es (kw :: kws))
  | .Attribute o m ap => (match kws with
    | [] => (match findM Γ.mpats m es.length with
      | some pt => cOwnM rec pt o m ap es cp
      | none => cMeth rec o m ap es cp)
    | _ :: _ => none)
  | _ => none
def cLc (Γ : Gam) (sc : Scope) (n : Nat) (rec rec' recT' : Expr → Option C) (elt : Expr) (gs : List Comprehension) (scope : Scope) : Option C := match gs with
  | [⟨tg, it, ifs, 0⟩] =>
    if blkC Γ.N sc scope (ownOf Γ.N scope) = false then none else
    match cIt Γ sc rec tg it, cTg Γ (relS scope sc) (fun x => scope.names.lookup x == some .cell) n tg, rec' elt with
    | some (k, as), some t, some e => if (t.vars.all fun i => ((ownOf Γ.N scope).map (·.2)).contains i) = false then none else (match ifs with
      | [] => some (.lc ((ownOf Γ.N scope).map (·.2)) t k as (.cst (.bl true)) e)
      | [c] => (match recT' c with
        | some cc => some (.lc ((ownOf Γ.N scope).map (·.2)) t k as cc e)
        | none => none)
      | _ => none)
    | _, _, _ => none
  | _ => none
/-- the tests of a clause: none, one -/
def cTest (recT : Expr → Option C) : List Expr → Option C
  | [] => some (.cst (.bl true))
  | [c] => recT c
  | _ => none
def setFree : Expr → Bool := noSetD
def cLc2 (Γ : Gam) (sc : Scope) (n : Nat) (rec rec' recT' : Expr → Option C) (elt : Expr) (gs : List Comprehension) (scope : Scope) : Option C := match gs with
  | [⟨tg, it, ifs, 0⟩, ⟨tg1, it1, ifs1, 0⟩] =>
    if blkC Γ.N sc scope (ownOf Γ.N scope) = false ∨ noSetD it1 = false then none else
    match cIt Γ sc rec tg it, cTg Γ (relS scope sc) (fun x => scope.names.lookup x == some .cell) n tg, cTest recT' ifs, cIt Γ (relS scope sc) rec' tg1 it1, cTg Γ (relS scope sc) (fun x => scope.names.lookup x == some .cell) n tg1, cTest recT' ifs1, rec' elt with
    | some (k, as), some t, some c, some (k1, as1), some t1, some c1, some e =>
      if ((t.vars.all fun i => ((ownOf Γ.N scope).map (·.2)).contains i) && t1.vars.all fun i => ((ownOf Γ.N scope).map (·.2)).contains i) = false then none else some (.lc2 ((ownOf Γ.N scope).map (·.2)) t1.vars t k as c t1 k1 as1 c1 e)
    | _, _, _, _, _, _, _ => none
  | _ => none
def cLcA (Γ : Gam) (sc : Scope) (n : Nat) (rec rec' recT' : Expr → Option C) (elt : Expr) (gs : List Comprehension) (scope : Scope) : Option C := match gs with
  | [g] => cLc Γ sc n rec rec' recT' elt [g] scope
  | gs => cLc2 Γ sc n rec rec' recT' elt gs scope
def noLk : C → Bool
  | .lck .. => false
  | _ => true
/-- a comprehension over a dict: locked -/
def cLk (Γ : Gam) (gs : List Comprehension) (o : Option C) : Option C := match o, gs with
  | some c, ⟨_, it, _, _⟩ :: _ => (match lockN Γ it with
    | some x => (slot Γ.N x).map fun i => .lck i c
    | none => some c)
  | o, _ => o
theorem cLk_cases {Γ : Gam} {gs : List Comprehension} {o : Option C} {c : C} (h : cLk Γ gs o = some c) : o = some c ∨ ∃ i c', c = .lck i c' ∧ o = some c' := by
  unfold cLk at h
  split at h
  · rename_i c' it0
    split at h
    · obtain ⟨i, e1, e2⟩ := Option.map_eq_some_iff.mp h
      exact .inr ⟨i, _, e2.symm, rfl⟩
    · exact .inl h
  · exact .inl h
def cDict (rec : Expr → Option C) (ks : List (Option Expr)) (vs : List Expr) : Option C := match cDsp rec ks vs with
  | some (kks, cs) => if (!ks.isEmpty && decide (ks.length ≤ 15) && distinct kks) = true then some (.dsp kks cs) else if (ks.isEmpty && vs.isEmpty) = true then some .dnw else none
  | none => none
/-- tst: as a test -/
def cE (Γ : Gam) : Nat → Scope → (Str → Bool) → Bool → Expr → Option C
  | 0, _, _, _, _ => none
  | n + 1, sc, fb, true, e => match e with
    | .UnaryOp .Not a _ => (cE Γ n sc fb true a).map .tnot
    | .UnaryOp _ _ _ => none
    | .BoolOp o es _ => tBoolE (cE Γ n sc fb true) o es
    | .Compare a os bs _ => cCmp (cE Γ n sc fb false) a os bs
    | .IfExp .. => none
    | e => (cE Γ n sc fb false e).map .tval
  | n + 1, sc, fb, false, e => match e with
    | .Name x _ => cName Γ sc x
    | .Constant c _ _ => cConst c
    | .Tuple es _ _ => (cArgs (cE Γ n sc fb false) es).map .tup
    | .List es _ => (cArgs (cE Γ n sc fb false) es).map .lst
    | .BinOp a o b _ => cBin (cE Γ n sc fb false) a o b
    | .UnaryOp o a _ => cUn (cE Γ n sc fb false) o a
    | .BoolOp o es _ => cBoolE (cE Γ n sc fb false) o es
    | .Compare a os bs _ => cCmp (cE Γ n sc fb false) a os bs
    | .IfExp c a b _ => cIf (cE Γ n sc fb false) (cE Γ n sc fb true) c a b
    | .Subscript a b _ => cSub (cE Γ n sc fb false) a b
    | .Call f es kws cp => cCallE Γ sc (cE Γ n sc fb false) f es kws cp
    | .ListComp elt gs scope _ => cLk Γ gs <| cLcA Γ sc n (cE Γ n sc fb false) (cE Γ n (relS scope sc) (fun x => scope.names.lookup x == some .cell) false) (cE Γ n (relS scope sc) (fun x => scope.names.lookup x == some .cell) true) elt gs scope
    | .Dict ks vs _ => cDict (cE Γ n sc fb false) ks vs
    | .Attribute e f _ => if plainBase e = true then (cE Γ n sc fb false e).map fun c => .fld c f else none
    | _ => none
end Cb

namespace Cb
open PySem PySem.Spec PyProof.Rows L2
section
variable {Γ : Gam} {F : Fm} {k : Nat} {sc : Scope} {fb : Str → Bool} {X : Cx} {rec recT : Expr → Option C} {pos : Pos}
theorem CtxOk.gl (c : CtxOk Γ F k sc fb X) {x : Str} (h : glB sc x = true) : Gl X x := by
  show X.env.scope.names.lookup x = _
  rw [c.scp]
  exact of_decide_eq_true h
theorem CtxOk.no (c : CtxOk Γ F k sc fb X) {x : Str} (h : Γ.bl.contains x = true) : X.mg x = none := c.bl x (by simpa using h)
theorem CtxOk.u64 (c : CtxOk Γ F k sc fb X) : X.A.units + 64 < cLine := by have := c.cm.units; omega
theorem CtxOk.u1 (c : CtxOk Γ F k sc fb X) : X.A.units + 1 < cLine := by have := c.cm.units; omega
theorem args_ok (ih : ∀ e c, rec e = some c → PE X e (TD X.K F c)) : ∀ {es : List Expr} {c : C}, cArgs rec es = some c → PA X es (TDA X.K F c) ∧ es.all notStar = true
  | [], c, h => by cases h; exact ⟨a_nil, rfl⟩
  | e :: es, c, h => by
    unfold cArgs at h
    split at h
    · rename_i c1 cs e1 e2
      split at h
      · rename_i hn
        cases h
        obtain ⟨h1, h2⟩ := args_ok ih e2
        exact ⟨a_cons (ih _ _ e1) h1 (star_cons hn _ _), by rw [List.all_cons, hn, h2]; rfl⟩
      · cases h
    · cases h
theorem kws_ok (ih : ∀ e c, rec e = some c → PE X e (TD X.K F c)) : ∀ {es : List Keyword} {c : C}, cKws rec es = some c → PK X es (TDA X.K F c)
  | [], c, h => by cases h; exact k_nil
  | ⟨nm, e, p⟩ :: es, c, h => by
    unfold cKws at h
    split at h
    · rename_i c1 cs e1 e2
      cases h
      exact k_cons (ih _ _ e1) (kws_ok ih e2)
    · cases h
theorem name_ok (c : CtxOk Γ F k sc fb X) {x : Str} {co : C} (h : cName Γ sc x = some co) : PE X (.Name x pos) (TD X.K F co) := by
  unfold cName at h
  split at h
  · cases h
  · rename_i hp
    obtain ⟨p1, p2⟩ := plainN_ok (by simpa using hp)
    split at h
    · rename_i hv
      cases e : slot Γ.N x with
      | none => rw [e] at h; cases h
      | some i =>
        rw [e] at h
        cases h
        exact d_var (by rw [c.N]; exact slot_ok e) (by rw [c.scp]; exact vis_ok hv) p1 p2
    · split at h
      · rename_i hg
        split at h
        · rename_i cc e
          cases h
          have h1 := List.find?_some e
          have h2 : cc.1 = x := of_decide_eq_true h1
          obtain ⟨v, u, a1, a2, a3, a4⟩ := c.consts cc (List.mem_of_find?_eq_some e)
          subst h2
          exact d_glob (c.gl hg) a1 a2 a3 a4
        · cases h
      · cases h
theorem const_ok {cc : Const} {j : Nat} {co : C} (h : cConst cc = some co) : PE X (.Constant cc j pos) (TD X.K F co) := by
  cases cc <;> cases h
  · exact d_non
  · exact d_bl
  · exact d_int
  · exact d_str
theorem bin_ok (ih : ∀ e c, rec e = some c → PE X e (TD X.K F c)) {a b : Expr} {o : Operator} {co : C} (h : cBin rec a o b = some co) : PE X (.BinOp a o b pos) (TD X.K F co) := by
  unfold cBin at h
  split at h
  · rename_i o' ca cb e1 e2 e3
    cases h
    rw [← bop_ok e1]
    exact d_bin o' (ih _ _ e2) (ih _ _ e3)
  · cases h
theorem un_ok (ih : ∀ e c, rec e = some c → PE X e (TD X.K F c)) {a : Expr} {o : UnaryOp} {co : C} (h : cUn rec o a = some co) : PE X (.UnaryOp o a pos) (TD X.K F co) := by
  unfold cUn at h
  split at h
  · rename_i c e1
    cases h
    exact d_neg (ih _ _ e1)
  · rename_i c e1
    cases h
    exact d_not (ih _ _ e1)
  · cases h
theorem boolA_ok (ih : ∀ e c, rec e = some c → PE X e (TD X.K F c)) : ∀ {es : List Expr} {co : C}, cBool .and rec es = some co → PE X (.BoolOp .And es pos) (TD X.K F co)
  | [], _, h => by cases h
  | [e], co, h => d_one (ih _ _ h)
  | e :: e2 :: es, co, h => by
    unfold cBool at h
    split at h
    · rename_i c cs h1 h2
      cases h
      exact d_and (ih _ _ h1) (boolA_ok ih h2)
    · cases h
theorem boolO_ok (ih : ∀ e c, rec e = some c → PE X e (TD X.K F c)) : ∀ {es : List Expr} {co : C}, cBool .or rec es = some co → PE X (.BoolOp .Or es pos) (TD X.K F co)
  | [], _, h => by cases h
  | [e], co, h => d_one (ih _ _ h)
  | e :: e2 :: es, co, h => by
    unfold cBool at h
    split at h
    · rename_i c cs h1 h2
      cases h
      exact d_or (ih _ _ h1) (boolO_ok ih h2)
    · cases h
theorem tboolA_ok (ih : ∀ e c, recT e = some c → PT X e (TT' X.K F c)) : ∀ {es : List Expr} {co : C}, cBool .tand recT es = some co → PW X (.BoolOp .And es pos) (TT' X.K F co)
  | [], _, h => by cases h
  | [e], co, h => w_and1 (ih _ _ h)
  | e :: e2 :: es, co, h => by
    unfold cBool at h
    split at h
    · rename_i c cs h1 h2
      cases h
      exact w_and (ih _ _ h1) (tboolA_ok ih h2)
    · cases h
theorem tboolO_ok (ih : ∀ e c, recT e = some c → PT X e (TT' X.K F c)) : ∀ {es : List Expr} {co : C}, cBool .tor recT es = some co → PW X (.BoolOp .Or es pos) (TT' X.K F co)
  | [], _, h => by cases h
  | [e], co, h => w_or1 (ih _ _ h)
  | e :: e2 :: es, co, h => by
    unfold cBool at h
    split at h
    · rename_i c cs h1 h2
      cases h
      exact w_or (ih _ _ h1) (tboolO_ok ih h2)
    · cases h
theorem cmp_ok (c : CtxOk Γ F k sc fb X) (ih : ∀ e c, rec e = some c → PE X e (TD X.K F c)) {a : Expr} {os : List CmpOp} {bs : List Expr} {co : C} (h : cCmp rec a os bs = some co) : PE X (.Compare a os bs pos) (TD X.K F co) ∧ PT X (.Compare a os bs pos) (TT' X.K F co) := by
  unfold cCmp at h
  split at h
  · rename_i o b
    split at h
    · rename_i ca cb e1 e2
      split at h
      · rename_i hm
        cases h
        have e := cop_ok o
        constructor
        · have := d_cmp (pos := pos) c.u64 (copOf o) (ih _ _ e1) (ih _ _ e2) (by rw [e]; exact hm)
          rw [e] at this
          exact this
        · have := t_cmp (pos := pos) c.u64 (copOf o) (ih _ _ e1) (ih _ _ e2) (by rw [e]; exact hm)
          rw [e] at this
          exact this
      · cases h
    · cases h
  · rename_i o o2 b d
    split at h
    · rename_i ca cb cc e1 e2 e3
      split at h
      · rename_i hm
        cases h
        have e := cop_ok o
        have e' := cop_ok o2
        constructor
        · have := d_chain (pos := pos) c.u64 (copOf o) (copOf o2) (ih _ _ e1) (ih _ _ e2) (ih _ _ e3) (by rw [e, e']; exact hm)
          rw [e, e'] at this
          exact this
        · have := t_chain (pos := pos) c.u64 (copOf o) (copOf o2) (ih _ _ e1) (ih _ _ e2) (ih _ _ e3) (by rw [e, e']; exact hm)
          rw [e, e'] at this
          exact this
      · cases h
    · cases h
  · rename_i o o2 o3 b d d2
    split at h
    · rename_i ca cb cc cd e1 e2 e3 e4
      split at h
      · rename_i hm
        cases h
        have e := cop_ok o
        have e' := cop_ok o2
        have e'' := cop_ok o3
        constructor
        · have := d_chain3 (pos := pos) c.u64 (copOf o) (copOf o2) (copOf o3) (ih _ _ e1) (ih _ _ e2) (ih _ _ e3) (ih _ _ e4) (by rw [e, e', e'']; exact hm)
          rw [e, e', e''] at this
          exact this
        · have := t_chain3 (pos := pos) c.u64 (copOf o) (copOf o2) (copOf o3) (ih _ _ e1) (ih _ _ e2) (ih _ _ e3) (ih _ _ e4) (by rw [e, e', e'']; exact hm)
          rw [e, e', e''] at this
          exact this
      · cases h
    · cases h
  · cases h
theorem if_ok (ih : ∀ e c, rec e = some c → PE X e (TD X.K F c)) (ihT : ∀ e c, recT e = some c → PT X e (TT' X.K F c)) {a b d : Expr} {co : C} (h : cIf rec recT d a b = some co) : PE X (.IfExp d a b pos) (TD X.K F co) := by
  unfold cIf at h
  split at h
  · rename_i cc ca cb e1 e2 e3
    cases h
    exact d_ite (ihT _ _ e1) (ih _ _ e2) (ih _ _ e3)
  · cases h
theorem part_ok (ih : ∀ e c, rec e = some c → PE X e (TD X.K F c)) {o : Option Expr} {f : Bool} {co : C} (h : cPart rec o = some (f, co)) : PO X o (TO' X.K F f co) := by
  cases o with
  | none => cases h; exact o_none
  | some e =>
    unfold cPart at h
    simp only at h
    split at h
    · rename_i c e1
      cases h
      exact o_some (ih _ _ e1)
    · cases h
theorem sub_ok (c : CtxOk Γ F k sc fb X) (ih : ∀ e c, rec e = some c → PE X e (TD X.K F c)) {a b : Expr} {co : C} (h : cSub rec a b = some co) : PE X (.Subscript a b pos) (TD X.K F co) := by
  unfold cSub at h
  split at h
  · cases h
  · rename_i ca ea
    split at h
    · split at h
      · rename_i e1 e2
        cases h
        exact d_slc (ih _ _ ea) (part_ok ih e1) (part_ok ih e2)
      · cases h
    · split at h
      · rename_i hi
        cases h
        subst hi
        exact d_revL (ih _ _ ea)
      · cases h
    · split at h
      · rename_i cb eb
        split at h
        · rename_i hn
          cases h
          exact d_idx c.u1 (ih _ _ ea) (ih _ _ eb) (fun o i => by cases b <;> first | rfl | cases hn)
        · cases h
      · cases h
theorem tys_ok (c : CtxOk Γ F k sc fb X) : ∀ {es : List Expr} {ts : List Ty}, cTys sc Γ.bl es = some ts → TyNs X es ts
  | [], ts, h => by cases h; exact .nil
  | e :: es, ts, h => by
    cases e with
    | Name x p =>
      simp only [cTys] at h
      split at h
      · rename_i t ts' e1 e2
        split at h
        · rename_i hb
          cases h
          rw [Bool.and_eq_true] at hb
          exact .cons e1 (c.gl hb.1) (c.no hb.2) (tys_ok c e2)
        · cases h
      · cases h
    | _ => cases h
theorem findPat_ok {ps : List Pat} {x : Str} {n : Nat} {ks : List Str} {p : Pat} (h : findPat ps x n ks = some p) : p ∈ ps ∧ p.name = x ∧ p.npos = n ∧ p.ks = ks := by
  have h1 := List.find?_some h
  rw [Bool.and_eq_true, Bool.and_eq_true] at h1
  exact ⟨List.mem_of_find?_eq_some h, of_decide_eq_true h1.1.1, of_decide_eq_true h1.1.2, of_decide_eq_true h1.2⟩
theorem call_ok (c : CtxOk Γ F k sc fb X) (ih : ∀ e c, rec e = some c → PE X e (TD X.K F c)) {x : Str} {es : List Expr} {kws : List Keyword} {co : C} {p : Pos} (h : cCall Γ sc rec x es kws = some co) : PE X (.Call (.Name x p) es kws pos) (TD X.K F co) := by
  unfold cCall at h
  split at h
  · cases h
  · rename_i hg
    have hgl := c.gl (x := x) (by simpa using hg)
    split at h
    · cases h
    · rename_i ks hks
      split at h
      · rename_i pt hpt
        split at h
        · rename_i ca cb e1 e2
          cases h
          obtain ⟨m1, m2, m3, m4⟩ := findPat_ok hpt
          obtain ⟨a1, a2⟩ := args_ok ih e1
          exact d_call (c.pats pt m1) c.room.m c.cm.guards m2 hgl a1 (kws_ok ih e2) a2 (by rw [m4]; exact hks) (fun e => by subst e; cases e1; rfl)
        · cases h
      · split at h
        · cases h
        · rename_i hb
          have hno := c.no (x := x) (by simpa using hb)
          split at h
          · cases h
          · split at h
            · rename_i e1' t1'
              split at h
              · rename_i hx
                subst hx
                split at h
                · cases h
                · rename_i hs
                  have hs' := (Bool.not_eq_false _).mp hs
                  split at h
                  · cases h
                  · rename_i ce e1
                    split at h
                    · split at h
                      · rename_i ty hty
                        split at h
                        · rename_i hb2
                          cases h
                          rw [Bool.and_eq_true] at hb2
                          exact d_isi1 hgl hno (ih _ _ e1) hty (c.gl hb2.1) (c.no hb2.2) hs'
                        · cases h
                      · cases h
                    · split at h
                      · rename_i tys htys
                        split at h
                        · rename_i hl
                          cases h
                          exact d_isiT hgl hno (ih _ _ e1) (tys_ok c htys) hl hs'
                        · cases h
                      · cases h
                    · cases h
              · split at h
                · rename_i b ca e1 e2
                  cases h
                  obtain ⟨a1, a2⟩ := args_ok ih e2
                  exact d_blt c.cm e1 hgl hno a2 a1
                · cases h
            · rename_i e es' _
              split at h
              · rename_i b ca e1 e2
                cases h
                obtain ⟨a1, a2⟩ := args_ok ih e2
                exact d_blt c.cm e1 hgl hno a2 a1
              · cases h
            · cases h
theorem findM_ok {ps : List MPat} {x : Str} {n : Nat} {p : MPat} (h : findM ps x n = some p) : p ∈ ps ∧ p.name = x := by
  have h1 := List.find?_some h
  rw [Bool.and_eq_true] at h1
  exact ⟨List.mem_of_find?_eq_some h, of_decide_eq_true h1.1⟩
theorem findC_ok {ps : List CPat} {x : Str} {n : Nat} {p : CPat} (h : findC ps x n = some p) : p ∈ ps ∧ p.cls.name = x := by
  have h1 := List.find?_some h
  rw [Bool.and_eq_true] at h1
  exact ⟨List.mem_of_find?_eq_some h, of_decide_eq_true h1.1⟩
theorem ownM_ok (c : CtxOk Γ F k sc fb X) (ih : ∀ e c, rec e = some c → PE X e (TD X.K F c)) {pt : MPat} {o : Expr} {m : Str} {apos cpos : Pos} {es : List Expr} {n : Nat} {co : C} (hf : findM Γ.mpats m n = some pt) (h : cOwnM rec pt o m apos es cpos = some co) : PE X (.Call (.Attribute o m apos) es [] cpos) (TD X.K F co) := by
  obtain ⟨m1, m2⟩ := findM_ok hf
  unfold cOwnM at h
  split at h
  · rename_i hb
    split at h
    · rename_i c1 c2 e1 e2
      cases h
      rw [Bool.and_eq_true] at hb
      obtain ⟨a1, a2⟩ := args_ok ih e2
      exact d_mcl (c.mpats pt m1) c.room.m c.cm.guards m2 (ih _ _ e1) a1 a2 hb.1.1 hb.1.2 hb.2 (fun e => by subst e; cases e2; rfl)
    · cases h
  · cases h
theorem ownC_ok (c : CtxOk Γ F k sc fb X) (ih : ∀ e c, rec e = some c → PE X e (TD X.K F c)) {pt : CPat} {x : Str} {es : List Expr} {n : Nat} {co : C} {p : Pos} (hf : findC Γ.cpats x n = some pt) (h : cOwnC sc rec pt x es = some co) : PE X (.Call (.Name x p) es [] pos) (TD X.K F co) := by
  obtain ⟨m1, m2⟩ := findC_ok hf
  unfold cOwnC at h
  split at h
  · rename_i hb
    split at h
    · rename_i c2 e2
      cases h
      obtain ⟨a1, a2⟩ := args_ok ih e2
      exact d_mk (c.cpats pt m1) c.room c.cm.guards m2 (c.gl hb) a1 a2 (fun e => by subst e; cases e2; rfl)
    · cases h
  · cases h
theorem lz_ok (c : CtxOk Γ F k sc fb X) (ih : ∀ e c, rec e = some c → PE X e (TD X.K F c)) {x : Str} {es : List Expr} {co : C} {p : Pos} (h : cLz Γ sc rec x es = some co) : PE X (.Call (.Name x p) es [] pos) (TD X.K F co) := by
  unfold cLz at h
  split at h
  · split at h
    · rename_i hb
      obtain ⟨rfl, rfl, hb⟩ := hb
      simp only [Bool.and_eq_true] at hb
      obtain ⟨ca, e1, e2⟩ := Option.map_eq_some_iff.mp h
      subst e2
      obtain ⟨⟨⟨⟨⟨b1, b2⟩, b3⟩, b4⟩, b5⟩, b6⟩ := hb
      exact d_lz c.cm.calm (c.gl b1) (c.no b3) (c.gl b2) (c.no b4) b5 b6 (args_ok ih e1).1
    · cases h
  · cases h
theorem lns_ok (c : CtxOk Γ F k sc fb X) (ih : ∀ e c, rec e = some c → PE X e (TD X.K F c)) {x : Str} {es : List Expr} {co : C} {p : Pos} (h : cLns Γ sc rec x es = some co) : PE X (.Call (.Name x p) es [] pos) (TD X.K F co) := by
  unfold cLns at h
  split at h
  · split at h
    · rename_i hb
      obtain ⟨rfl, rfl, hb⟩ := hb
      simp only [Bool.and_eq_true] at hb
      obtain ⟨ca, e1, e2⟩ := Option.map_eq_some_iff.mp h
      subst e2
      obtain ⟨⟨⟨⟨b1, b2⟩, b3⟩, b4⟩, b5⟩ := hb
      exact d_lns c.cm.calm (c.gl b1) (c.no b3) (c.gl b2) (c.no b4) b5 (args_ok ih e1).1
    · cases h
  · cases h
theorem cmb_ok (c : CtxOk Γ F k sc fb X) (ih : ∀ e c, rec e = some c → PE X e (TD X.K F c)) {x : Str} {es : List Expr} {co : C} {p : Pos} (h : cCmb Γ sc rec x es = some co) : PE X (.Call (.Name x p) es [] pos) (TD X.K F co) := by
  unfold cCmb at h
  split at h
  · split at h
    · rename_i hb
      simp only [Bool.and_eq_true] at hb
      obtain ⟨ca, e1, e2⟩ := Option.map_eq_some_iff.mp h
      subst e2
      obtain ⟨⟨⟨⟨b1, b2⟩, b3⟩, b4⟩, b5⟩ := hb
      exact d_cmb (c.imps x (by simpa using b1)) (c.gl b2) b3 b4 (plainN_ok b5).1 (args_ok ih e1).1
    · cases h
  · cases h
theorem meth_ok (hu : X.A.units + 1 < cLine) (ih : ∀ e c, rec e = some c → PE X e (TD X.K F c)) {o : Expr} {m : Str} {apos cpos : Pos} {es : List Expr} {co : C} (h : cMeth rec o m apos es cpos = some co) : PE X (.Call (.Attribute o m apos) es [] cpos) (TD X.K F co) := by
  unfold cMeth at h
  split at h
  · cases h
  · rename_i hb
    have hb' : plainBase o = true ∧ (apos.endLine == cpos.line) = true := by
      rw [← Bool.and_eq_true]
      simpa using hb
    split at h
    · cases h
    · rename_i c1 e1
      split at h
      · split at h
        · rename_i hm
          cases h
          subst hm
          exact d_mth0 (ih _ _ e1) hb'.1 hb'.2
        · cases h
      · rename_i e
        split at h
        · cases h
        · rename_i c2 e2
          split at h
          · cases h
          · rename_i hs
            have hs' : notStar e = true := by simpa using hs
            have ha := a_cons (ih _ _ e2) (a_nil (X := X) (F := F)) (star_cons hs' [] X.env)
            split at h
            · rename_i hm
              cases h
              exact d_mth1 (.inl ⟨rfl, hm⟩) (ih _ _ e1) ha hb'.1 hb'.2 hs'
            · split at h
              · rename_i hm
                cases h
                exact d_mth1 (.inr (.inl ⟨rfl, hm⟩)) (ih _ _ e1) ha hb'.1 hb'.2 hs'
              · split at h
                · rename_i hm
                  cases h
                  exact d_mth1 (.inr (.inr ⟨rfl, hm⟩)) (ih _ _ e1) ha hb'.1 hb'.2 hs'
                · cases h
      · split at h
        · rename_i c d e2 e3
          split at h
          · rename_i hh
            cases h
            obtain ⟨hh, rfl⟩ := hh
            rw [Bool.and_eq_true] at hh
            exact d_dget hu (ih _ _ e1) (ih _ _ e2) (ih _ _ e3) hb'.1 hb'.2 hh.1 hh.2
          · cases h
        · cases h
      · cases h
theorem dsp_ok (ih : ∀ e c, rec e = some c → PE X e (TD X.K F c)) : ∀ {ks : List (Option Expr)} {vs : List Expr} {kks : List Key} {cs : C}, cDsp rec ks vs = some (kks, cs) → Dsp X F ks vs kks cs
  | [], [], _, _, h => by cases h; exact .nil
  | [], _ :: _, _, _, h => by cases h
  | none :: _, [], _, _, h => by cases h
  | some _ :: _, [], _, _, h => by cases h
  | none :: _, _ :: _, _, _, h => by cases h
  | some k :: ks, v :: vs, kks, cs, h => by
    unfold cDsp at h
    split at h
    · rename_i kk c kks' cs' e1 e2 e3
      cases h
      exact .cons e1 (ih _ _ e2) (dsp_ok ih e3)
    · cases h
theorem dict_ok (ih : ∀ e c, rec e = some c → PE X e (TD X.K F c)) {ks : List (Option Expr)} {vs : List Expr} {co : C} (h : cDict rec ks vs = some co) : PE X (.Dict ks vs pos) (TD X.K F co) := by
  unfold cDict at h
  split at h
  · rename_i kks cs e1
    split at h
    · rename_i hb
      cases h
      rw [Bool.and_eq_true, Bool.and_eq_true] at hb
      exact d_dsp (dsp_ok ih e1) (by simpa using hb.1.1) (of_decide_eq_true hb.1.2) hb.2
    · split at h
      · rename_i hb
        cases h
        rw [Bool.and_eq_true, List.isEmpty_iff, List.isEmpty_iff] at hb
        obtain ⟨rfl, rfl⟩ := hb
        exact d_dnew
      · cases h
  · cases h
theorem fold_ok {e : Expr} (h : noSetD e = true) (env : Env) : ∀ x, foldedSetIterable e env x = pure x := fun x => by
  cases e <;> first | rfl | cases h
theorem it_ok (c : CtxOk Γ F k sc fb X) (ih : ∀ e c, rec e = some c → PE X e (TD X.K F c)) {e tg : Expr} {ki : Ik} {as : C} (h : cIt Γ sc rec tg e = some (ki, as)) : PI X tg e (TI' X.K F ki as) ∧ ∀ x, foldedSetIterable e X.env x = pure x := by
  unfold cIt at h
  split at h
  · refine ⟨?_, fun x => rfl⟩
    split at h
    · rename_i hx
      obtain ⟨rfl, hb⟩ := hx
      rw [Bool.and_eq_true, Bool.and_eq_true] at hb
      split at h
      · rename_i ca e1
        cases h
        exact i_range1 (c.gl hb.1.1) (c.no hb.1.2) (args_ok ih e1).1 hb.2
      · cases h
    split at h
    · rename_i hx
      obtain ⟨rfl, hb⟩ := hx
      rw [Bool.and_eq_true, Bool.and_eq_true, Bool.and_eq_true] at hb
      split at h
      · rename_i ca e1
        cases h
        cases tg <;> first | exact i_enum (c.gl hb.1.1.2) (c.no hb.1.2) (args_ok ih e1).1 hb.2 | (cases hb.1.1.1)
      · cases h
    · split at h
      · rename_i ca e1
        cases h
        exact i_plain (ih _ _ e1)
      · cases h
  · refine ⟨?_, fun x => rfl⟩
    split at h
    · rename_i hx
      obtain ⟨rfl, hb⟩ := hx
      rw [Bool.and_eq_true, Bool.and_eq_true, Bool.and_eq_true] at hb
      split at h
      · rename_i ca e1
        cases h
        exact i_range2 (c.gl hb.1.1.1) (c.no hb.1.1.2) (args_ok ih e1).1 hb.1.2 hb.2
      · cases h
    split at h
    · rename_i hx
      obtain ⟨rfl, hb⟩ := hx
      rw [Bool.and_eq_true, Bool.and_eq_true, Bool.and_eq_true, Bool.and_eq_true] at hb
      split at h
      · rename_i ca e1
        cases h
        cases tg <;> first | exact i_zip (c.gl hb.1.1.1.2) (c.no hb.1.1.2) (args_ok ih e1).1 hb.1.2 hb.2 | (cases hb.1.1.1.1)
      · cases h
    · split at h
      · rename_i ca e1
        cases h
        exact i_plain (ih _ _ e1)
      · cases h
  · refine ⟨?_, fun x => rfl⟩
    split at h
    · rename_i hx
      obtain ⟨rfl, hb⟩ := hx
      split at h
      · rename_i ca e1
        cases h
        exact i_vals (ih _ _ e1) hb
      · cases h
    split at h
    · rename_i hx
      obtain ⟨rfl, hb⟩ := hx
      rw [Bool.and_eq_true] at hb
      split at h
      · rename_i ca e1
        cases h
        cases tg <;> first | exact i_items (ih _ _ e1) hb.2 | (cases hb.1)
      · cases h
    · split at h
      · rename_i ca e1
        cases h
        exact i_plain (ih _ _ e1)
      · cases h
  · refine ⟨?_, fun x => rfl⟩
    split at h
    · rename_i ca e1
      cases h
      split
      · exact i_keys (ih _ _ e1)
      · exact i_plain (ih _ _ e1)
    · cases h
  · split at h
    · rename_i hn
      refine ⟨?_, fold_ok hn _⟩
      split at h
      · rename_i ca e1
        cases h
        exact i_plain (ih _ _ e1)
      · cases h
    · cases h
/-- within a comprehension -/
theorem CtxOk.blk (c : CtxOk Γ F k sc fb X) {scope : Scope} (hk : scope.kind = ScopeKind.function) (s : Shared) (H : Hp) (C : Addr) (cl : List (Str × Addr)) (fp : List Addr) :
    CtxOk Γ F k (relS scope sc) (fun x => scope.names.lookup x == some .cell) (X.blk s H scope (compEnvC scope cl C X.env) fp) :=
  ⟨c.N, c.nd, by show relabel scope X.env = _; rw [← c.scp]; rfl, hk, ⟨c.cm.calm, c.cm.guards, c.cm.units⟩, fun x => rfl, c.bl, c.pats, c.room, c.consts, c.mpats, c.cpats, c.imps⟩
theorem ownOf_ok {N : List Str} {scope : Scope} : True := trivial
theorem lc_parts (c : CtxOk Γ F k sc fb X) {n : Nat} {rec' recT' : Expr → Option C} (ih : ∀ e c, rec e = some c → PE X e (TD X.K F c))
    {elt : Expr} {gs : List Comprehension} {scope : Scope} {co : C}
    (ih' : ∀ (X' : Cx), X'.K = X.K → CtxOk Γ F k (relS scope sc) (fun x => scope.names.lookup x == some .cell) X' → (∀ e c, rec' e = some c → PE X' e (TD X'.K F c)) ∧ ∀ e c, recT' e = some c → PT X' e (TT' X'.K F c))
    (h : cLc Γ sc n rec rec' recT' elt gs scope = some co) :
    ∃ tg it ifs t ki as cc e, gs = [⟨tg, it, ifs, 0⟩] ∧ co = .lc ((ownOf Γ.N scope).map (·.2)) t ki as cc e ∧ PI X tg it (TI' X.K F ki as) ∧ BlkOk X.N X.env.scope scope (ownOf Γ.N scope) ∧ (∀ i ∈ t.vars, i ∈ (ownOf Γ.N scope).map (·.2)) ∧
      (∀ (s : Shared) (H : Hp) (C : Addr) (cl : List (Str × Addr)) (fp : List Addr), PG (X.blk s H scope (compEnvC scope cl C X.env) fp) tg (TG' X.K t)) ∧ (∀ (s : Shared) (H : Hp) (C : Addr) (cl : List (Str × Addr)) (fp : List Addr), PTs (X.blk s H scope (compEnvC scope cl C X.env) fp) ifs (TT' X.K F cc)) ∧
      (∀ (s : Shared) (H : Hp) (C : Addr) (cl : List (Str × Addr)) (fp : List Addr), PE (X.blk s H scope (compEnvC scope cl C X.env) fp) elt (TD X.K F e)) ∧ ∀ x, foldedSetIterable it X.env x = pure x := by
  unfold cLc at h
  split at h
  · rename_i tg it ifs
    split at h
    · cases h
    · rename_i hb
      have ok : BlkOk X.N X.env.scope scope (ownOf Γ.N scope) := blkOk_by (by rw [c.N, c.scp]; simpa using hb)
      split at h
      · rename_i ki as t e e1 e2 e3
        split at h
        · cases h
        · rename_i hv
          have hv' : ∀ i ∈ t.vars, i ∈ (ownOf Γ.N scope).map (·.2) := by
            have : (t.vars.all fun i => ((ownOf Γ.N scope).map (·.2)).contains i) = true := by simpa using hv
            intro i hi
            have := List.all_eq_true.mp this i hi
            simpa using this
          obtain ⟨i1, i2⟩ := it_ok c ih (tg := tg) e1
          have hg : ∀ (s : Shared) (H : Hp) (C : Addr) (cl : List (Str × Addr)) (fp : List Addr), PG (X.blk s H scope (compEnvC scope cl C X.env) fp) tg (TG' X.K t) := fun s H C cl fp => cTg_ok (c.blk ok.kind s H C cl fp) n tg t e2
          have he : ∀ (s : Shared) (H : Hp) (C : Addr) (cl : List (Str × Addr)) (fp : List Addr), PE (X.blk s H scope (compEnvC scope cl C X.env) fp) elt (TD X.K F e) := fun s H C cl fp => (ih' (X.blk s H scope (compEnvC scope cl C X.env) fp) rfl (c.blk ok.kind s H C cl fp)).1 _ _ e3
          split at h
          · cases h
            exact ⟨tg, it, [], t, ki, as, _, e, rfl, rfl, i1, ok, hv', hg, fun s H C cl fp => ts_nil, he, i2⟩
          · rename_i c1
            split at h
            · rename_i cc e4
              cases h
              exact ⟨tg, it, [c1], t, ki, as, cc, e, rfl, rfl, i1, ok, hv', hg, fun s H C cl fp => ts_one ((ih' (X.blk s H scope (compEnvC scope cl C X.env) fp) rfl (c.blk ok.kind s H C cl fp)).2 _ _ e4), he, i2⟩
            · cases h
          · cases h
      · cases h
  · cases h
theorem cLcA_cases {Γ : Gam} {sc : Scope} {n : Nat} {rec rec' recT' : Expr → Option C} {elt : Expr} {gs : List Comprehension} {scope : Scope} {c : C} (h : cLcA Γ sc n rec rec' recT' elt gs scope = some c) : cLc Γ sc n rec rec' recT' elt gs scope = some c ∨ cLc2 Γ sc n rec rec' recT' elt gs scope = some c := by
  unfold cLcA at h
  split at h
  · exact .inl h
  · exact .inr h
theorem tests_ok {X : Cx} {F : Fm} {recT : Expr → Option C} (ih : ∀ e c, recT e = some c → PT X e (TT' X.K F c)) : ∀ {ifs : List Expr} {c : C}, cTest recT ifs = some c → PTs X ifs (TT' X.K F c)
  | [], c, h => by cases h; exact ts_nil
  | [e], c, h => ts_one (ih _ _ h)
  | _ :: _ :: _, c, h => by cases h
theorem lc2_ok (c : CtxOk Γ F k sc fb X) {n : Nat} {rec' recT' : Expr → Option C} (ih : ∀ e c, rec e = some c → PE X e (TD X.K F c))
    {elt : Expr} {gs : List Comprehension} {scope : Scope} {co : C}
    (ih' : ∀ (X' : Cx), X'.K = X.K → CtxOk Γ F k (relS scope sc) (fun x => scope.names.lookup x == some .cell) X' → (∀ e c, rec' e = some c → PE X' e (TD X'.K F c)) ∧ ∀ e c, recT' e = some c → PT X' e (TT' X'.K F c))
    (h : cLc2 Γ sc n rec rec' recT' elt gs scope = some co) : PE X (.ListComp elt gs scope pos) (TD X.K F co) := by
  unfold cLc2 at h
  split at h
  · rename_i tg it ifs tg1 it1 ifs1
    split at h
    · cases h
    · rename_i hb
      rw [not_or] at hb
      have ok : BlkOk X.N X.env.scope scope (ownOf Γ.N scope) := blkOk_by (by rw [c.N, c.scp]; simpa using hb.1)
      split at h
      · rename_i ki as t cc ki1 as1 t1 cc1 e e1 e2 e3 e4 e5 e6 e7
        split at h
        · cases h
        · rename_i hv
          cases h
          have hv0 : ((t.vars.all fun i => ((ownOf Γ.N scope).map (·.2)).contains i) && t1.vars.all fun i => ((ownOf Γ.N scope).map (·.2)).contains i) = true := by simpa using hv
          rw [Bool.and_eq_true] at hv0
          have all : ∀ {vs : List Nat}, (vs.all fun i => ((ownOf Γ.N scope).map (·.2)).contains i) = true → ∀ i ∈ vs, i ∈ (ownOf Γ.N scope).map (·.2) := fun h i hi => by
            have := List.all_eq_true.mp h i hi
            simpa using this
          obtain ⟨i1, i2⟩ := it_ok c ih (tg := tg) e1
          exact d_lc2 c.cm.calm (by rw [c.N]; exact c.nd) i1 ok (all hv0.1) (all hv0.2) (fun s H C cl fp => cTg_ok (c.blk ok.kind s H C cl fp) n tg t e2) (fun s H C cl fp => tests_ok (ih' (X.blk s H scope (compEnvC scope cl C X.env) fp) rfl (c.blk ok.kind s H C cl fp)).2 e3)
            (fun s H C cl fp => (it_ok (c.blk ok.kind s H C cl fp) (ih' (X.blk s H scope (compEnvC scope cl C X.env) fp) rfl (c.blk ok.kind s H C cl fp)).1 (tg := tg1) e4).1) (fun s H C cl fp => cTg_ok (c.blk ok.kind s H C cl fp) n tg1 t1 e5) (fun s H C cl fp => tests_ok (ih' (X.blk s H scope (compEnvC scope cl C X.env) fp) rfl (c.blk ok.kind s H C cl fp)).2 e6)
            (fun s H C cl fp => (ih' (X.blk s H scope (compEnvC scope cl C X.env) fp) rfl (c.blk ok.kind s H C cl fp)).1 _ _ e7) i2 (fun env => fold_ok (by simpa using hb.2) env)
      · cases h
  · cases h
theorem plainT {e : Expr} (h : ∀ (o : UnaryOp) a p, e ≠ .UnaryOp o a p) (h2 : ∀ (o : PySem.BoolOp) a p, e ≠ .BoolOp o a p) (h3 : ∀ a b c p, e ≠ .Compare a b c p) (h4 : ∀ a b c p, e ≠ .IfExp a b c p) (env : Env) : ∀ whole, isTrue e env whole = (do let v ← whole; standAt e.pos; holding [v] (truthy v)) := fun whole => by
  cases e <;> first | rfl | exact absurd rfl (h _ _ _) | exact absurd rfl (h2 _ _ _) | exact absurd rfl (h3 _ _ _ _) | exact absurd rfl (h4 _ _ _ _)
end
/-- THE RULE for expressions and tests -/
theorem cE_ok {Γ : Gam} {F : Fm} {k : Nat} : ∀ (n : Nat) (sc : Scope) (fb : Str → Bool) (X : Cx), CtxOk Γ F k sc fb X → (∀ e c, cE Γ n sc fb false e = some c → PE X e (TD X.K F c)) ∧ ∀ e c, cE Γ n sc fb true e = some c → PT X e (TT' X.K F c) := by
  intro n
  induction n with
  | zero =>
    intro sc fb X _
    refine ⟨fun e c h => ?_, fun e c h => ?_⟩ <;> cases h
  | succ n ihn =>
    intro sc fb X cx
    obtain ⟨ih, ihT⟩ := ihn sc fb X cx
    constructor
    · intro e c h
      cases e with
      | Name x p => exact name_ok cx h
      | Constant cc j p => exact const_ok h
      | Tuple es j p =>
        replace h : (cArgs (cE Γ n sc fb false) es).map C.tup = some c := h
        cases e : cArgs (cE Γ n sc fb false) es with
        | none => rw [e] at h; cases h
        | some ca => rw [e] at h; cases h; exact d_tup (args_ok ih e).1
      | List es p =>
        replace h : (cArgs (cE Γ n sc fb false) es).map C.lst = some c := h
        cases e : cArgs (cE Γ n sc fb false) es with
        | none => rw [e] at h; cases h
        | some ca => rw [e] at h; cases h; exact d_lst (args_ok ih e).1
      | BinOp a o b p => exact bin_ok ih h
      | UnaryOp o a p => exact un_ok ih h
      | BoolOp o es p =>
        replace h : cBoolE (cE Γ n sc fb false) o es = some c := h
        cases o with
        | And => exact boolA_ok ih h
        | Or => exact boolO_ok ih h
      | Compare a os bs p => exact (cmp_ok cx ih h).1
      | IfExp d a b p => exact if_ok ih ihT h
      | Subscript a b p => exact sub_ok cx ih h
      | Call f es kws p =>
        replace h : cCallE Γ sc (cE Γ n sc fb false) f es kws p = some c := h
        unfold cCallE at h
        split at h
        · split at h
          · split at h
            · rename_i pt hpt
              exact ownC_ok cx ih hpt h
            · split at h
              · rename_i c1 hc1
                cases h
                exact lz_ok cx ih hc1
              · split at h
                · rename_i c1 hc1
                  cases h
                  exact lns_ok cx ih hc1
                · split at h
                  · rename_i c1 hc1
                    cases h
                    exact cmb_ok cx ih hc1
                  · exact call_ok cx ih h
          · exact call_ok cx ih h
        · split at h
          · split at h
            · rename_i pt hpt
              exact ownM_ok cx ih hpt h
            · exact meth_ok (by have := cx.cm.units; omega) ih h
          · cases h
        · cases h
      | ListComp elt gs scope p =>
        have main : ∀ c, cLcA Γ sc n (cE Γ n sc fb false) (cE Γ n (relS scope sc) (fun x => scope.names.lookup x == some .cell) false) (cE Γ n (relS scope sc) (fun x => scope.names.lookup x == some .cell) true) elt gs scope = some c → PE X (.ListComp elt gs scope p) (TD X.K F c) := fun c h => by
          rcases cLcA_cases h with h | h
          rotate_left
          · exact lc2_ok cx ih (fun X' hK c' => ihn _ _ X' c') h
          obtain ⟨tg, it, ifs, t, ki, as, cc, e, rfl, rfl, h1, h2, h3, h4, h5, h6, h7⟩ := lc_parts cx ih (fun X' hK c' => ihn _ _ X' c') h
          exact d_lc cx.cm.calm (by rw [cx.N]; exact cx.nd) h1 h2 h3 h4 h5 h6 h7
        rcases cLk_cases (show cLk Γ gs (cLcA Γ sc n _ _ _ elt gs scope) = some c from h) with h2 | ⟨i, c', ec, h2⟩
        · exact main c h2
        · subst ec
          exact d_lck (main c' h2)
      | Dict ks vs p => exact dict_ok ih h
      | Attribute e0 f p =>
        replace h : (if plainBase e0 = true then (cE Γ n sc fb false e0).map fun c => C.fld c f else none) = some c := h
        split at h
        · rename_i hb
          obtain ⟨ca, e1, e2⟩ := Option.map_eq_some_iff.mp h
          subst e2
          exact d_fld (ih _ _ e1) hb
        · cases h
      | _ => cases h
    · intro e c h
      cases e with
      | UnaryOp o a p =>
        cases o with
        | Not =>
          replace h : (cE Γ n sc fb true a).map C.tnot = some c := h
          cases e : cE Γ n sc fb true a with
          | none => rw [e] at h; cases h
          | some ca => rw [e] at h; cases h; exact t_not (ihT _ _ e)
        | _ => cases h
      | BoolOp o es p =>
        replace h : tBoolE (cE Γ n sc fb true) o es = some c := h
        cases o with
        | And => exact (tboolA_ok ihT h).pt
        | Or => exact (tboolO_ok ihT h).pt
      | Compare a os bs p => exact (cmp_ok cx ih h).2
      | IfExp d a b p => cases h
      | _ =>
        rename_i e0
        first
          | (obtain ⟨ca, e1, e2⟩ := Option.map_eq_some_iff.mp (show (cE Γ n sc fb false _).map C.tval = some c from h)
             subst e2
             exact t_val (ih _ _ e1) (fun _ => rfl))
          | cases h
end Cb

namespace Cb
open PySem PySem.Spec PyProof.Rows L2
/-! ## statements from the text -/
def cBlk (rec : Stmt → Option S) : List Stmt → Option S
  | [] => some .done
  | s :: ss => match rec s, cBlk rec ss with
    | some a, some b => some (.seq a b)
    | _, _ => none
/-- which stores are exchanged: two or three different local names on one line, values that are not all folded -/
def isName (sc : Scope) (line : Nat) : Expr → Option Str
  | .Name x p => if sc.names.lookup x = some .local ∧ (p.line == line) = true then some x else none
  | _ => none
def swapOk (vs : List Expr) : Bool := vs.all notStar && !(vs.all (foldedForSure 8)) && !(vs.all (constantsAlone 8))
theorem any_no {f : Expr → Bool} (hf : ∀ e, notStar e = true → f e = false) {vs : List Expr} (h : vs.all notStar = true) : vs.any f = false := by
  induction vs with
  | nil => rfl
  | cons v vs ih =>
    rw [List.all_cons, Bool.and_eq_true] at h
    rw [List.any_cons, ih h.2, hf v h.1]
    rfl
theorem isName_ok {sc : Scope} {l : Nat} {x y : Str} {p : Pos} (h : isName sc l (.Name x p) = some y) : sc.names.lookup x = some .local ∧ (p.line == l) = true := by
  simp only [isName] at h
  split at h
  · assumption
  · cases h
theorem not_true {b : Bool} (h : (!b) = true) : b = false := by cases b <;> first | rfl | cases h
theorem swap2 {env : Env} (hk : env.scope.kind = ScopeKind.function) {x y : Str} {px py pt pt2 : Pos} {kt k2 : Nat} {a b : Expr} (h1 : isName env.scope px.line (.Name x px) = some x) (h2 : isName env.scope px.line (.Name y py) = some y) (hn : x ≠ y) (hv : swapOk [a, b] = true) :
    swappedStores [.Tuple [.Name x px, .Name y py] kt pt] (.Tuple [a, b] k2 pt2) env = pure (some [x, y]) := by
  have hb : env.blockKind = .function := by unfold Env.blockKind; rw [hk]; rfl
  have k1 : env.kindOf x = some .local := (isName_ok h1).1
  obtain ⟨k2', l2⟩ : env.kindOf y = some .local ∧ _ := isName_ok h2
  unfold swapOk at hv
  rw [Bool.and_eq_true, Bool.and_eq_true] at hv
  have s2 := not_true hv.1.2
  have s3 := not_true hv.2
  have d : [x, y].eraseDups = [x, y] := by
    have : (y == x) = false := beq_eq_false_iff_ne.mpr (Ne.symm hn)
    simp [List.eraseDups_cons, this]
  unfold swappedStores
  simp only [List.length_cons, List.length_nil, hb, s2, s3, List.head?_cons, Option.map_some, Option.getD_some, Expr.pos, k1, k2', l2, List.filterMap_cons, List.filterMap_nil, BEq.rfl, d, Bool.and_self, if_true]
  rw [any_no (fun e he => by cases e <;> first | rfl | cases he) hv.1.1]
  rfl
theorem swap3 {env : Env} (hk : env.scope.kind = ScopeKind.function) {x y z : Str} {px py pz pt pt2 : Pos} {kt k2 : Nat} {a b c : Expr} (h1 : isName env.scope px.line (.Name x px) = some x) (h2 : isName env.scope px.line (.Name y py) = some y) (h3 : isName env.scope px.line (.Name z pz) = some z) (hn : x ≠ y) (hn2 : x ≠ z) (hn3 : y ≠ z) (hv : swapOk [a, b, c] = true) :
    swappedStores [.Tuple [.Name x px, .Name y py, .Name z pz] kt pt] (.Tuple [a, b, c] k2 pt2) env = pure (some [x, y, z]) := by
  have hb : env.blockKind = .function := by unfold Env.blockKind; rw [hk]; rfl
  have k1 : env.kindOf x = some .local := (isName_ok h1).1
  obtain ⟨k2', l2⟩ : env.kindOf y = some .local ∧ _ := isName_ok h2
  obtain ⟨k3', l3⟩ : env.kindOf z = some .local ∧ _ := isName_ok h3
  unfold swapOk at hv
  rw [Bool.and_eq_true, Bool.and_eq_true] at hv
  have s2 := not_true hv.1.2
  have s3 := not_true hv.2
  have d : [x, y, z].eraseDups = [x, y, z] := by
    have a1 : (y == x) = false := beq_eq_false_iff_ne.mpr (Ne.symm hn)
    have a2 : (z == x) = false := beq_eq_false_iff_ne.mpr (Ne.symm hn2)
    have a3 : (z == y) = false := beq_eq_false_iff_ne.mpr (Ne.symm hn3)
    simp [List.eraseDups_cons, a1, a2, a3]
  unfold swappedStores
  simp only [List.length_cons, List.length_nil, hb, s2, s3, List.head?_cons, Option.map_some, Option.getD_some, Expr.pos, k1, k2', k3', l2, l3, List.filterMap_cons, List.filterMap_nil, BEq.rfl, d, Bool.and_self, if_true]
  rw [any_no (fun e he => by cases e <;> first | rfl | cases he) hv.1.1]
  rfl
/-- no stores are exchanged: not two or three, not all local names of the line, or all values folded -/
def rowNames (sc : Scope) (ts : List Expr) : List Str := ts.filterMap fun
  | .Name id pos => if (sc.names.lookup id == some .local && pos.line == (ts.head?.map (·.pos.line)).getD 0) = true then some id else none
  | _ => none
def rowNone (sc : Scope) (ts vs : List Expr) : Bool := vs.all notStar && (!(ts.length == 2 || ts.length == 3) || vs.length != ts.length || (rowNames sc ts).length != ts.length || (rowNames sc ts).eraseDups.length != (rowNames sc ts).length || vs.all (foldedForSure 8))
theorem swapNone {env : Env} (hk : env.scope.kind = ScopeKind.function) {ts vs : List Expr} {kt k2 : Nat} {pt pt2 : Pos} (h : rowNone env.scope ts vs = true) : swappedStores [.Tuple ts kt pt] (.Tuple vs k2 pt2) env = pure none := by
  have hb : env.blockKind = .function := by unfold Env.blockKind; rw [hk]; rfl
  unfold rowNone at h
  rw [Bool.and_eq_true] at h
  have h2 := h.2
  unfold swappedStores
  simp only [hb]
  rw [any_no (fun e he => by cases e <;> first | rfl | cases he) h.1]
  by_cases c1 : (!(ts.length == 2 || ts.length == 3) || vs.length != ts.length) = true
  · rw [if_pos (by rw [c1]; rfl)]
  · have c1' := (Bool.not_eq_true _).mp c1
    rw [c1', Bool.false_or] at h2
    rw [if_neg (by rw [c1']; decide)]
    change (if ((rowNames env.scope ts).length != ts.length || (rowNames env.scope ts).eraseDups.length != (rowNames env.scope ts).length) = true then _ else _) = _
    by_cases c2 : ((rowNames env.scope ts).length != ts.length || (rowNames env.scope ts).eraseDups.length != (rowNames env.scope ts).length) = true
    · rw [if_pos c2]
    · have c2' := (Bool.not_eq_true _).mp c2
      rw [c2', Bool.false_or] at h2
      rw [if_neg c2, if_pos h2]
/-! ## blocks -/
def cSto2 (rec : Expr → Option C) (c : C) (ts : List Expr) : Option S := match ts with
  | [.Subscript o i _, .Subscript o2 i2 _] => (match rec o, rec i, rec o2, rec i2 with
    | some a, some b, some a2, some b2 => if (noSlice i && noSlice i2) = true then some (.sto2 c a b a2 b2) else none
    | _, _, _, _ => none)
  | _ => none
def cAsg (Γ : Gam) (sc : Scope) (fb : Str → Bool) (n : Nat) (rec : Expr → Option C) (tg e : Expr) : Option S :=
  match tg with
  | .Attribute o f _ => (match rec e, rec o with
    | some ce, some co => if noComp e = true then some (.sfd ce co f) else none
    | _, _ => none)
  | .Subscript o i _ => (match rec e, rec o, rec i with
    | some ce, some co, some ci => if (noComp e && noSlice i) = true then some (.sto ce co ci) else none
    | _, _, _ => none)
  | .Name y py => (match slot Γ.N y, rec e with
    | some i, some c => if locB sc fb y = false then none else (match e with
      | .ListComp _ gs scope cpos => if gs.length = 1 ∧ noLk c = true then some (.asg (.name i) c) else none
      | .SetComp .. => none
      | .DictComp .. => none
      | _ => some (.asg (.name i) c))
    | _, _ => none)
  | .Tuple ts kt pt => (match e with
    | .Tuple vs _ _ => if rowNone sc ts vs = true then (match cTg Γ sc fb n (.Tuple ts kt pt), rec e with
        | some t, some c => some (.asg t c)
        | _, some c => cSto2 rec c ts
        | _, _ => none) else (match ts, vs with
      | [.Name x px, .Name y py], [a, b] => (match slot Γ.N x, slot Γ.N y, cArgs rec [a, b] with
        | some i, some j, some c => if isName sc px.line (.Name x px) = some x ∧ isName sc px.line (.Name y py) = some y ∧ x ≠ y ∧ swapOk [a, b] = true ∧ i ≠ j then some (.par [i, j] c) else none
        | _, _, _ => none)
      | [.Name x px, .Name y py, .Name z pz], [a, b, d] => (match slot Γ.N x, slot Γ.N y, slot Γ.N z, cArgs rec [a, b, d] with
        | some i, some j, some l, some c => if isName sc px.line (.Name x px) = some x ∧ isName sc px.line (.Name y py) = some y ∧ isName sc px.line (.Name z pz) = some z ∧ x ≠ y ∧ x ≠ z ∧ y ≠ z ∧ swapOk [a, b, d] = true ∧ i ≠ j ∧ i ≠ l ∧ j ≠ l then some (.par [i, j, l] c) else none
        | _, _, _, _ => none)
      | _, _ => none)
    | _ => if noComp e = true then (match cTg Γ sc fb n (.Tuple ts kt pt), rec e with
        | some t, some c => some (.asg t c)
        | _, _ => none) else none)
  | _ => none
def cS (Γ : Gam) (sc : Scope) (fb : Str → Bool) (m : Nat) : Nat → Stmt → Option S
  | 0, _ => none
  | n + 1, s => match s with
    | .Assign [tg] e _ => cAsg Γ sc fb m (cE Γ m sc fb false) tg e
    | .AugAssign (.Name x _) o e _ => match bopOf o, slot Γ.N x, cE Γ m sc fb false e with
      | some b, some i, some c => if locB sc fb x = true ∧ b ≠ .pow then some (.aug i b c) else none
      | _, _, _ => none
    | .AugAssign (.Attribute a f _) o e _ => match bopOf o, cE Γ m sc fb false a, cE Γ m sc fb false e with
      | some b, some ca, some c => if b ≠ .pow then some (.afd ca f b c) else none
      | _, _, _ => none
    | .Expr e _ => match e with
      | .Constant (.str _) _ _ => some .pass
      | e => if noComp e = true then (cE Γ m sc fb false e).map .expr else none
    | .Return (some e) _ => (cE Γ m sc fb false e).map .ret
    | .Return none _ => some .retN
    | .If c a b _ => match cE Γ m sc fb true c, cBlk (cS Γ sc fb m n) a, cBlk (cS Γ sc fb m n) b with
      | some cc, some sa, some sb => some (.ite cc sa sb)
      | _, _, _ => none
    | .For tg it body [] _ => match cTg Γ sc fb m tg, cIt Γ sc (cE Γ m sc fb false) tg it, cBlk (cS Γ sc fb m n) body with
      | some t, some (k, as), some b => (match lockN Γ it with
        | some x => (slot Γ.N x).map fun i => .lck i (.loop t k as b)
        | none => some (.loop t k as b))
      | _, _, _ => none
    | .While c body [] _ => match cE Γ m sc fb true c, cBlk (cS Γ sc fb m n) body with
      | some cc, some b => some (.whil cc b)
      | _, _ => none
    | .Break _ => some .brk
    | .Continue _ => some .cont
    | .Pass _ => some .pass
    | .Raise .. => some .never
    | _ => none
section
variable {Γ : Gam} {F : Fm} {k : Nat} {sc : Scope} {fb : Str → Bool} {X : Cx}
theorem blk_ok {rec : Stmt → Option S} (ih : ∀ s c, rec s = some c → PS X s (TS' X.K F c)) : ∀ {ss : List Stmt} {c : S}, cBlk rec ss = some c → PSs X ss (TS' X.K F c)
  | [], c, h => by cases h; exact s_nil
  | s :: ss, c, h => by
    unfold cBlk at h
    split at h
    · rename_i a b e1 e2
      cases h
      exact s_cons (ih _ _ e1) (blk_ok ih e2)
    · cases h
theorem slot_ne {N : List Str} {x y : Str} {i j : Nat} (h1 : slot N x = some i) (h2 : slot N y = some j) (h : x ≠ y) : i ≠ j := by
  rintro rfl
  have a := slot_ok h1
  have b := slot_ok h2
  rw [a] at b
  exact h (Option.some.inj b)
theorem asg_ok (cx : CtxOk Γ F k sc fb X) (n m : Nat) {tg e : Expr} {c : S} {pos : Pos} (h : cAsg Γ sc fb n (cE Γ m sc fb false) tg e = some c) : PS X (.Assign [tg] e pos) (TS' X.K F c) := by
  have ih := (cE_ok (F := F) (k := k) m sc fb X cx).1
  have nd : X.N.Nodup := by rw [cx.N]; exact cx.nd
  have kd : X.env.scope.kind = ScopeKind.function := by rw [cx.scp]; exact cx.kind
  unfold cAsg at h
  split at h
  · split at h
    · rename_i e1 e2
      split at h
      · rename_i hb
        cases h
        exact s_sfd (ih _ _ e2) (ih _ _ e1) hb
      · cases h
    · cases h
  · split at h
    · rename_i e1 e2 e3
      split at h
      · rename_i hb
        cases h
        rw [Bool.and_eq_true] at hb
        exact s_sto cx.u1 (ih _ _ e1) (ih _ _ e2) (ih _ _ e3) hb.1 hb.2
      · cases h
    · cases h
  · rename_i y py
    split at h
    · rename_i i ce e1 e2
      split at h
      · cases h
      · rename_i hl
        obtain ⟨l1, l2⟩ := loc_ok (by simpa using hl)
        have hi : X.N[i]? = some y := by rw [cx.N]; exact slot_ok e1
        have hx : L2.Loc X.env.scope y := by rw [cx.scp]; exact l1
        have hf : X.fn y = true ∨ X.env.scope.names.lookup y = some .local := by rw [cx.fn, cx.scp]; exact l2
        have gen : noComp e = true → PS X (.Assign [.Name y py] e pos) (TS' X.K F (.asg (.name i) ce)) := fun hn => s_asg (ih _ _ e2) (g_name nd hi hx hf) hn rfl rfl
        split at h
        · rename_i elt gs scope cpos
          split at h
          · rename_i hg1
            obtain ⟨hg1, hnl⟩ := hg1
            obtain ⟨g0, rfl⟩ := List.length_eq_one_iff.mp hg1
            cases h
            cases m with
            | zero => cases e2
            | succ m =>
              have e2 : cLcA Γ sc m (cE Γ m sc fb false) (cE Γ m (relS scope sc) (fun x => scope.names.lookup x == some .cell) false) (cE Γ m (relS scope sc) (fun x => scope.names.lookup x == some .cell) true) elt [g0] scope = some ce := by
                rcases cLk_cases (show cLk Γ [g0] (cLcA Γ sc m _ _ _ elt [g0] scope) = some ce from e2) with h | ⟨i, c', ec, h⟩
                · exact h
                · subst ec
                  cases hnl
              obtain ⟨tg, it, ifs, t, ki, as, cc, e, eg, rfl, h1, h2, h3, h4, h5, h6, h7⟩ := lc_parts cx (cE_ok (F := F) (k := k) m sc fb X cx).1 (fun X' hK c' => cE_ok m _ _ X' c') (show cLc Γ sc m (cE Γ m sc fb false) _ _ elt [g0] scope = some ce from e2)
              cases eg
              cases hsw : swB X.env.scope scope y py cpos with
              | true => exact s_lcT cx.cm.calm nd hi kd hsw h1 h2 h3 h4 h5 h6 h7
              | false => exact s_lcF nd hi hx hf kd hsw (d_lc cx.cm.calm nd h1 h2 h3 h4 h5 h6 h7)
          · cases h
        · cases h
        · cases h
        · rename_i n1 n2 n3
          cases h
          exact gen (by cases e <;> first | rfl | exact absurd rfl (n1 _ _ _ _) | exact absurd rfl (n2 _ _ _ _) | exact absurd rfl (n3 _ _ _ _ _))
    · cases h
  · rename_i ts kt pt
    split at h
    · rename_i vs k2 p2
      split at h
      · rename_i hr
        split at h
        · rename_i t ce e1 e2
          cases h
          exact s_asg (ih _ _ e2) (cTg_ok cx n _ _ e1) rfl (swapNone kd (by rw [cx.scp]; exact hr)) rfl
        · rename_i ce e2 _
          unfold cSto2 at h
          split at h
          · split at h
            · rename_i a b a2 b2 f1 f2 f3 f4
              split at h
              · rename_i hn
                cases h
                rw [Bool.and_eq_true] at hn
                exact s_sto2 cx.cm.calm cx.u1 (ih _ _ e2) (ih _ _ f1) (ih _ _ f2) (ih _ _ f3) (ih _ _ f4) rfl hn.1 hn.2 (swapNone kd (by rw [cx.scp]; exact hr))
              · cases h
            · cases h
          · cases h
        · cases h
      · split at h
        · rename_i x px y py a b
          split at h
          · rename_i i j ca e1 e2 e3
            split at h
            · rename_i hb
              cases h
              obtain ⟨b1, b2, b3, b4, b5⟩ := hb
              exact s_par2 cx.cm.calm nd (by rw [cx.N]; exact slot_ok e1) (by rw [cx.N]; exact slot_ok e2) b5 (by rw [cx.scp]; exact (isName_ok b1).1) (by rw [cx.scp]; exact (isName_ok b2).1) (args_ok ih e3).1 (swap2 kd (by rw [cx.scp]; exact b1) (by rw [cx.scp]; exact b2) b3 b4)
            · cases h
          · cases h
        · rename_i x px y py z pz a b d
          split at h
          · rename_i i j l ca e1 e2 e3 e4
            split at h
            · rename_i hb
              cases h
              obtain ⟨b1, b2, b3, b4, b5, b6, b7, b8, b9, b10⟩ := hb
              exact s_par3 cx.cm.calm nd (by rw [cx.N]; exact slot_ok e1) (by rw [cx.N]; exact slot_ok e2) (by rw [cx.N]; exact slot_ok e3) b8 b9 b10 (by rw [cx.scp]; exact (isName_ok b1).1) (by rw [cx.scp]; exact (isName_ok b2).1) (by rw [cx.scp]; exact (isName_ok b3).1) (args_ok ih e4).1
                (swap3 kd (by rw [cx.scp]; exact b1) (by rw [cx.scp]; exact b2) (by rw [cx.scp]; exact b3) b4 b5 b6 b7)
            · cases h
          · cases h
        · cases h
    · rename_i hnt
      split at h
      · rename_i hn
        split at h
        · rename_i t ce e1 e2
          cases h
          exact s_asg (ih _ _ e2) (cTg_ok cx n _ _ e1) hn (row_no (by cases e <;> first | rfl | exact absurd rfl (hnt _ _ _)) _) rfl
        · cases h
      · cases h
  · cases h
theorem cS_ok (cx : CtxOk Γ F k sc fb X) (hp : PassesOwn (model X.prog X.w) X.A X.env X.xe) (m : Nat) : ∀ (n : Nat) (s : Stmt) (c : S), cS Γ sc fb m n s = some c → PS X s (TS' X.K F c) := by
  intro n
  induction n with
  | zero => intro s c h; cases h
  | succ n ih =>
    intro s c h
    obtain ⟨ihE, ihT⟩ := cE_ok (F := F) (k := k) m sc fb X cx
    cases s with
    | Assign ts e p =>
      match ts, h with
      | [tg], h => exact asg_ok cx m m (show cAsg Γ sc fb m (cE Γ m sc fb false) tg e = some c from h)
    | AugAssign t o e p =>
      cases t with
      | Name x px =>
        simp only [cS] at h
        split at h
        · rename_i b i ce e1 e2 e3
          split at h
          · rename_i hb
            cases h
            obtain ⟨l1, l2⟩ := loc_ok hb.1
            rw [← bop_ok e1]
            exact s_aug b hb.2 (by rw [cx.N]; exact cx.nd) (by rw [cx.N]; exact slot_ok e2) (by rw [cx.scp]; exact l1) (by rw [cx.fn, cx.scp]; exact l2) (ihE _ _ e3)
          · cases h
        · cases h
      | Attribute a f px =>
        simp only [cS] at h
        split at h
        · rename_i b ca ce e1 e2 e3
          split at h
          · rename_i hb
            cases h
            rw [← bop_ok e1]
            exact s_afd b hb (ihE _ _ e2) (ihE _ _ e3)
          · cases h
        · cases h
      | _ => cases h
    | Expr e p =>
      simp only [cS] at h
      split at h
      · cases h
        exact s_doc
      · split at h
        · rename_i hn
          obtain ⟨ca, e1, e2⟩ := Option.map_eq_some_iff.mp h
          subst e2
          exact s_expr (ihE _ _ e1) hn
        · cases h
    | Return v p =>
      cases v with
      | none => cases h; exact s_retN
      | some e =>
        obtain ⟨ca, e1, e2⟩ := Option.map_eq_some_iff.mp (show (cE Γ m sc fb false e).map S.ret = some c from h)
        subst e2
        exact s_ret (ihE _ _ e1)
    | If d a b p =>
      simp only [cS] at h
      split at h
      · rename_i cc sa sb e1 e2 e3
        cases h
        exact s_if (ihT _ _ e1) (blk_ok ih e2) (blk_ok ih e3)
      · cases h
    | For tg it body orelse p =>
      cases orelse with
      | nil =>
        simp only [cS] at h
        split at h
        · rename_i t ki as b e1 e2 e3
          obtain ⟨i1, i2⟩ := it_ok cx ihE (tg := tg) e2
          have main := s_for (pos := p) hp cx.cm.calm i1 (cTg_ok cx m _ _ e1) (blk_ok ih e3) i2
          split at h
          · obtain ⟨i, _, e5⟩ := Option.map_eq_some_iff.mp h
            subst e5
            exact s_lck main
          · cases h
            exact main
        · cases h
      | cons _ _ => cases h
    | While d body orelse p =>
      cases orelse with
      | nil =>
        simp only [cS] at h
        split at h
        · rename_i cc b e1 e2
          cases h
          exact s_while hp (ihT _ _ e1) (blk_ok ih e2)
        · cases h
      | cons _ _ => cases h
    | Break p => cases h; exact s_brk
    | Continue p => cases h; exact s_cont
    | Pass p => cases h; exact s_pass
    | Raise a b p => cases h; exact s_never
    | _ => cases h
end
end Cb

namespace Cb
open PySem PySem.Spec PyProof.Rows L2
/-! ## how arguments bind -/
theorem kw_loop {α : Type} (g : Str × Value → (List (Str × Value) × α) → PySem.Sem (ForInStep (List (Str × Value) × α))) (ok : Str → Prop)
    (hg : ∀ p s, ok p.1 → (s.1.lookup p.1) = none → g p s = pure (ForInStep.yield (s.1 ++ [p], s.2))) :
    ∀ (kw : List (Str × Value)) (s : List (Str × Value) × α), (∀ p ∈ kw, ok p.1) → (kw.map (·.1)).Nodup → (∀ p ∈ kw, s.1.lookup p.1 = none) → forIn kw s g = pure (s.1 ++ kw, s.2)
  | [], s, _, _, _ => by rw [List.forIn_nil, List.append_nil]
  | p :: kw, s, h1, h2, h3 => by
    rw [List.map_cons, List.nodup_cons] at h2
    rw [List.forIn_cons, hg p s (h1 p List.mem_cons_self) (h3 p List.mem_cons_self), pure_bind]
    show forIn kw (s.1 ++ [p], s.2) g = _
    rw [kw_loop g ok hg kw (s.1 ++ [p], s.2) (fun q hq => h1 q (List.mem_cons_of_mem _ hq)) h2.2 fun q hq => ?_]
    · simp
    · show (s.1 ++ [p]).lookup q.1 = none
      rw [List.lookup_append, h3 q (List.mem_cons_of_mem _ hq)]
      have : ¬ q.1 = p.1 := fun e => h2.1 (by rw [← e]; exact List.mem_map_of_mem hq)
      simp only [List.lookup, Option.none_or]
      rw [beq_eq_false_iff_ne.mpr this]
theorem lookup_zip {α : Type} : ∀ {L : List Str} {vs : List α} {j : Nat} {n : Str} {v : α}, L.Nodup → L[j]? = some n → vs[j]? = some v → (L.zip vs).lookup n = some v
  | [], _, _, _, _, _, h, _ => by simp at h
  | _ :: _, [], _, _, _, _, _, h => by simp at h
  | l :: L, w :: vs, 0, n, v, _, h1, h2 => by
    obtain rfl : l = n := by simpa using h1
    obtain rfl : w = v := by simpa using h2
    simp [List.lookup]
  | l :: L, w :: vs, j + 1, n, v, hn, h1, h2 => by
    rw [List.nodup_cons] at hn
    have e : ¬ n = l := fun e => hn.1 (by rw [← e]; exact List.mem_of_getElem? (by simpa using h1))
    rw [List.zip_cons_cons, List.lookup_cons, beq_eq_false_iff_ne.mpr e]
    exact lookup_zip hn.2 (by simpa using h1) (by simpa using h2)
theorem lookup_perm {α : Type} {L : List Str} {vs : List α} (hn : L.Nodup) : ∀ {perm : List Nat} {ps : List Str} {xs : List α}, permL L perm = some ps → permL vs perm = some xs → (ps.filterMap fun n => ((L.zip vs).lookup n).map fun v => (n, v)) = ps.zip xs ∧ ∀ n ∈ ps, ((L.zip vs).lookup n).isSome = true
  | [], ps, xs, h1, h2 => by
    cases h1
    cases h2
    exact ⟨rfl, fun n h => by cases h⟩
  | j :: perm, ps, xs, h1, h2 => by
    unfold permL at h1 h2
    split at h1
    · rename_i n ps' e1 e2
      split at h2
      · rename_i v xs' e3 e4
        cases h1
        cases h2
        obtain ⟨i1, i2⟩ := lookup_perm hn e2 e4
        have hl := lookup_zip hn e1 e3
        refine ⟨?_, fun m hm => ?_⟩
        · rw [List.filterMap_cons, hl, List.zip_cons_cons, ← i1]
          rfl
        · rcases List.mem_cons.mp hm with rfl | hm
          · rw [hl]
            rfl
          · exact i2 m hm
      · cases h2
    · cases h1
theorem lookup_none_of {α : Type} : ∀ {L : List Str} {vs : List α} {n : Str}, n ∉ L → (L.zip vs).lookup n = none
  | [], _, _, _ => rfl
  | _ :: _, [], _, _ => rfl
  | l :: L, v :: vs, n, h => by
    rw [List.mem_cons, not_or] at h
    rw [List.zip_cons_cons, List.lookup_cons, beq_eq_false_iff_ne.mpr h.1]
    exact lookup_none_of h.2
theorem zip_take {α : Type} : ∀ (ps : List Str) (us : List α), ps.zip us = (ps.take us.length).zip us
  | [], _ => by simp
  | _ :: _, [] => by simp
  | p :: ps, u :: us => by simp [zip_take ps us]
/-- plain parameters -/
def plainArgs (as : List Arg) : Arguments := { posonlyargs := [], args := as, vararg := none, kwonlyargs := [], kw_defaults := [], kwarg := none, defaults := [] }
/-- the names and the pattern fit -/
def patFit (ps : List Str) (p : Pat) : Prop := permL (ps.take p.npos ++ p.ks) p.perm = some ps ∧ (ps.take p.npos ++ p.ks).Nodup ∧ (∀ k ∈ p.ks, k ∈ ps) ∧ p.npos ≤ ps.length ∧ (p.name == ("__debug__" : Str)) = false
instance (ps : List Str) (p : Pat) : Decidable (patFit ps p) := inferInstanceAs (Decidable (_ ∧ _))
theorem bind_gen {x qual : Str} {as : List Arg} {body : List Stmt} {scope : Scope} {kV doc pm cdv ct : Value} {an : Option Addr} {ps : List Str} (hps : as.map (·.arg) = ps) {p : Pat} (hp : patFit ps p) {us ws xs : List Value} (hu : us.length = p.npos) (hw : ws.length = p.ks.length) (hx : permL (us ++ ws) p.perm = some xs) :
    bindArgs (PySem.W.fnOf x qual (plainArgs as) body scope .none kV doc pm an cdv ct) ⟨us, p.ks.zip ws⟩ = pure (ps.zip xs) := by
  obtain ⟨p1, p2, p3, p4, _⟩ := hp
  have hz : ps.zip us ++ p.ks.zip ws = (ps.take p.npos ++ p.ks).zip (us ++ ws) := by
    rw [zip_take, hu, List.zip_append (by rw [List.length_take, hu]; omega)]
  obtain ⟨r1, r2⟩ := lookup_perm (vs := us ++ ws) p2 p1 hx
  have hmem : ∀ q ∈ p.ks.zip ws, q.1 ∈ p.ks := fun q hq => (List.of_mem_zip (a := q.1) (b := q.2) hq).1
  have hkeys : (p.ks.zip ws).map (·.1) = p.ks := by
    rw [List.map_fst_zip]
    omega
  unfold bindArgs PySem.W.fnOf plainArgs
  simp only [List.map_nil, List.nil_append, List.append_nil, Option.isSome_none, Option.isNone_none, hps]
  rw [kw_loop _ (fun k => k ∈ ps) (fun q s hq hl => ?_) _ _ (fun q hq => p3 _ (hmem q hq)) (by rw [hkeys]; exact (List.nodup_append.mp p2).2.1) (fun q hq => ?_)]
  · rw [pure_bind]
    have e0 : seqItems? Value.none = pure none := rfl
    rw [e0, pure_bind]
    have e1 : (decide (us.length > ps.length) && true) = false := by
      rw [Bool.and_true]
      exact decide_eq_false (by omega)
    simp only [e1, Bool.false_eq_true, if_false, hz]
    have e2 : (List.filter (fun n => (((ps.take p.npos ++ p.ks).zip (us ++ ws)).lookup n).isNone) (ps.take (ps.length - 0))).isEmpty = true := by
      rw [List.isEmpty_iff, List.filter_eq_nil_iff]
      intro n hn
      have := r2 n (List.mem_of_mem_take hn)
      cases e : ((ps.take p.npos ++ p.ks).zip (us ++ ws)).lookup n with
      | none => rw [e] at this; cases this
      | some v => simp
    have e3 : (none : Option (Array Value)).getD #[] = #[] := rfl
    simp only [e3, List.drop_nil, List.length_nil, Nat.sub_zero] at e2 ⊢
    simp only [e2, Bool.not_true, Bool.false_eq_true, if_false]
    simp only [List.zip_nil_right, List.forIn_nil, pure_bind, List.isEmpty_nil, Bool.not_true, Bool.false_eq_true, if_false]
    rw [← r1]
  · have h1 : (ps.contains q.1 || ([] : List Str).contains q.1) = true := by
      rw [Bool.or_eq_true]
      left
      simpa using hq
    simp only [h1, if_true, hl, Option.isSome_none, Bool.false_eq_true, if_false]
  · show (ps.zip us).lookup q.1 = none
    rw [zip_take, hu]
    refine lookup_none_of fun hm => ?_
    exact (List.nodup_append.mp p2).2.2 _ hm _ (hmem q hq) rfl
end Cb

namespace Cb
open PySem PySem.Spec PyProof.Rows L2
section
variable {P : Program} {w : World} {K : PySem.W.Frag} {mg : Str → Option Value} {base : Heap} {F : Fm} {k : Nat}
theorem start_env {ι : List Addr} {H : Hp} {N : List Str} {ds : List D} {vs : List V} (r : DRs K ι H ds vs) (hl : vs.length ≤ N.length) : EnvR K ι H (L2.start N vs) (startD N.length ds) := by
  have e := r.len
  refine ⟨?_, fun i d h => ?_⟩
  · unfold L2.start startD
    simp only [List.length_append, List.length_map, List.length_replicate]
    omega
  · unfold startD at h
    unfold L2.start
    by_cases hi : i < ds.length
    · rw [List.getElem?_append_left (by simpa using hi), List.getElem?_map] at h
      cases ed : ds[i]? with
      | none => rw [ed] at h; cases h
      | some d' =>
        rw [ed] at h
        cases h
        obtain ⟨v, ev, rv⟩ := r.get ed
        exact ⟨v, by rw [List.getElem?_append_left (by rw [List.length_map]; omega), List.getElem?_map, ev]; rfl, rv⟩
    · rw [List.getElem?_append_right (by simpa using hi), List.getElem?_replicate] at h
      split at h <;> cases h
/-- a def by the code of its body -/
theorem fn_body {x qual : Str} {st : Stmt} {f : Addr} {fd : FuncData} {Γ : Gam} {ps : List Str} {c : S} {m n : Nat} (Fu : Fun K x qual st f fd) (S : FnScope Γ.N ps (defScope st)) (hc : cBlk (cS Γ (defScope st) (fun _ => true) m n) (defBody st) = some c)
    (hbl : ∀ x ∈ Γ.bl, mg x = none) (hpat : ∀ p ∈ Γ.pats, PatOk P w K mg base F k p) (hcon : ∀ c ∈ Γ.consts, ∃ v u, mg c.1 = some u ∧ RelV v u ∧ (∀ H, DR K [] H c.2 v) ∧ (c.1 == ("__debug__" : Str)) = false)
    (hmp : ∀ p ∈ Γ.mpats, MPatOk P w K mg base F k p) (hcp : ∀ p ∈ Γ.cpats, CPatOk P w K mg base F k p) (himp : ∀ x ∈ Γ.imps, mg x = some (.builtin "math.comb")) :
    FnG P w K mg base (k + 1) f fd ps (fun vs H R => ∃ ι ds st0 Q, DRs K ι H ds vs ∧ StR K ι H st0 ∧ wps F c (startD Γ.N.length ds) st0 { nx := fun _ st1 => Q .non st1, rt := Q } ∧ Post K ι H Q R) := by
  obtain ⟨oc, od, kV, doc, pm, an, cdv, ct, osl, rfl, lk, hcd⟩ := Fu.ex
  refine ⟨fun A outer s H args us vs R hr hgd e0 hb r hl ⟨ι, ds, st0, Q, rd, rs, hw, hp⟩ => ?_⟩
  have KX : K.In s.heap := e0.mod.kin.keeps fun b o e => (e0.bs b o e).1
  have lim : s.heap.NoLimit := e0.mod.nolimit.keeps fun b o e => (e0.bs b o e).1
  have hps : ps.length ≤ Γ.N.length := by
    have h1 := congrArg List.length S.pre
    rw [List.length_take] at h1
    omega
  refine codeAny_call_function hr.depth (KX _ _ lk) rfl S.co S.gen rfl (PySem.W.codeRec_of KX hcd) (hb _ _ _ _ ?_)
  refine wpAny_newFunctionEnv_cells S.kind (fun ⟨n, v⟩ hy => ?_) fun env he s1 xin => ?_
  · rcases S.par n (List.of_mem_zip hy).1 with q | q
    · exact .inl q
    · exact .inr ⟨q, PySem.W.cellsFrom_some _ _ _ (.inl q)⟩
  subst he
  refine ⟨lim.keeps xin.toInCall.keep, codeAny_func ?_⟩
  have I0 : Inv (cxOf CX0 P w K mg base Γ.N qual (defScope st) f cdv A outer s H E0) [] (L2.start Γ.N vs) H s1 := inv_start S hr.hd e0 hl r xin
  have hr' := hr.deeper (envOfC qual (defScope st) s.heap.objs.size f cdv)
  have cx : CtxOk Γ F k (defScope st) (fun _ => true) (cxOf CX0 P w K mg base Γ.N qual (defScope st) f cdv A outer s H E0).nox :=
    ⟨rfl, S.nd, rfl, S.kind, ⟨rfl, hgd, by have := hr'.un; show (A.deeper _).units + 66 < cLine; omega⟩, fun _ => rfl, hbl, hpat, hr', hcon, hmp, hcp, himp⟩
  have hbody := (blk_ok (cS_ok (F := F) (k := k) cx PassesOwn.never m n) hc).nox
  refine wpAny_mono (hbody.run [] s1 (L2.start Γ.N vs) H { nx := fun _ H' => R .non H', rt := R } I0 ⟨ι, _, st0, _, start_env rd (by omega), rs, hw, ⟨fun σ' H' ι' ρ' st' h1 h2 h3 h4 q => hp .non H' ι' .non st' h1 h2 .non h4 q, hp, fun _ _ _ _ _ _ _ _ _ q => q.elim, fun _ _ _ _ _ _ _ _ _ q => q.elim⟩⟩) (fun fl s' hs => ?_) fun e s' hs => hs
  have fin : ∀ {σ' : L2.St} {H' : Hp} {v : V} {u : Value}, Inv (cxOf CX0 P w K mg base Γ.N qual (defScope st) f cdv A outer s H E0) [] σ' H' s' → RelV v u → R v H' → CE outer P w H s R u s' :=
    fun {σ' H' v u} J rv q => ⟨v, H', J.os, J.bare, J.base, J.hok, rv, q⟩
  match fl, hs with
  | .ret u, ⟨v, σ', H', J, rv, q⟩ => exact fin J rv q
  | .next, ⟨σ', H', J, q⟩ => exact fin (v := V.non) (u := Value.none) J rfl q
  | .brk, ⟨_, _, _, q⟩ => exact q.elim
  | .cont, ⟨_, _, _, q⟩ => exact q.elim
end

/-! ## a whole program -/
structure Def where
  name : Str
  st : Stmt
  N : List Str
  ps : List Str
  body : S
  cls : Option Str := none
  qual : Str := name
structure Prg where
  defs : List Def
  pats : List Pat
  bl : List Str
  consts : List (Str × D)
  mpats : List MPat := []
  cpats : List CPat := []
  klass : List Kl := []
  imps : List Str := []
  lck : List Str := []
def Prg.T (p : Prg) (f : Nat) : Option Fd := (p.defs[f]?).map fun d => ⟨d.ps.length, d.N.length, d.body⟩
def Prg.gam (p : Prg) (d : Def) : Gam := ⟨d.N, p.pats, p.bl, p.consts, p.mpats, p.cpats, p.imps, p.lck⟩
/-- what the kernel checks of a def -/
structure DefOk (p : Prg) (d : Def) : Prop where
  sc : FnScope d.N d.ps (defScope d.st)
  code : cBlk (cS (p.gam d) (defScope d.st) (fun _ => true) 40 40) (defBody d.st) = some d.body
  args : ∃ as : List Arg, defArgs d.st = plainArgs as ∧ as.map (·.arg) = d.ps
structure PrgOk (p : Prg) : Prop where
  defs : ∀ d ∈ p.defs, DefOk p d
  pats : ∀ q ∈ p.pats, ∃ d, p.defs[q.f]? = some d ∧ d.name = q.name ∧ d.cls = none ∧ patFit d.ps q
  mpats : ∀ q ∈ p.mpats, q.cls ∈ p.klass ∧ ∃ d, p.defs[q.f]? = some d ∧ d.name = q.name ∧ d.cls = some q.cls.name ∧ patFit d.ps ⟨q.name, q.npos + 1, [], q.f, List.range (q.npos + 1)⟩
  cpats : ∀ q ∈ p.cpats, q.cls ∈ p.klass ∧ ∃ d, p.defs[q.f]? = some d ∧ d.name = "__init__" ∧ d.cls = some q.cls.name ∧ (q.cls.name == ("__debug__" : Str)) = false ∧ patFit d.ps ⟨"__init__", q.npos + 1, [], q.f, List.range (q.npos + 1)⟩
/-- where a def stands: in the module, in a class -/
def DefAt (K : PySem.W.Frag) (mg : Str → Option Value) (d : Def) (a : Addr) : Prop := match d.cls with
  | none => mg d.name = some (.ref a)
  | some c => ∃ C, PySem.W.nsIn K mainGlobals c = some (some (.ref C)) ∧ Meth K C d.name a
/-- what the top has left -/
structure Left (p : Prg) (K : PySem.W.Frag) (mg : Str → Option Value) : Prop where
  fns : ∀ d ∈ p.defs, ∃ a fd, DefAt K mg d a ∧ Fun K d.name d.qual d.st a fd
  bl : ∀ x ∈ p.bl, mg x = none
  consts : ∀ c ∈ p.consts, ∃ v u, mg c.1 = some u ∧ RelV v u ∧ (∀ H, DR K [] H c.2 v) ∧ (c.1 == ("__debug__" : Str)) = false
  kls : ∀ c ∈ p.klass, ∃ C, KlOk K c C ∧ mg c.name = some (.ref C)
  mks : ∀ q ∈ p.cpats, ∃ C, PySem.W.nsIn K mainGlobals q.cls.name = some (some (.ref C)) ∧ PySem.W.makesIn K C = true ∧ PySem.W.keepIn K (.ref C) = true
  imps : ∀ x ∈ p.imps, mg x = some (.builtin "math.comb")
theorem permL_range' {α : Type} : ∀ (xs pre : List α), permL (pre ++ xs) (List.range' pre.length xs.length) = some xs
  | [], _ => rfl
  | x :: xs, pre => by
    have ih := permL_range' xs (pre ++ [x])
    rw [List.append_assoc, List.length_append] at ih
    rw [List.length_cons, List.range'_succ]
    unfold permL
    have e : (pre ++ x :: xs)[pre.length]? = some x := by simp
    rw [e]
    have ih' : permL (pre ++ x :: xs) (List.range' (pre.length + 1) xs.length) = some xs := ih
    rw [ih']
theorem permL_range {α : Type} (xs : List α) : permL xs (List.range xs.length) = some xs := by
  have := permL_range' xs []
  rw [List.range_eq_range']
  exact this
theorem run_ok {p : Prg} (ok : PrgOk p) {P : Program} {w : World} {K : PySem.W.Frag} {mg : Str → Option Value} {base : Heap} (L : Left p K mg) : ∀ (k f : Nat) (d : Def), p.defs[f]? = some d → ∃ a fd, DefAt K mg d a ∧ Fun K d.name d.qual d.st a fd ∧ FnG P w K mg base k a fd d.ps (spD K (Run p.T k) f)
  | 0, f, d, hd => by
    obtain ⟨a, fd, h1, h2⟩ := L.fns d (List.mem_of_getElem? hd)
    exact ⟨a, fd, h1, h2, ⟨fun A outer s H args us vs R hr hgd e0 hb r hl ⟨ι, ds, st0, Q, rd, rs, hw, hp⟩ => (show False from hw).elim⟩⟩
  | k + 1, f, d, hd => by
    obtain ⟨a, fd, h1, h2⟩ := L.fns d (List.mem_of_getElem? hd)
    have D := ok.defs d (List.mem_of_getElem? hd)
    have hpat : ∀ q ∈ p.pats, PatOk P w K mg base (Run p.T k) k q := fun q hq => by
      obtain ⟨d', hd', hn, hc, hfit⟩ := ok.pats q hq
      obtain ⟨a', fd', g1, g2, g3⟩ := run_ok ok (P := P) (w := w) (base := base) L k q.f d' hd'
      obtain ⟨as, ea, eps⟩ := (ok.defs d' (List.mem_of_getElem? hd')).args
      have g1' : mg d'.name = some (.ref a') := by
        unfold DefAt at g1
        rw [hc] at g1
        exact g1
      obtain ⟨oc, od, kV, doc, pm, an, cdv, ct, osl, efd, lk, hcd⟩ := g2.ex
      refine ⟨a', fd', d'.ps, by rw [← hn]; exact g1', g2.kp, g3, (permL_len hfit.1).symm, fun s us ws xs _ l1 l2 hx => ?_, hfit.2.2.2.2⟩
      rw [efd, ea]
      exact .of_eq (bind_gen eps hfit l1 l2 hx)
    have self : ∀ (d' : Def) (a' : Addr) (fd' : FuncData) (x : Str) (n j : Nat), d' ∈ p.defs → Fun K d'.name d'.qual d'.st a' fd' → patFit d'.ps ⟨x, n + 1, [], j, List.range (n + 1)⟩ → SelfBinds K fd' d'.ps n := fun d' a' fd' x n j hm g2 hfit => by
      obtain ⟨as, ea, eps⟩ := (ok.defs d' hm).args
      obtain ⟨oc, od, kV, doc, pm, an, cdv, ct, osl, efd, lk, hcd⟩ := g2.ex
      refine ⟨by have := permL_len hfit.1; simpa using this, fun s u0 us _ hl => ?_⟩
      rw [efd, ea]
      have hx : permL ((u0 :: us) ++ []) (List.range (n + 1)) = some (u0 :: us) := by
        have := permL_range (u0 :: us)
        rw [List.length_cons, hl] at this
        rw [List.append_nil]
        exact this
      exact .of_eq (bind_gen (p := ⟨x, n + 1, [], j, List.range (n + 1)⟩) eps hfit (us := u0 :: us) (ws := []) (by simp [hl]) rfl hx)
    have hmp : ∀ q ∈ p.mpats, MPatOk P w K mg base (Run p.T k) k q := fun q hq => by
      obtain ⟨hk, d', hd', hn, hc, hfit⟩ := ok.mpats q hq
      obtain ⟨C, hC, _⟩ := L.kls q.cls hk
      obtain ⟨a', fd', g1, g2, g3⟩ := run_ok ok (P := P) (w := w) (base := base) L k q.f d' hd'
      unfold DefAt at g1
      rw [hc] at g1
      obtain ⟨C', e1, e2⟩ := g1
      have e3 := hC.at_.symm.trans e1
      cases e3
      exact ⟨C, a', fd', d'.ps, hC, by rw [← hn]; exact e2, g3, self d' a' fd' _ _ _ (List.mem_of_getElem? hd') g2 hfit⟩
    have hcp : ∀ q ∈ p.cpats, CPatOk P w K mg base (Run p.T k) k q := fun q hq => by
      obtain ⟨hk, d', hd', hn, hc, hdb, hfit⟩ := ok.cpats q hq
      obtain ⟨C, hC, hmC⟩ := L.kls q.cls hk
      obtain ⟨C2, k1, k2, k3⟩ := L.mks q hq
      obtain ⟨a', fd', g1, g2, g3⟩ := run_ok ok (P := P) (w := w) (base := base) L k q.f d' hd'
      unfold DefAt at g1
      rw [hc] at g1
      obtain ⟨C', e1, e2⟩ := g1
      have e3 := hC.at_.symm.trans e1
      cases e3
      have e4 := hC.at_.symm.trans k1
      cases e4
      have e5 : Meth K C "__init__" a' := by rw [← hn]; exact e2
      exact ⟨C, a', fd', d'.ps, hC, hmC, ⟨k2, e5.at_, e5.fn, k3⟩, g3, self d' a' fd' _ _ _ (List.mem_of_getElem? hd') g2 hfit, hdb⟩
    have G := fn_body (P := P) (w := w) (base := base) (Γ := p.gam d) h2 D.sc D.code L.bl hpat L.consts hmp hcp L.imps
    refine ⟨a, fd, h1, h2, ⟨fun A outer s H args us vs R hr hgd e0 hb r hl ⟨ι, ds, st0, Q, rd, rs, hw, hp⟩ => G.run A outer s H args us vs R hr hgd e0 hb r hl ⟨ι, ds, st0, Q, rd, rs, ?_, hp⟩⟩⟩
    obtain ⟨fd', ef, hlen, hw⟩ := hw
    unfold Prg.T at ef
    rw [hd] at ef
    cases ef
    exact hw
end Cb

namespace Cb
open PySem PySem.Spec PyProof.Rows L2
/-! ## the end: from the semantics' promise to the row -/
/-- no list stands among the module's own objects (so the script is none of them) -/
def noLst (K : PySem.W.Frag) : Bool := K.all fun p => match p.2.data with
  | .seq _ _ => !(p.2.cls == .type "list")
  | _ => true
theorem mem_of_lookup {α : Type} : ∀ {K : List (Addr × α)} {a : Addr} {o : α}, K.lookup a = some o → (a, o) ∈ K
  | [], _, _, h => by cases h
  | (b, u) :: K, a, o, h => by
    rw [List.lookup_cons] at h
    split at h
    · rename_i e
      obtain rfl : a = b := by simpa using e
      cases h
      exact List.mem_cons_self
    · exact List.mem_cons_of_mem _ (mem_of_lookup h)
theorem noLst_ok {K : PySem.W.Frag} (h : noLst K = true) {a : Addr} {its : Array Value} (e : K.lookup a = some { cls := .type "list", data := .seq its }) : False := by
  have h1 := List.all_eq_true.mp h _ (mem_of_lookup e)
  have h2 : (!((Value.type "list" : Value) == .type "list")) = true := h1
  simp at h2
theorem drs_ints {K : PySem.W.Frag} {ι : List Addr} {H : Hp} : ∀ (ns : List Int), DRs K ι H (ns.map D.int) (ns.map V.int)
  | [] => .nil
  | n :: ns => .cons (.int n) (drs_ints ns)
theorem law_run {P : Program} {w : World} {K : PySem.W.Frag} {mg mb : Str → Option Value} {p : Prg} {k ix : Nat} {dd : Def} {x : Str} {fa a : Addr} {s₁ : Shared} {vs : List Value} {ns : List Int}
    (ok : PrgOk p) (L : Left p K mg) (hd : p.defs[ix]? = some dd) (hps : dd.ps = [x]) (hcl : dd.cls = none) (hfa : mg dd.name = some (.ref fa)) (nl : noLst K = true)
    (KX : K.In s₁.heap) (hns : s₁.heap.Ns mainGlobals mg) (hb : s₁.heap.Ns builtinsNs mb) (hbb : ∀ x : Str, x ≠ "__name__" → mb x = bootBuiltins x) (hlim : s₁.heap.NoLimit) (hg : s₁.gens = #[])
    (ha : s₁.heap.get? a = some { cls := .type "list", data := .seq vs.toArray }) (hi : IntsAre vs ns) (hl : ns.length ≤ sizeLine) (hr : RoomM k callerA)
    (hsp : Run p.T k ix [.ref 0] [.frz (ns.map D.int)] fun d _ => d = .bl true) :
    codeAny (model P w) callerA (.call (.ref fa) ⟨[.ref a], []⟩) (fun r s' => r = .ok (.ret (.bool true)) ∧ OldK s₁.heap s'.heap ∧ s'.os = s₁.os ∧ AllBare s'.gens) s₁ := by
  have rv := vals_ints hi
  have hKa : K.lookup a = none := by
    cases e : K.lookup a with
    | none => rfl
    | some o =>
      have := KX _ _ e
      rw [ha] at this
      cases this
      exact (noLst_ok nl e).elim
  let H : Hp := fun b => if b = a then some (.frz { cls := .type "list", data := .seq vs.toArray } (.lst (ns.map V.int))) else none
  have Ha : H a = some (.frz { cls := .type "list", data := .seq vs.toArray } (.lst (ns.map V.int))) := if_pos rfl
  have Hn : ∀ {b : Addr}, b ≠ a → H b = none := fun h => if_neg h
  have noA : ∀ {b : Addr} {o : Obj} {es : Array DictEntry} {ep : Nat}, s₁.heap.get? b = some o → o.data = .dict es ep → H b = none := fun {b o es ep} e d => Hn fun q => by
    subst q
    rw [ha] at e
    cases e
    have d' : Data.seq vs.toArray _ = Data.dict es ep := d
    cases d'
  have nsK : ∀ {b : Addr} {m : Str → Option Value}, s₁.heap.Ns b m → (hidT s₁.heap H).Ns b m := fun {b m} ⟨o, es, ep, e, d, r⟩ => ⟨o, es, ep, hidT_get e (noA e d), d, r⟩
  have hKb : K.In (hidT s₁.heap H) := fun b o e => hidT_get (KX b o e) (Hn fun q => by subst q; rw [hKa] at e; cases e)
  have hM : Mod K mg (hidT s₁.heap H) := ⟨hKb, nsK hns, ⟨mb, nsK hb, hbb⟩, let ⟨mc, h1, h2⟩ := hlim; ⟨mc, nsK h1, h2⟩⟩
  have hok : HOk P w H s₁.heap := fun b u z => by
    by_cases q : b = a
    · subst q
      have z' := Ha.symm.trans z
      cases z'
      exact ⟨ha, by rw [List.length_map]; exact hl, vs, _, rv, ha⟩
    · rw [Hn q] at z
      cases z
  have e0 : Env0 P w K mg (hidT s₁.heap H) callerA [] s₁ H := ⟨rfl, hM, fun b o e => of_hidT e, Nat.le_of_eq (hidT_size _ _), trivial, fun b hb => absurd (show b ∈ ([] : List Addr) from hb) (by simp), hok, .of_eq hg⟩
  obtain ⟨a', fd, g1, g2, G⟩ := run_ok (P := P) (w := w) (base := hidT s₁.heap H) ok L k ix dd hd
  have g1' : mg dd.name = some (.ref a') := by
    unfold DefAt at g1
    rw [hcl] at g1
    exact g1
  rw [g1'] at hfa
  cases hfa
  have hbind : BindsTo s₁ fd ⟨[.ref a], []⟩ (dd.ps.zip [Value.ref a]) := by
    obtain ⟨as, ea, eps⟩ := (ok.defs dd (List.mem_of_getElem? hd)).args
    obtain ⟨oc, od, kV, doc, pm, an, cdv, ct, osl, efd, lk, hcd⟩ := g2.ex
    rw [efd, ea]
    exact .of_eq (bind_gen (p := ⟨"f", 1, [], 0, [0]⟩) eps (by rw [hps]; exact ⟨rfl, by simp, by simp, by simp, rfl⟩) (us := [.ref a]) (ws := []) rfl rfl rfl)
  have hsp' : spD K (Run p.T k) ix [.ref a] H (fun v _ => v = .bl true) := by
    refine ⟨[a], [.ref 0], [.frz (ns.map D.int)], _, .cons (.ref rfl) .nil, ⟨rfl, by simp, fun n c b hc hb => ?_⟩, hsp, fun v H' ι' d st' _ _ rd _ q => ?_⟩
    · match n, hc, hb with
      | 0, hc, hb =>
        cases hc
        cases hb
        exact ⟨_, _, Ha, drs_ints ns⟩
      | n + 1, hc, _ => simp at hc
    · have q' : d = .bl true := q
      subst q'
      cases rd
      rfl
  refine codeAny_mono (G.run callerA [] s₁ H ⟨[.ref a], []⟩ [.ref a] [.ref a] _ hr rfl e0 hbind (.cons rfl .nil) (by rw [hps]; rfl) hsp') fun r s' h => ?_
  cases r with
  | error e => exact False.elim h
  | ok fl =>
    cases fl with
    | next => exact False.elim h
    | brk => exact False.elim h
    | cont => exact False.elim h
    | ret u =>
      obtain ⟨v, H', os, bare, un, hok', r', q⟩ := h
      have q' : v = .bl true := q
      subst q'
      obtain rfl : u = Value.bool true := r'
      refine ⟨rfl, OldK.of_keep fun b o e => ?_, os, bare⟩
      by_cases q : b = a
      · subst q
        have z2 := un.frzs b _ _ Ha
        obtain ⟨e1, _⟩ := hok b _ Ha
        obtain ⟨e2, _⟩ := hok' b _ z2
        rw [e] at e1
        cases e1
        exact e2
      · exact un.keep b o e (Hn q) (by intro z; exact absurd (show b ∈ ([] : List Addr) from z) (by simp)) (by simp)
theorem walk_prg {l : PySem.W.OpenLaw} {n k ix : Nat} {q : Program} {loose : List Str} {XP : (Str → Option Value) → Heap → Prop} {YP : World → Heap → Prop} {d : DefRec} {K : Params → PySem.W.Frag} {p : Prg} {dd : Def} {x : Str}
    (hn : l.most = some n) (hn2 : n ≤ sizeLine) (hdf : d.params.defaults = []) (hr : RoomM k callerA)
    (hY : ∀ (w : World) (h : Heap), YP w h → (K w.params).In h) (nl : ∀ w : World, noLst (K w.params) = true)
    (ok : PrgOk p) (hd : p.defs[ix]? = some dd) (hps : dd.ps = [x]) (hname : d.name = dd.name) (hcl : dd.cls = none)
    (F : ∀ (w : World) (mg : Str → Option Value) (h : Heap), (K w.params).In h → h.Ns mainGlobals mg → Left p (K w.params) mg)
    (hsp : ∀ ns : List Int, ns.length ≤ n → Run p.T k ix [.ref 0] [.frz (ns.map D.int)] fun d _ => d = .bl true) :
    PySem.W.WalkO q loose XP YP l.row.toRowW d [] (fun f vs => PySem.call f vs) := by
  refine Att.attach_call hn hdf fun w s₀ s₁ mg mb fa o pm cd doc a vs ns G Y ho hd' hcd hmg hobj hints hlen hg => ?_
  have KX := hY w _ Y
  exact law_run ok (F w mg _ KX G.T.g) hd hps hcl (by rw [← hname]; exact hmg) (nl w) KX G.T.g G.T.b G.T.builtins G.T.nolimit hg hobj hints (Nat.le_trans hlen hn2) hr (hsp ns hlen)
/-- where a def stands -/
def AtD (K : PySem.W.Frag) (d : Def) (f : Addr) : Prop := match d.cls with
  | none => PySem.W.nsIn K mainGlobals d.name = some (some (.ref f))
  | some c => ∃ C, PySem.W.nsIn K mainGlobals c = some (some (.ref C)) ∧ PySem.W.findIn K (.ref C) d.name = some (some (.ref f)) ∧ PySem.W.isFn K (.ref f) = true
/-- one def of those that the top has left -/
structure LeftD (K : PySem.W.Frag) (d : Def) : Prop where
  ex : ∃ (f : Addr) (oc : Value) (od an : Option Addr) (osl : Array (Option Value)) (kV doc pm cdv ct : Value), AtD K d f ∧ K.lookup f = some ⟨oc, od, .func (PySem.W.fnOf d.name d.qual (defArgs d.st) (defBody d.st) (defScope d.st) .none kV doc pm an cdv ct), osl⟩ ∧ PySem.W.codeIn K cdv d.qual = true ∧ PySem.W.keepIn K (.ref f) = true
theorem LeftD.mk' {K : PySem.W.Frag} {x : Str} {st : Stmt} {N ps : List Str} {c : S} {f : Addr} {oc : Value} {od an : Option Addr} {osl : Array (Option Value)} {kV doc pm cdv ct : Value} (h1 : PySem.W.nsIn K mainGlobals x = some (some (.ref f)))
    (h2 : K.lookup f = some ⟨oc, od, .func (PySem.W.fnOf x x (defArgs st) (defBody st) (defScope st) .none kV doc pm an cdv ct), osl⟩) (h3 : PySem.W.codeIn K cdv x = true) (h4 : PySem.W.keepIn K (.ref f) = true) : LeftD K ⟨x, st, N, ps, c, none, x⟩ :=
  ⟨f, oc, od, an, osl, kV, doc, pm, cdv, ct, h1, h2, h3, h4⟩
theorem LeftD.mkM {K : PySem.W.Frag} {x cn q : Str} {st : Stmt} {N ps : List Str} {c : S} {f C : Addr} {oc : Value} {od an : Option Addr} {osl : Array (Option Value)} {kV doc pm cdv ct : Value} (h0 : PySem.W.nsIn K mainGlobals cn = some (some (.ref C))) (h1 : PySem.W.findIn K (.ref C) x = some (some (.ref f)))
    (h2 : K.lookup f = some ⟨oc, od, .func (PySem.W.fnOf x q (defArgs st) (defBody st) (defScope st) .none kV doc pm an cdv ct), osl⟩) (h3 : PySem.W.codeIn K cdv q = true) (h4 : PySem.W.keepIn K (.ref f) = true) (h5 : PySem.W.isFn K (.ref f) = true) : LeftD K ⟨x, st, N, ps, c, some cn, q⟩ :=
  ⟨f, oc, od, an, osl, kV, doc, pm, cdv, ct, ⟨C, h0, h1, h5⟩, h2, h3, h4⟩
/-- no class of it has the name -/
def noB : Option (Option Value) → Bool
  | some none => true
  | _ => false
structure LeftK (K : PySem.W.Frag) (c : Kl) : Prop where
  ex : ∃ C, PySem.W.nsIn K mainGlobals c.name = some (some (.ref C)) ∧ Cls K C ∧ (c.names.all fun f => noB (PySem.W.findIn K (.ref C) f)) = true
theorem LeftK.mk' {K : PySem.W.Frag} {c : Kl} {C : Addr} (h1 : PySem.W.nsIn K mainGlobals c.name = some (some (.ref C))) (h2 : PySem.W.plainGet K C Str.empty = true) (h3 : PySem.W.hasDictIn K C = true) (h4 : PySem.W.plainOver K C = true)
    (h5 : PySem.W.findIn K (.ref C) "__setattr__" = some (some (.builtin "object.__setattr__"))) (h6 : (c.names.all fun f => noB (PySem.W.findIn K (.ref C) f)) = true) : LeftK K c := ⟨C, h1, ⟨h2, h3, h4, h5⟩, h6⟩
structure LeftP (K : PySem.W.Frag) (q : CPat) : Prop where
  ex : ∃ C, PySem.W.nsIn K mainGlobals q.cls.name = some (some (.ref C)) ∧ PySem.W.makesIn K C = true ∧ PySem.W.keepIn K (.ref C) = true
theorem LeftP.mk' {K : PySem.W.Frag} {q : CPat} {C : Addr} (h1 : PySem.W.nsIn K mainGlobals q.cls.name = some (some (.ref C))) (h2 : PySem.W.makesIn K C = true) (h3 : PySem.W.keepIn K (.ref C) = true) : LeftP K q := ⟨C, h1, h2, h3⟩
/-- a constant of the top -/
def litD : Value → Option D
  | .int i _ => some (.int i)
  | .str s _ => some (.str s)
  | .bool b => some (.bl b)
  | .none => some .non
  | _ => none
theorem litD_ok {u : Value} {d : D} (h : litD u = some d) : ∃ v, RelV v u ∧ ∀ (K : PySem.W.Frag) (H : Hp), DR K [] H d v := by
  cases u <;> cases h
  · exact ⟨.non, rfl, fun _ _ => .non⟩
  · exact ⟨.bl _, rfl, fun _ _ => .bl _⟩
  · exact ⟨.int _, ⟨_, rfl⟩, fun _ _ => .int _⟩
  · exact ⟨.str _, ⟨_, rfl⟩, fun _ _ => .str _⟩
/-- .. or a tuple of such -/
def datK (K : PySem.W.Frag) : Nat → Value → Option D
  | 0, u => litD u
  | n + 1, u => match u with
    | .ref a => match K.lookup a with
      | some o => if (o.cls == .type "tuple") = true then (match o.data with
        | .seq its _ => if its.size ≤ sizeLine then (mapO (datK K n) its.toList).map .ktp else none
        | _ => none) else none
      | none => none
    | u => litD u
theorem datAll_ok {K : PySem.W.Frag} {f : Value → Option D} (hf : ∀ u d, f u = some d → ∃ v, RelV v u ∧ ∀ H : Hp, DR K [] H d v) : ∀ {us : List Value} {ds : List D}, mapO f us = some ds → ∃ vs, Vals vs us ∧ ∀ H : Hp, DRs K [] H ds vs
  | [], ds, h => by
    cases h
    exact ⟨[], .nil, fun _ => .nil⟩
  | u :: us, ds, h => by
    simp only [mapO] at h
    split at h
    · rename_i y ys e1 e2
      cases h
      obtain ⟨v, r, rd⟩ := hf u y e1
      obtain ⟨vs, rs, rds⟩ := datAll_ok hf e2
      exact ⟨v :: vs, .cons r rs, fun H => .cons (rd H) (rds H)⟩
    · cases h
theorem datK_ok {K : PySem.W.Frag} : ∀ (n : Nat) (u : Value) (d : D), datK K n u = some d → ∃ v, RelV v u ∧ ∀ H : Hp, DR K [] H d v
  | 0, u, d, h => by
    obtain ⟨v, r, rd⟩ := litD_ok h
    exact ⟨v, r, rd K⟩
  | n + 1, u, d, h => by
    cases u with
    | ref a =>
      simp only [datK] at h
      split at h
      · rename_i o e
        split at h
        · rename_i hc
          split at h
          · rename_i its k hd
            split at h
            · rename_i hz
              obtain ⟨ds, e2, e3⟩ := Option.map_eq_some_iff.mp h
              subst e3
              obtain ⟨vs, rs, rds⟩ := datAll_ok (datK_ok n) e2
              exact ⟨.ref a, rfl, fun H => .ktp (.inr ⟨o, its, k, e, eq_of_beq hc, hd, hz, rs⟩) (rds H)⟩
            · cases h
          · cases h
        · cases h
      · cases h
    | _ =>
      simp only [datK] at h
      obtain ⟨v, r, rd⟩ := litD_ok h
      exact ⟨v, r, rd K⟩
structure LeftC (K : PySem.W.Frag) (c : Str × D) : Prop where
  ex : ∃ u, PySem.W.nsIn K mainGlobals c.1 = some (some u) ∧ datK K 6 u = some c.2 ∧ (c.1 == ("__debug__" : Str)) = false
theorem LeftC.mk' {K : PySem.W.Frag} {c : Str × D} {u : Value} (h1 : PySem.W.nsIn K mainGlobals c.1 = some (some u)) (h2 : datK K 6 u = some c.2) (h3 : (c.1 == ("__debug__" : Str)) = false) : LeftC K c := ⟨u, h1, h2, h3⟩
theorem left_of {p : Prg} {K : PySem.W.Frag} {mg : Str → Option Value} {h : Heap} (KX : K.In h) (G : h.Ns mainGlobals mg) (hd : ∀ d ∈ p.defs, LeftD K d) (hb : ∀ x ∈ p.bl, PySem.W.nsIn K mainGlobals x = some none) (hc : ∀ c ∈ p.consts, LeftC K c) (hk : ∀ c ∈ p.klass, LeftK K c := by (intro c hc; cases hc)) (hq : ∀ q ∈ p.cpats, LeftP K q := by (intro c hc; cases hc)) (hi : ∀ x ∈ p.imps, PySem.W.nsIn K mainGlobals x = some (some (.builtin "math.comb")) := by (intro c hc; cases hc)) : Left p K mg := by
  refine ⟨fun d hm => ?_, fun x hm => PySem.W.mg_none_of KX G (hb x hm), fun c hm => ?_, fun c hm => ?_, fun q hm => ?_, fun x hm => PySem.W.mg_of KX G (hi x hm)⟩
  · obtain ⟨f, oc, od, an, osl, kV, doc, pm, cdv, ct, h1, h2, h3, h4⟩ := (hd d hm).ex
    refine ⟨f, _, ?_, fun_mk h2 h3 h4⟩
    unfold AtD at h1
    unfold DefAt
    split
    · rename_i e
      rw [e] at h1
      exact PySem.W.mg_of KX G h1
    · rename_i c e
      rw [e] at h1
      obtain ⟨C, g1, g2, g3⟩ := h1
      exact ⟨C, g1, g2, g3, h4⟩
  · obtain ⟨u, h1, h2, h3⟩ := (hc c hm).ex
    obtain ⟨v, r, rd⟩ := datK_ok 6 u _ h2
    exact ⟨v, u, PySem.W.mg_of KX G h1, r, rd, h3⟩
  · obtain ⟨C, h1, h2, h3⟩ := (hk c hm).ex
    refine ⟨C, ⟨h1, h2, fun f hf => ?_⟩, PySem.W.mg_of KX G h1⟩
    have := List.all_eq_true.mp h3 f hf
    unfold NoAttr
    cases e : PySem.W.findIn K (.ref C) f with
    | none => rw [e] at this; cases this
    | some o =>
      cases o with
      | none => rfl
      | some u => rw [e] at this; cases this
  · exact (hq q hm).ex
end Cb

namespace Cb
open PySem PySem.Spec PyProof.Rows L2
/-! ## tools for the plain part: how codes are read -/
/-- a test's two ways -/
def Br (x : D) (A B : Prop) : Prop := ∃ t, x = .bl t ∧ if t = true then A else B
theorem Br.dec {p : Prop} [Decidable p] {A B : Prop} (h1 : p → A) (h2 : ¬ p → B) : Br (.bl (decide p)) A B := by
  by_cases h : p
  · exact ⟨_, rfl, by rw [if_pos (decide_eq_true h)]; exact h1 h⟩
  · exact ⟨_, rfl, by rw [if_neg (by simpa using h)]; exact h2 h⟩
theorem Br.b {b : Bool} {A B : Prop} (h1 : b = true → A) (h2 : b = false → B) : Br (.bl b) A B := by
  cases b
  · exact ⟨_, rfl, h2 rfl⟩
  · exact ⟨_, rfl, h1 rfl⟩
@[simp] theorem br_t {A B : Prop} : Br (.bl true) A B ↔ A := by simp [Br]
@[simp] theorem br_f {A B : Prop} : Br (.bl false) A B ↔ B := by simp [Br]
/-- the rest stays folded -/
theorem seq_i {F : Fm} {a r : S} {ρ : Env1} {st : Store} {E : EndsD} (h : ∀ X : Env1 → Store → Prop, (∀ ρ st, wps F r ρ st E → X ρ st) → wps F a ρ st ⟨X, E.rt, E.bk, E.ct⟩) : wps F (.seq a r) ρ st E := h _ fun _ _ h => h
theorem ite_i {F : Fm} {c : C} {a r : S} {ρ : Env1} {st : Store} {E : EndsD} (h : ∀ A B : Store → Prop, (∀ st, wps F a ρ st E → A st) → (∀ st, wps F r ρ st E → B st) → wp F c ρ st fun x st1 => Br x (A st1) (B st1)) : wps F (.ite c a r) ρ st E := h _ _ (fun _ h => h) fun _ h => h
section
variable {F : Fm} {ρ : Env1} {st : Store} {Q : K1} {E : EndsD} {a b c : C} {as kw : C} {i : Nat} {x y : D}
@[simp] theorem wp_var : wp F (.var i) ρ st Q ↔ ∃ d, ρ[i]? = some (some d) ∧ Q d st := Iff.rfl
@[simp] theorem wp_cst : wp F (.cst x) ρ st Q ↔ Q x st := Iff.rfl
@[simp] theorem wp_nil : wp F .nil ρ st Q ↔ Q (.tup []) st := Iff.rfl
@[simp] theorem wp_cons : wp F (.cons a as) ρ st Q ↔ wp F a ρ st fun x st1 => wp F as ρ st1 fun y st2 => ∃ xs, y = .tup xs ∧ Q (.tup (x :: xs)) st2 := Iff.rfl
@[simp] theorem wp_tup : wp F (.tup as) ρ st Q ↔ wp F as ρ st fun y st1 => ∃ xs, y = .tup xs ∧ xs.length ≤ sizeLine ∧ Q (.tup xs) st1 := Iff.rfl
@[simp] theorem wp_lst : wp F (.lst as) ρ st Q ↔ wp F as ρ st fun y st1 => ∃ xs, y = .tup xs ∧ xs.length ≤ sizeLine ∧ Q (.ref st1.length) (st1 ++ [.lst xs]) := Iff.rfl
@[simp] theorem wp_bin {o : Bop} : wp F (.bin o a b) ρ st Q ↔ wp F a ρ st fun x st1 => wp F b ρ st1 fun y st2 => binS o x y st2 Q := Iff.rfl
@[simp] theorem wp_neg : wp F (.neg a) ρ st Q ↔ wp F a ρ st fun x st1 => ∃ i, x = .int i ∧ Q (.int (-i)) st1 := Iff.rfl
@[simp] theorem wp_cmp {o : Cop} : wp F (.cmp o a b) ρ st Q ↔ wp F a ρ st fun x st1 => wp F b ρ st1 fun y st2 => cmpS o x y st2 Q := Iff.rfl
@[simp] theorem wp_chain {o o2 : Cop} : wp F (.chain o o2 a b c) ρ st Q ↔ wp F a ρ st fun x st1 => wp F b ρ st1 fun y st2 => cmpS o x y st2 fun z st3 => Br z (wp F c ρ st3 fun w st4 => cmpS o2 y w st4 Q) (Q (.bl false) st3) := Iff.rfl
@[simp] theorem wp_chain3 {o o2 o3 : Cop} {d : C} : wp F (.chain3 o o2 o3 a b c d) ρ st Q ↔ wp F a ρ st fun x st1 => wp F b ρ st1 fun y st2 => cmpS o x y st2 fun z st3 => Br z (wp F c ρ st3 fun w st4 => cmpS o2 y w st4 fun z st5 => Br z (wp F d ρ st5 fun v st6 => cmpS o3 w v st6 Q) (Q (.bl false) st5)) (Q (.bl false) st3) := Iff.rfl
@[simp] theorem wp_and : wp F (.and a b) ρ st Q ↔ wp F a ρ st fun x st1 => som (truS st1 x) fun t => if t = true then wp F b ρ st1 Q else Q x st1 := Iff.rfl
@[simp] theorem wp_or : wp F (.or a b) ρ st Q ↔ wp F a ρ st fun x st1 => som (truS st1 x) fun t => if t = true then Q x st1 else wp F b ρ st1 Q := Iff.rfl
@[simp] theorem wp_tval : wp F (.tval a) ρ st Q ↔ wp F a ρ st fun x st1 => som (truS st1 x) fun t => Q (.bl t) st1 := Iff.rfl
@[simp] theorem wp_tand : wp F (.tand a b) ρ st Q ↔ wp F a ρ st fun x st1 => Br x (wp F b ρ st1 Q) (Q (.bl false) st1) := Iff.rfl
@[simp] theorem wp_tor : wp F (.tor a b) ρ st Q ↔ wp F a ρ st fun x st1 => Br x (Q (.bl true) st1) (wp F b ρ st1 Q) := Iff.rfl
@[simp] theorem wp_tnot : wp F (.tnot a) ρ st Q ↔ wp F a ρ st fun x st1 => ∃ t, x = .bl t ∧ Q (.bl (!t)) st1 := Iff.rfl
@[simp] theorem wp_ite : wp F (.ite c a b) ρ st Q ↔ wp F c ρ st fun x st1 => Br x (wp F a ρ st1 Q) (wp F b ρ st1 Q) := Iff.rfl
@[simp] theorem wp_idx : wp F (.idx a b) ρ st Q ↔ wp F a ρ st fun x st1 => wp F b ρ st1 fun y st2 => som (idxS st2 x y) fun z => Q z st2 := Iff.rfl
@[simp] theorem wp_slc {fl fh : Bool} {lo hi : C} : wp F (.slc fl fh a lo hi) ρ st Q ↔ wp F a ρ st fun x st1 => wp F lo ρ st1 fun l st2 => som (partS fl l) fun l => wp F hi ρ st2 fun h st3 => som (partS fh h) fun h => slcS x l h st3 Q := Iff.rfl
@[simp] theorem wp_revL : wp F (.revL a) ρ st Q ↔ wp F a ρ st fun x st1 => revS x st1 Q := Iff.rfl
@[simp] theorem revS_tup {xs : List D} : revS (.tup xs) st Q ↔ Q (.tup xs.reverse) st := Iff.rfl
@[simp] theorem revS_ref {n : Nat} : revS (.ref n) st Q ↔ som (listS st (.ref n)) fun xs => Q (.ref st.length) (st ++ [.lst xs.reverse]) := Iff.rfl
@[simp] theorem wp_lz : wp F (.lz as) ρ st Q ↔ wp F as ρ st fun y st1 => lzS y st1 Q := Iff.rfl
@[simp] theorem wp_dnw : wp F .dnw ρ st Q ↔ (Q (.ref st.length) (st ++ [.dct []]) ∨ Q (.ref st.length) (st ++ [.dtt []])) := Iff.rfl
@[simp] theorem wp_dget {o k d : C} : wp F (.dget o k d) ρ st Q ↔ wp F o ρ st fun x st1 => IsDt st1 x ∧ wp F k ρ st1 fun y st2 => wp F d ρ st2 fun z st3 => dgetS x y z st3 Q := Iff.rfl
@[simp] theorem wp_lns : wp F (.lns as) ρ st Q ↔ wp F as ρ st fun y st1 => lnsS y st1 Q := Iff.rfl
@[simp] theorem wp_cmb : wp F (.cmb as) ρ st Q ↔ wp F as ρ st fun y st1 => ∃ a b : Int, y = .tup [.int a, .int b] ∧ 0 ≤ a ∧ 0 ≤ b ∧ a ≤ 9000 ∧ Q (.int (PySem.W.mcComb a b)) st1 := Iff.rfl
@[simp] theorem wp_call {f n m : Nat} {perm : List Nat} : wp F (.call f n m perm as kw) ρ st Q ↔ wp F as ρ st fun y st1 => ∃ xs, y = .tup xs ∧ wp F kw ρ st1 fun z st2 => ∃ zs, z = .tup zs ∧ som (permN n m xs zs perm) fun ys => F f ys st2 Q := Iff.rfl
@[simp] theorem wp_blt {o : Blt} : wp F (.blt o as) ρ st Q ↔ wp F as ρ st fun y st1 => ∃ xs, y = .tup xs ∧ bltS o xs st1 Q := Iff.rfl
@[simp] theorem wp_mth {m : Mth} {o : C} : wp F (.mth m o as) ρ st Q ↔ wp F o ρ st fun x st1 => som (listS st1 x) fun _ => wp F as ρ st1 fun y st2 => ∃ xs, y = .tup xs ∧ mthS m x xs st2 Q := Iff.rfl
@[simp] theorem wp_isi {ts : List Ty} : wp F (.isi a ts) ρ st Q ↔ wp F a ρ st fun x st1 => som (tyOf st1 x) fun t => Q (.bl (ts.any fun u => isTy t u)) st1 := Iff.rfl
@[simp] theorem wp_lc {own : List Nat} {tg : Tg} {k : Ik} {e : C} : wp F (.lc own tg k as c e) ρ st Q ↔ wp F as ρ st fun y st1 => ∃ xs, y = .tup xs ∧ som (itOf k xs st1) fun it =>
      ∃ n, lcLoop it.step (fun d => setTg tg d (wipeD ρ own)) (wp F c) (wp F e) Q n 0 [] st1 := Iff.rfl
@[simp] theorem wp_lck {i : Nat} : wp F (.lck i c) ρ st Q ↔ ∃ n, ρ[i]? = some (some (.ref n)) ∧ lckS n st fun st1 un => wp F c ρ st1 fun v st2 => un st2 (Q v) := Iff.rfl
@[simp] theorem wp_dsp {ks : List Key} : wp F (.dsp ks as) ρ st Q ↔ wp F as ρ st fun y st1 => ∃ xs, y = .tup xs ∧ Q (.ref st1.length) (st1 ++ [.dct (ks.zip xs)]) := Iff.rfl
variable {s r : S} {e : C} {t : Tg} {k : Ik}
@[simp] theorem wps_done : wps F .done ρ st E ↔ E.nx ρ st := Iff.rfl
theorem wps_seq : wps F (.seq s r) ρ st E ↔ wps F s ρ st ⟨fun ρ1 st1 => wps F r ρ1 st1 E, E.rt, E.bk, E.ct⟩ := Iff.rfl
@[simp] theorem wps_asg : wps F (.asg t e) ρ st E ↔ wp F e ρ st fun x st1 => som (setTg t x ρ) fun ρ1 => E.nx ρ1 st1 := Iff.rfl
@[simp] theorem wps_par {is : List Nat} : wps F (.par is as) ρ st E ↔ wp F as ρ st fun y st1 => ∃ xs, y = .tup xs ∧ som (setPar is xs ρ) fun ρ1 => E.nx ρ1 st1 := Iff.rfl
@[simp] theorem wps_sto : wps F (.sto e a b) ρ st E ↔ wp F e ρ st fun v st1 => wp F a ρ st1 fun x st2 => wp F b ρ st2 fun k st3 => stoS x k v st3 fun st4 => E.nx ρ st4 := Iff.rfl
@[simp] theorem wp_fld {f : Str} : wp F (.fld a f) ρ st Q ↔ wp F a ρ st fun x st1 => som (fldS st1 x f) fun v => Q v st1 := Iff.rfl
@[simp] theorem wp_mcl {c : Kl} {m : Str} {f n : Nat} {o as : C} : wp F (.mcl c m f n o as) ρ st Q ↔ wp F o ρ st fun x st1 => (∃ i fs, x = .ref i ∧ st1[i]? = some (.ins c fs)) ∧ wp F as ρ st1 fun y st2 => ∃ xs, y = .tup xs ∧ xs.length = n ∧ F f (x :: xs) st2 Q := Iff.rfl
@[simp] theorem wp_mk {c : Kl} {f n : Nat} {as : C} : wp F (.mk c f n as) ρ st Q ↔ wp F as ρ st fun y st1 => ∃ xs, y = .tup xs ∧ xs.length = n ∧ F f (.ref st1.length :: xs) (st1 ++ [.ins c []]) fun v st2 => v = .non ∧ Q (.ref st1.length) st2 := Iff.rfl
@[simp] theorem wps_sfd {f : Str} : wps F (.sfd e a f) ρ st E ↔ wp F e ρ st fun v st1 => wp F a ρ st1 fun x st2 => sfdS x f v st2 fun st3 => E.nx ρ st3 := Iff.rfl
@[simp] theorem wps_afd {f : Str} {o : Bop} : wps F (.afd a f o e) ρ st E ↔ wp F a ρ st fun x st1 => ∃ n c fs v, x = .ref n ∧ st1[n]? = some (.ins c fs) ∧ fs.lookup f = some v ∧ wp F e ρ st1 fun y st2 => ∃ i j, v = .int i ∧ y = .int j ∧ binS o v y st2 fun z st3 => ∃ fs', st3[n]? = some (.ins c fs') ∧ f ∈ c.names ∧ fs'.length < 1000 ∧ E.nx ρ (st3.set n (.ins c (putFD f z fs'))) := Iff.rfl
@[simp] theorem wps_sto2 {j : C} {a b i : C} : wps F (.sto2 e a i b j) ρ st E ↔ wp F e ρ st fun y st1 => ∃ v w, y = .tup [v, w] ∧ wp F a ρ st1 fun x st2 => wp F i ρ st2 fun k st3 => stoS x k v st3 fun st4 => wp F b ρ st4 fun x' st5 => wp F j ρ st5 fun k' st6 => stoS x' k' w st6 fun st7 => E.nx ρ st7 := Iff.rfl
@[simp] theorem wps_aug {o : Bop} : wps F (.aug i o e) ρ st E ↔ ∃ x, ρ[i]? = some (some x) ∧ wp F e ρ st fun y st1 => ∃ a b, x = .int a ∧ y = .int b ∧ binS o x y st1 fun z st2 => E.nx (ρ.set i (some z)) st2 := Iff.rfl
@[simp] theorem wps_expr : wps F (.expr e) ρ st E ↔ wp F e ρ st fun _ st1 => E.nx ρ st1 := Iff.rfl
@[simp] theorem wps_ret : wps F (.ret e) ρ st E ↔ wp F e ρ st E.rt := Iff.rfl
@[simp] theorem wps_retN : wps F .retN ρ st E ↔ E.rt .non st := Iff.rfl
theorem wps_ite : wps F (.ite e s r) ρ st E ↔ wp F e ρ st fun x st1 => Br x (wps F s ρ st1 E) (wps F r ρ st1 E) := Iff.rfl
@[simp] theorem wps_loop : wps F (.loop t k as s) ρ st E ↔ wp F as ρ st fun y st1 => ∃ xs, y = .tup xs ∧ som (itOf k xs st1) fun it =>
      ∃ n, forLoop it.step (fun d ρ => setTg t d ρ) (wps F s) E n 0 ρ st1 := Iff.rfl
@[simp] theorem wps_whil : wps F (.whil e s) ρ st E ↔ ∃ n, whileLoop (wp F e) (wps F s) E n ρ st := Iff.rfl
@[simp] theorem wps_brk : wps F .brk ρ st E ↔ E.bk ρ st := Iff.rfl
@[simp] theorem wps_cont : wps F .cont ρ st E ↔ E.ct ρ st := Iff.rfl
@[simp] theorem wps_pass : wps F .pass ρ st E ↔ E.nx ρ st := Iff.rfl
@[simp] theorem wps_lck {i : Nat} : wps F (.lck i s) ρ st E ↔ ∃ n, ρ[i]? = some (some (.ref n)) ∧ lckS n st fun st1 un => wps F s ρ st1 ⟨fun ρ2 st2 => un st2 (E.nx ρ2), fun v st2 => un st2 (E.rt v), fun ρ2 st2 => un st2 (E.bk ρ2), fun ρ2 st2 => un st2 (E.ct ρ2)⟩ := Iff.rfl
@[simp] theorem wps_never : wps F .never ρ st E ↔ False := Iff.rfl
end
section
variable {st : Store} {Q : K1} {i j : Int} {x y : D} {xs ys : List D}
@[simp] theorem b_add : binS .add (.int i) (.int j) st Q ↔ Q (.int (i + j)) st := Iff.rfl
@[simp] theorem b_sub : binS .sub (.int i) (.int j) st Q ↔ Q (.int (i - j)) st := Iff.rfl
@[simp] theorem b_mul : binS .mul (.int i) (.int j) st Q ↔ IntMulOk i j ∧ Q (.int (i * j)) st := Iff.rfl
@[simp] theorem b_fdiv : binS .fdiv (.int i) (.int j) st Q ↔ DivOk i j ∧ Q (.int (i / j)) st := Iff.rfl
@[simp] theorem b_mod : binS .mod (.int i) (.int j) st Q ↔ 0 < j ∧ Q (.int (i % j)) st := Iff.rfl
@[simp] theorem b_pow : binS .pow (.int i) (.int j) st Q ↔ CPow i j ∧ Q (.int (i ^ j.toNat)) st := Iff.rfl
@[simp] theorem b_shl : binS .shl (.int i) (.int j) st Q ↔ CShl i j ∧ Q (.int (i * 2 ^ j.toNat)) st := Iff.rfl
@[simp] theorem b_shr : binS .shr (.int i) (.int j) st Q ↔ 0 ≤ j ∧ Q (.int (i / 2 ^ j.toNat)) st := Iff.rfl
@[simp] theorem b_addT : binS .add (.tup xs) (.tup ys) st Q ↔ xs.length + ys.length ≤ sizeLine ∧ Q (.tup (xs ++ ys)) st := Iff.rfl
@[simp] theorem b_mulT : binS .mul (.tup xs) (.int j) st Q ↔ (0 ≤ j ∧ j ≤ 1000 ∧ xs.length ≤ 1000) ∧ Q (.tup (List.replicate j.toNat xs).flatten) st := Iff.rfl
@[simp] theorem c_lt : cmpS .lt (.int i) (.int j) st Q ↔ Q (.bl (decide (i < j))) st := by simp [cmpS]
@[simp] theorem c_le : cmpS .le (.int i) (.int j) st Q ↔ Q (.bl (decide (i ≤ j))) st := by simp [cmpS]
@[simp] theorem c_gt : cmpS .gt (.int i) (.int j) st Q ↔ Q (.bl (decide (j < i))) st := by simp [cmpS]
@[simp] theorem c_ge : cmpS .ge (.int i) (.int j) st Q ↔ Q (.bl (decide (j ≤ i))) st := by simp [cmpS]
@[simp] theorem c_isn : cmpS .isn x .non st Q ↔ Q (.bl (isNon x)) st := by simp [cmpS]
@[simp] theorem c_notn : cmpS .notn x .non st Q ↔ Q (.bl (!isNon x)) st := by simp [cmpS]
@[simp] theorem c_isnB {a b : Bool} : cmpS .isn (.bl a) (.bl b) st Q ↔ Q (.bl (decide (a = b))) st := ⟨fun h => by rcases h with ⟨e, _⟩ | ⟨_, _, e1, e2, q⟩ <;> first | cases e | (cases e1; cases e2; exact q), fun q => .inr ⟨a, b, rfl, rfl, q⟩⟩
@[simp] theorem c_notnB {a b : Bool} : cmpS .notn (.bl a) (.bl b) st Q ↔ Q (.bl (!decide (a = b))) st := ⟨fun h => by rcases h with ⟨e, _⟩ | ⟨_, _, e1, e2, q⟩ <;> first | cases e | (cases e1; cases e2; exact q), fun q => .inr ⟨a, b, rfl, rfl, q⟩⟩
@[simp] theorem c_eqI : cmpS .eq (.int i) (.int j) st Q ↔ Q (.bl (decide (i = j))) st := by simp [cmpS, pyEq]
@[simp] theorem c_neI : cmpS .ne (.int i) (.int j) st Q ↔ Q (.bl (!decide (i = j))) st := by simp [cmpS, pyEq]
@[simp] theorem c_eqS {a b : Str} : cmpS .eq (.str a) (.str b) st Q ↔ Q (.bl (decide (a = b))) st := by simp [cmpS, pyEq]
@[simp] theorem c_neS {a b : Str} : cmpS .ne (.str a) (.str b) st Q ↔ Q (.bl (!decide (a = b))) st := by simp [cmpS, pyEq]
@[simp] theorem c_eqB {a b : Bool} : cmpS .eq (.bl a) (.bl b) st Q ↔ Q (.bl (decide (a = b))) st := by simp [cmpS, pyEq]
@[simp] theorem c_neB {a b : Bool} : cmpS .ne (.bl a) (.bl b) st Q ↔ Q (.bl (!decide (a = b))) st := by simp [cmpS, pyEq]
theorem c_eqU {p q : PyData} (h : match x, y with | .int _, .int _ => False | .str _, .str _ => False | .bl _, .bl _ => False | _, _ => True) (h1 : toPy st 32 x = some p) (h2 : toPy st 32 y = some q) (h3 : (SeqAt.shaped p && SeqAt.shaped q) = true) : pyEq st x y = some (PyData.eqv p q) := by
  unfold pyEq
  cases x <;> cases y <;> first | exact h.elim | (simp only [h1, h2]; exact if_pos h3) | (rw [h1] at h2; cases h2; simp only [h1]; exact if_pos h3)
@[simp] theorem tr_non : truS st .non = some false := rfl
@[simp] theorem tr_bl {b : Bool} : truS st (.bl b) = some b := rfl
@[simp] theorem tr_int : truS st (.int i) = some (i != 0) := rfl
@[simp] theorem tr_ktp : truS st (.ktp xs) = some (!xs.isEmpty) := rfl
@[simp] theorem ty_ktp : tyOf st (.ktp xs) = some .tuple := rfl
@[simp] theorem ix_ktp : idxS st (.ktp xs) (.int i) = atI xs i := rfl
@[simp] theorem src_ktp : srcOf st (.ktp xs) = some (.seq xs) := rfl
@[simp] theorem bl_lenK : bltS .len [.ktp xs] st Q ↔ Q (.int xs.length) st := by simp [bltS, seqS]
@[simp] theorem isNon_ktp : isNon (.ktp xs) = false := rfl
@[simp] theorem tr_tup : truS st (.tup xs) = some (!xs.isEmpty) := rfl
@[simp] theorem ty_non : tyOf st .non = some .non := rfl
@[simp] theorem ty_bl {b : Bool} : tyOf st (.bl b) = some .bool := rfl
@[simp] theorem ty_int : tyOf st (.int i) = some .int := rfl
@[simp] theorem ty_str {s : Str} : tyOf st (.str s) = some .str := rfl
@[simp] theorem ty_tup : tyOf st (.tup xs) = some .tuple := rfl
@[simp] theorem bl_int : bltS .int [.int i] st Q ↔ Q (.int i) st := by simp [bltS]
@[simp] theorem bl_intB {b : Bool} : bltS .int [.bl b] st Q ↔ Q (.int (if b then 1 else 0)) st := by simp [bltS]
@[simp] theorem bl_bool : bltS .bool [.int i] st Q ↔ Q (.bl (i != 0)) st := by simp [bltS]
@[simp] theorem bl_boolB {b : Bool} : bltS .bool [.bl b] st Q ↔ Q (.bl b) st := by simp [bltS]
@[simp] theorem bl_abs : bltS .abs [.int i] st Q ↔ Q (.int (if i < 0 then -i else i)) st := by simp [bltS]
@[simp] theorem bl_max : bltS .max2 [.int i, .int j] st Q ↔ Q (.int (if j > i then j else i)) st := ⟨fun ⟨_, _, e, q⟩ => by cases e; exact q, fun q => ⟨i, j, rfl, q⟩⟩
@[simp] theorem bl_min : bltS .min2 [.int i, .int j] st Q ↔ Q (.int (if j < i then j else i)) st := ⟨fun ⟨_, _, e, q⟩ => by cases e; exact q, fun q => ⟨i, j, rfl, q⟩⟩
@[simp] theorem bl_lenT : bltS .len [.tup xs] st Q ↔ Q (.int xs.length) st := by simp [bltS, seqS]
@[simp] theorem bl_tupT : bltS .tuple [.tup xs] st Q ↔ Q (.tup xs) st := by simp [bltS, seqT]
@[simp] theorem bl_listT : bltS .list [.tup xs] st Q ↔ Q (.ref st.length) (st ++ [.lst xs]) := ⟨fun h => by rcases h with ⟨_, _, e, e2, q⟩ | ⟨_, _, e, _⟩ <;> cases e <;> first | (cases e2; exact q), fun q => .inl ⟨_, _, rfl, rfl, q⟩⟩
theorem bl_tupL {n : Nat} (h : st[n]? = some (.lst xs)) : bltS .tuple [.ref n] st Q ↔ Q (.tup xs) st := by simp [bltS, seqT, h]
theorem bl_lenL {n : Nat} (h : st[n]? = some (.lst xs)) : bltS .len [.ref n] st Q ↔ Q (.int xs.length) st := by simp [bltS, seqS, h]
theorem bl_listL {n : Nat} (h : st[n]? = some (.lst xs)) : bltS .list [.ref n] st Q ↔ Q (.ref st.length) (st ++ [.lst xs]) := by simp [bltS, seqS, h]
theorem bl_listD {n : Nat} {kvs : List (List Key × D)} (h : st[n]? = some (.dtt kvs)) (q : Q (.ref st.length) (st ++ [.lst (kvs.map fun kv => .tup (kv.1.map keyD))])) : bltS .list [.ref n] st Q := .inr ⟨n, kvs, rfl, h, q⟩
@[simp] theorem ix_tup : idxS st (.tup xs) (.int i) = atI xs i := rfl
@[simp] theorem it_plain : itOf .plain [x] st = (srcOf st x).map .src := rfl
@[simp] theorem it_range1 : itOf .range1 [.int j] st = if small62 j then some (.rng 0 1 j.toNat) else none := rfl
@[simp] theorem it_range2 : itOf .range2 [.int i, .int j] st = if small62 i ∧ small62 j then some (.rng i 1 (j - i).toNat) else none := rfl
@[simp] theorem src_tup : srcOf st (.tup xs) = some (.seq xs) := rfl
@[simp] theorem sl_tup {lo hi : Option Int} : slcS (.tup xs) lo hi st Q ↔ Q (.tup (cut xs lo hi)) st := Iff.rfl
@[simp] theorem part_t : partS true (.int i) = some (some i) := rfl
@[simp] theorem part_f : partS false x = some none := by cases x <;> rfl
@[simp] theorem isNon_non : isNon .non = true := rfl
@[simp] theorem isNon_int : isNon (.int i) = false := rfl
@[simp] theorem isNon_tup : isNon (.tup xs) = false := rfl
@[simp] theorem isNon_bl {b : Bool} : isNon (.bl b) = false := rfl
@[simp] theorem isNon_str {b : Str} : isNon (.str b) = false := rfl
@[simp] theorem isNon_ref {n : Nat} : isNon (.ref n) = false := rfl
end
theorem permN_id {α : Type} {xs : List α} {n : Nat} (h : xs.length = n) {p : List Nat} {ys : List α} (hp : permL xs p = some ys) : permN n 0 xs [] p = some ys := by
  unfold permN
  rw [if_pos ⟨h, rfl⟩, List.append_nil, hp]
/-! ### targets -/
section
variable {ρ : Env1} {d : D} {t ts : Tg} {ds : List D} {i : Nat}
@[simp] theorem tg_name : setTg (.name i) d ρ = some (ρ.set i (some d)) := rfl
@[simp] theorem tg_nil : setTg .nil (.tup []) ρ = some ρ := rfl
@[simp] theorem tg_cons : setTg (.cons t ts) (.tup (d :: ds)) ρ = (match setTg t d ρ with
    | some ρ' => setTg ts (.tup ds) ρ'
    | none => none) := rfl
@[simp] theorem tg_tup : setTg (.tup ts) (.tup ds) ρ = setTg ts (.tup ds) ρ := rfl
@[simp] theorem par_nil : setPar [] [] ρ = some ρ := rfl
@[simp] theorem par_cons {is : List Nat} : setPar (i :: is) (d :: ds) ρ = setPar is ds (ρ.set i (some d)) := rfl
end
@[simp] theorem sizeLine_num : sizeLine = 16777216 := sizeLine_eq
/-! ### a def, entered -/
theorem run_step {T : Nat → Option Fd} {k f : Nat} {xs : List D} {st : Store} {Q : K1} {fd : Fd} (h : T f = some fd) (hl : xs.length = fd.ps) (hw : wps (Run T k) fd.body (startD fd.n xs) st { nx := fun _ st1 => Q .non st1, rt := Q }) : Run T (k + 1) f xs st Q := ⟨fd, h, hl, hw⟩
/-! ### loops -/
theorem for_inv {step : Nat → Store → Option (Option D)} {bind : D → Env1 → Option Env1} {wb : Env1 → Store → EndsD → Prop} {E : EndsD} (I : Nat → Env1 → Store → Prop) (len : Nat)
    (hs : ∀ i ρ st (X : Env1 → Store → Prop), i < len → I i ρ st → (∀ ρ' st', I (i + 1) ρ' st' → X ρ' st') → ∃ d ρ1, step i st = some (some d) ∧ bind d ρ = some ρ1 ∧ wb ρ1 st ⟨X, E.rt, E.nx, X⟩)
    (he : ∀ ρ st, I len ρ st → step len st = some none ∧ E.nx ρ st) : ∀ {i : Nat} {ρ : Env1} {st : Store}, i ≤ len → I i ρ st → forLoop step bind wb E (len - i + 1) i ρ st := by
  intro i ρ st hi h
  generalize hk : len - i = k
  induction k generalizing i ρ st with
  | zero =>
    obtain rfl : i = len := by omega
    obtain ⟨h1, h2⟩ := he _ _ h
    unfold forLoop
    rw [h1]
    exact h2
  | succ k ih =>
    obtain ⟨d, ρ1, h1, h2, h3⟩ := hs i ρ st (forLoop step bind wb E (k + 1) (i + 1)) (by omega) h fun ρ' st' h' => ih (by omega) h' (by omega)
    unfold forLoop
    rw [h1]
    exact ⟨ρ1, h2, h3⟩
theorem for_seq {xs : List D} {bind : D → Env1 → Option Env1} {wb : Env1 → Store → EndsD → Prop} {E : EndsD} (I : Nat → Env1 → Store → Prop) {ρ : Env1} {st : Store} (h0 : I 0 ρ st)
    (hs : ∀ i d ρ st (X : Env1 → Store → Prop), xs[i]? = some d → I i ρ st → (∀ ρ' st', I (i + 1) ρ' st' → X ρ' st') → ∃ ρ1, bind d ρ = some ρ1 ∧ wb ρ1 st ⟨X, E.rt, E.nx, X⟩)
    (he : ∀ ρ st, I xs.length ρ st → E.nx ρ st) : ∃ n, forLoop (ItD.src (.seq xs)).step bind wb E n 0 ρ st :=
  ⟨_, for_inv I xs.length (fun i ρ st X hi h hx => by
    have e := List.getElem?_eq_getElem hi
    obtain ⟨ρ1, h1, h2⟩ := hs i _ ρ st X e h hx
    exact ⟨_, ρ1, by show some (xs[i]?) = _; rw [e], h1, h2⟩) (fun ρ st h => ⟨by show some (xs[xs.length]?) = _; rw [List.getElem?_eq_none (Nat.le_refl _)], he ρ st h⟩) (Nat.zero_le _) h0⟩
theorem for_rng {lo c : Int} {m : Nat} {bind : D → Env1 → Option Env1} {wb : Env1 → Store → EndsD → Prop} {E : EndsD} (I : Nat → Env1 → Store → Prop) {ρ : Env1} {st : Store} (h0 : I 0 ρ st)
    (hs : ∀ i ρ st (X : Env1 → Store → Prop), i < m → I i ρ st → (∀ ρ' st', I (i + 1) ρ' st' → X ρ' st') → ∃ ρ1, bind (.int (lo + i * c)) ρ = some ρ1 ∧ wb ρ1 st ⟨X, E.rt, E.nx, X⟩)
    (he : ∀ ρ st, I m ρ st → E.nx ρ st) : ∃ n, forLoop (ItD.rng lo c m).step bind wb E n 0 ρ st :=
  ⟨_, for_inv I m (fun i ρ st X hi h hx => by
    obtain ⟨ρ1, h1, h2⟩ := hs i ρ st X hi h hx
    exact ⟨_, ρ1, by show some (if i < m then _ else none) = _; rw [if_pos hi], h1, h2⟩) (fun ρ st h => ⟨by show some (if m < m then _ else none) = _; rw [if_neg (Nat.lt_irrefl _)], he ρ st h⟩) (Nat.zero_le _) h0⟩
/-- a list that the body leaves as it is -/
theorem for_live {n : Nat} {xs : List D} {bind : D → Env1 → Option Env1} {wb : Env1 → Store → EndsD → Prop} {E : EndsD} (I : Nat → Env1 → Store → Prop) {ρ : Env1} {st : Store} (h0 : I 0 ρ st)
    (hl : ∀ i ρ st, I i ρ st → (Src.live n).at st = some xs)
    (hs : ∀ i d ρ st (X : Env1 → Store → Prop), xs[i]? = some d → I i ρ st → (∀ ρ' st', I (i + 1) ρ' st' → X ρ' st') → ∃ ρ1, bind d ρ = some ρ1 ∧ wb ρ1 st ⟨X, E.rt, E.nx, X⟩)
    (he : ∀ ρ st, I xs.length ρ st → E.nx ρ st) : ∃ m, forLoop (ItD.src (.live n)).step bind wb E m 0 ρ st :=
  ⟨_, for_inv I xs.length (fun i ρ st X hi h hx => by
    have e := List.getElem?_eq_getElem hi
    obtain ⟨ρ1, h1, h2⟩ := hs i _ ρ st X e h hx
    exact ⟨_, ρ1, by show ((Src.live n).at st).map _ = _; rw [hl i ρ st h, Option.map_some, e], h1, h2⟩) (fun ρ st h => ⟨by show ((Src.live n).at st).map _ = _; rw [hl _ ρ st h, Option.map_some, List.getElem?_eq_none (Nat.le_refl _)], he ρ st h⟩) (Nat.zero_le _) h0⟩
theorem lc_inv {step : Nat → Store → Option (Option D)} {bind : D → Option Env1} {wc we : Env1 → Store → K1 → Prop} {Q : K1} (I : Nat → List D → Store → Prop) (len : Nat)
    (hs : ∀ i acc st (X : List D → Store → Prop), i < len → I i acc st → (∀ acc' st', I (i + 1) acc' st' → X acc' st') → ∃ d ρ1, step i st = some (some d) ∧ bind d = some ρ1 ∧ wc ρ1 st fun b st1 => Br b (we ρ1 st1 fun y st2 => acc.length < sizeLine ∧ X (acc ++ [y]) st2) (X acc st1))
    (he : ∀ acc st, I len acc st → step len st = some none ∧ Q (.ref st.length) (st ++ [.lst acc])) : ∀ {i : Nat} {acc : List D} {st : Store}, i ≤ len → I i acc st → lcLoop step bind wc we Q (len - i + 1) i acc st := by
  intro i acc st hi h
  generalize hk : len - i = k
  induction k generalizing i acc st with
  | zero =>
    obtain rfl : i = len := by omega
    obtain ⟨h1, h2⟩ := he _ _ h
    unfold lcLoop
    rw [h1]
    exact h2
  | succ k ih =>
    obtain ⟨d, ρ1, h1, h2, h3⟩ := hs i acc st (lcLoop step bind wc we Q (k + 1) (i + 1)) (by omega) h fun ρ' st' h' => ih (by omega) h' (by omega)
    unfold lcLoop
    rw [h1]
    exact ⟨ρ1, h2, h3⟩
theorem lc_seq {xs : List D} {bind : D → Option Env1} {wc we : Env1 → Store → K1 → Prop} {Q : K1} (I : Nat → List D → Store → Prop) {st : Store} (h0 : I 0 [] st)
    (hs : ∀ i d acc st (X : List D → Store → Prop), xs[i]? = some d → I i acc st → (∀ acc' st', I (i + 1) acc' st' → X acc' st') → ∃ ρ1, bind d = some ρ1 ∧ wc ρ1 st fun b st1 => Br b (we ρ1 st1 fun y st2 => acc.length < sizeLine ∧ X (acc ++ [y]) st2) (X acc st1))
    (he : ∀ acc st, I xs.length acc st → Q (.ref st.length) (st ++ [.lst acc])) : ∃ n, lcLoop (ItD.src (.seq xs)).step bind wc we Q n 0 [] st :=
  ⟨_, lc_inv I xs.length (fun i acc st X hi h hx => by
    have e := List.getElem?_eq_getElem hi
    obtain ⟨ρ1, h1, h2⟩ := hs i _ acc st X e h hx
    exact ⟨_, ρ1, by show some (xs[i]?) = _; rw [e], h1, h2⟩) (fun acc st h => ⟨by show some (xs[xs.length]?) = _; rw [List.getElem?_eq_none (Nat.le_refl _)], he acc st h⟩) (Nat.zero_le _) h0⟩
theorem lc_rng {lo c : Int} {m : Nat} {bind : D → Option Env1} {wc we : Env1 → Store → K1 → Prop} {Q : K1} (I : Nat → List D → Store → Prop) {st : Store} (h0 : I 0 [] st)
    (hs : ∀ i acc st (X : List D → Store → Prop), i < m → I i acc st → (∀ acc' st', I (i + 1) acc' st' → X acc' st') → ∃ ρ1, bind (.int (lo + i * c)) = some ρ1 ∧ wc ρ1 st fun b st1 => Br b (we ρ1 st1 fun y st2 => acc.length < sizeLine ∧ X (acc ++ [y]) st2) (X acc st1))
    (he : ∀ acc st, I m acc st → Q (.ref st.length) (st ++ [.lst acc])) : ∃ n, lcLoop (ItD.rng lo c m).step bind wc we Q n 0 [] st :=
  ⟨_, lc_inv I m (fun i acc st X hi h hx => by
    obtain ⟨ρ1, h1, h2⟩ := hs i acc st X hi h hx
    exact ⟨_, ρ1, by show some (if i < m then _ else none) = _; rw [if_pos hi], h1, h2⟩) (fun acc st h => ⟨by show some (if m < m then _ else none) = _; rw [if_neg (Nat.lt_irrefl _)], he acc st h⟩) (Nat.zero_le _) h0⟩
theorem lc_live {n : Nat} {xs : List D} {bind : D → Option Env1} {wc we : Env1 → Store → K1 → Prop} {Q : K1} (I : Nat → List D → Store → Prop) {st : Store} (h0 : I 0 [] st)
    (hl : ∀ i acc st, I i acc st → (Src.live n).at st = some xs)
    (hs : ∀ i d acc st (X : List D → Store → Prop), xs[i]? = some d → I i acc st → (∀ acc' st', I (i + 1) acc' st' → X acc' st') → ∃ ρ1, bind d = some ρ1 ∧ wc ρ1 st fun b st1 => Br b (we ρ1 st1 fun y st2 => acc.length < sizeLine ∧ X (acc ++ [y]) st2) (X acc st1))
    (he : ∀ acc st, I xs.length acc st → Q (.ref st.length) (st ++ [.lst acc])) : ∃ m, lcLoop (ItD.src (.live n)).step bind wc we Q m 0 [] st :=
  ⟨_, lc_inv I xs.length (fun i acc st X hi h hx => by
    have e := List.getElem?_eq_getElem hi
    obtain ⟨ρ1, h1, h2⟩ := hs i _ acc st X e h hx
    exact ⟨_, ρ1, by show ((Src.live n).at st).map _ = _; rw [hl i acc st h, Option.map_some, e], h1, h2⟩) (fun acc st h => ⟨by show ((Src.live n).at st).map _ = _; rw [hl _ acc st h, Option.map_some, List.getElem?_eq_none (Nat.le_refl _)], he acc st h⟩) (Nat.zero_le _) h0⟩
/-- m: what grows less at each turn -/
theorem while_inv {wc : Env1 → Store → K1 → Prop} {wb : Env1 → Store → EndsD → Prop} {E : EndsD} (I : Nat → Env1 → Store → Prop)
    (h : ∀ m ρ st (X : Env1 → Store → Prop), I m ρ st → (∀ m' ρ' st', m' < m → I m' ρ' st' → X ρ' st') → wc ρ st fun x st1 => Br x (wb ρ st1 ⟨X, E.rt, E.nx, X⟩) (E.nx ρ st1)) :
    ∀ {m : Nat} {ρ : Env1} {st : Store}, I m ρ st → ∃ n, whileLoop wc wb E n ρ st := by
  have key : ∀ (n m : Nat) (ρ : Env1) (st : Store), m < n → I m ρ st → whileLoop wc wb E n ρ st := by
    intro n
    induction n with
    | zero => intro m _ _ hm; omega
    | succ n ih =>
      intro m ρ st hm hi
      exact h m ρ st (whileLoop wc wb E n) hi fun m' ρ' st' hlt hi' => ih m' ρ' st' (by omega) hi'
  exact fun {m ρ st} hi => ⟨m + 1, key (m + 1) m ρ st (Nat.lt_succ_self _) hi⟩
/-! ### numbers -/
theorem mul_okL {i j : Int} (h : -(2 ^ 64) < i ∧ i < 2 ^ 64) : IntMulOk i j := CMul.ok (.inl h)
theorem div_ok {i j : Int} (h : 0 < j) (h2 : j < 1073741824) : DivOk i j := ⟨h, PyProof.noPylong_small (by omega)⟩
theorem mul_okR {i j : Int} (h : -(2 ^ 64) < j ∧ j < 2 ^ 64) : IntMulOk i j := CMul.ok (.inr h)
end Cb

namespace Cb
open PySem PySem.Spec PyProof.Rows L2
/-! ### small data: no refs, no texts, whole numbers below 10^12 -/
mutual
def sm : D → Bool
  | .non => true
  | .bl _ => true
  | .int i => decide (i.natAbs < 10 ^ 12)
  | .str _ => false
  | .tup xs => smAll xs
  | .ref _ => false
  | .ktp _ => false
def smAll : List D → Bool
  | [] => true
  | x :: xs => sm x && smAll xs
end
mutual
def py : D → PyData
  | .non => .none
  | .bl b => .bool b
  | .int i => .int i
  | .str s => .str s
  | .tup xs => .tuple (pyAll xs)
  | .ref _ => .none
  | .ktp _ => .none
def pyAll : List D → List PyData
  | [] => []
  | x :: xs => py x :: pyAll xs
end
mutual
/-- how deep -/
def dep : D → Nat
  | .tup xs => depAll xs + 1
  | .non => 0
  | .bl _ => 0
  | .int _ => 0
  | .str _ => 0
  | .ref _ => 0
  | .ktp _ => 0
def depAll : List D → Nat
  | [] => 0
  | x :: xs => max (dep x) (depAll xs)
end
mutual
/-- how many parts -/
def cnt : D → Nat
  | .tup xs => cntAll xs
  | .non => 0
  | .bl _ => 0
  | .int _ => 0
  | .str _ => 0
  | .ref _ => 0
  | .ktp _ => 0
def cntAll : List D → Nat
  | [] => 0
  | x :: xs => cnt x + 1 + cntAll xs
end
mutual
theorem toPy_sm (st : Store) : ∀ (d : D) (n : Nat), sm d = true → dep d ≤ n → toPy st n d = some (py d)
  | .non, n, _, _ => by cases n <;> rfl
  | .bl b, n, _, _ => by cases n <;> rfl
  | .int i, n, _, _ => by cases n <;> rfl
  | .str s, n, h, _ => by simp [sm] at h
  | .tup xs, n, h, hd => by
    cases n with
    | zero => simp [dep] at hd
    | succ n =>
      have h1 := toPyAll_sm st xs n (by simpa only [sm] using h) (by simp only [dep] at hd; omega)
      show (mapO (toPy st n) xs).map PyData.tuple = _
      rw [h1]
      simp only [py, Option.map_some]
  | .ref r, n, h, _ => by simp [sm] at h
  | .ktp r, n, h, _ => by simp [sm] at h
theorem toPyAll_sm (st : Store) : ∀ (ds : List D) (n : Nat), smAll ds = true → depAll ds ≤ n → mapO (toPy st n) ds = some (pyAll ds)
  | [], n, _, _ => by simp only [mapO, pyAll]
  | d :: ds, n, h, hd => by
    simp only [smAll, Bool.and_eq_true] at h
    simp only [depAll] at hd
    simp only [mapO, pyAll]
    rw [toPy_sm st d n h.1 (by omega), toPyAll_sm st ds n h.2 (by omega)]
end
mutual
theorem canLay_sm : ∀ d : D, sm d = true → (py d).canLay0 = true
  | .non, _ => by simp only [py, PyData.canLay0]
  | .bl _, _ => by simp only [py, PyData.canLay0]
  | .int _, _ => by simp only [py, PyData.canLay0]
  | .str _, h => by simp [sm] at h
  | .tup xs, h => by
    simp only [py, PyData.canLay0]
    exact canLayAll_sm xs (by simpa only [sm] using h)
  | .ref _, h => by simp [sm] at h
  | .ktp _, h => by simp [sm] at h
theorem canLayAll_sm : ∀ ds : List D, smAll ds = true → PyData.canLayAll0 (pyAll ds) = true
  | [], _ => by simp only [pyAll, PyData.canLayAll0]
  | d :: ds, h => by
    simp only [smAll, Bool.and_eq_true] at h
    simp only [pyAll, PyData.canLayAll0, Bool.and_eq_true]
    exact ⟨canLay_sm d h.1, canLayAll_sm ds h.2⟩
end
mutual
theorem dep_py : ∀ d : D, sm d = true → (py d).depth = dep d
  | .non, _ => by simp only [py, PyData.depth, dep]
  | .bl _, _ => by simp only [py, PyData.depth, dep]
  | .int _, _ => by simp only [py, PyData.depth, dep]
  | .str _, h => by simp [sm] at h
  | .tup xs, h => by
    simp only [py, PyData.depth, dep]
    rw [depAll_py xs (by simpa only [sm] using h)]
  | .ref _, h => by simp [sm] at h
  | .ktp _, h => by simp [sm] at h
theorem depAll_py : ∀ ds : List D, smAll ds = true → PyData.depthAll (pyAll ds) = depAll ds
  | [], _ => by simp only [pyAll, PyData.depthAll, depAll]
  | d :: ds, h => by
    simp only [smAll, Bool.and_eq_true] at h
    simp only [pyAll, PyData.depthAll, depAll]
    rw [dep_py d h.1, depAll_py ds h.2]
end
theorem log2_sm {i : Int} (h : i.natAbs < 10 ^ 12) : i.natAbs.log2 < 40 := by
  by_cases h0 : i.natAbs = 0
  · rw [h0]; decide
  · exact (Nat.log2_lt h0).mpr (Nat.lt_of_lt_of_le h (by decide))
mutual
theorem show_sm : ∀ d : D, sm d = true → (py d).showable = true
  | .non, _ => by simp only [py, PyData.showable]
  | .bl _, _ => by simp only [py, PyData.showable]
  | .int i, h => by
    simp only [sm, decide_eq_true_eq] at h
    simp only [py, PyData.showable, decide_eq_true_eq]
    have := log2_sm h
    omega
  | .str _, h => by simp [sm] at h
  | .tup xs, h => by
    simp only [py, PyData.showable]
    exact showAll_sm xs (by simpa only [sm] using h)
  | .ref _, h => by simp [sm] at h
  | .ktp _, h => by simp [sm] at h
theorem showAll_sm : ∀ ds : List D, smAll ds = true → PyData.showableAll (pyAll ds) = true
  | [], _ => by simp only [pyAll, PyData.showableAll]
  | d :: ds, h => by
    simp only [smAll, Bool.and_eq_true] at h
    simp only [pyAll, PyData.showableAll, Bool.and_eq_true]
    exact ⟨show_sm d h.1, showAll_sm ds h.2⟩
end
mutual
theorem short_sm : ∀ d : D, sm d = true → (py d).leavesShort 13 = true
  | .non, _ => by simp only [py, PyData.leavesShort]
  | .bl _, _ => by simp only [py, PyData.leavesShort]
  | .int i, h => by
    simp only [sm, decide_eq_true_eq] at h
    simp only [py, PyData.leavesShort, decide_eq_true_eq]
    exact PyData.shown_int_le h
  | .str _, h => by simp [sm] at h
  | .tup xs, h => by
    simp only [py, PyData.leavesShort]
    exact shortAll_sm xs (by simpa only [sm] using h)
  | .ref _, h => by simp [sm] at h
  | .ktp _, h => by simp [sm] at h
theorem shortAll_sm : ∀ ds : List D, smAll ds = true → PyData.leavesShortAll 13 (pyAll ds) = true
  | [], _ => by simp only [pyAll, PyData.leavesShortAll]
  | d :: ds, h => by
    simp only [smAll, Bool.and_eq_true] at h
    simp only [pyAll, PyData.leavesShortAll, Bool.and_eq_true]
    exact ⟨short_sm d h.1, shortAll_sm ds h.2⟩
end
mutual
theorem weight_sm : ∀ d : D, sm d = true → (py d).weight ≤ 41 * cnt d + 40
  | .non, _ => by simp only [py, PyData.weight]; omega
  | .bl _, _ => by simp only [py, PyData.weight]; omega
  | .int i, h => by
    simp only [sm, decide_eq_true_eq] at h
    simp only [py, PyData.weight]
    have := log2_sm h
    split <;> omega
  | .str _, h => by simp [sm] at h
  | .tup xs, h => by
    simp only [py, PyData.weight, cnt]
    have := weightAll_sm xs (by simpa only [sm] using h)
    omega
  | .ref _, h => by simp [sm] at h
  | .ktp _, h => by simp [sm] at h
theorem weightAll_sm : ∀ ds : List D, smAll ds = true → PyData.weightAll (pyAll ds) ≤ 41 * cntAll ds
  | [], _ => by simp only [pyAll, PyData.weightAll]; omega
  | d :: ds, h => by
    simp only [smAll, Bool.and_eq_true] at h
    simp only [pyAll, PyData.weightAll, cntAll]
    have h1 := weight_sm d h.1
    have h2 := weightAll_sm ds h.2
    omega
end
mutual
theorem eqv_py : ∀ d : D, sm d = true → PyData.eqv (py d) (py d) = true
  | .non, _ => by simp only [py, PyData.eqv]
  | .bl _, _ => by simp only [py, PyData.eqv, beq_self_eq_true]
  | .int _, _ => by simp only [py, PyData.eqv, beq_self_eq_true]
  | .str _, h => by simp [sm] at h
  | .tup xs, h => by
    simp only [py, PyData.eqv]
    exact eqvAll_py xs (by simpa only [sm] using h)
  | .ref _, h => by simp [sm] at h
  | .ktp _, h => by simp [sm] at h
theorem eqvAll_py : ∀ ds : List D, smAll ds = true → PyData.eqvAll (pyAll ds) (pyAll ds) = true
  | [], _ => by simp only [pyAll, PyData.eqvAll]
  | d :: ds, h => by
    simp only [smAll, Bool.and_eq_true] at h
    simp only [pyAll, PyData.eqvAll, Bool.and_eq_true]
    exact ⟨eqv_py d h.1, eqvAll_py ds h.2⟩
end
/-- small enough to be shown -/
def Sm (d : D) : Prop := sm d = true ∧ dep d ≤ 32 ∧ cnt d ≤ 20000
theorem Sm.repr {d : D} (h : Sm d) : ReprOk (py d) := by
  obtain ⟨h1, h2, h3⟩ := h
  have hw := weight_sm d h1
  refine ⟨show_sm d h1, PyData.hasDict_of_canLay _ (canLay_sm d h1), by rw [dep_py d h1]; exact h2, PyData.shown_fits (B := 13) (by decide) (by decide) (short_sm d h1) ?_⟩
  have : (2 : Nat) ^ 20 = 1048576 := by decide
  omega
theorem Sm.toPy {d : D} (h : Sm d) (st : Store) : Cb.toPy st 32 d = some (py d) := toPy_sm st d 32 h.1 h.2.1
theorem Sm.shaped {d : D} (h : Sm d) : SeqAt.shaped (py d) = true := by
  unfold SeqAt.shaped
  rw [canLay_sm d h.1, dep_py d h.1, Bool.true_and, decide_eq_true_eq]
  have := h.2.1
  omega
def rep (d : D) : Str := (py d).shown
theorem bl_repr {d : D} {st : Store} {Q : K1} (h : Sm d) (q : Q (.str (rep d)) st) : bltS .repr [d] st Q := ⟨d, _, rfl, h.toPy st, h.repr, q⟩
theorem Sm.int {i : Int} (h : i.natAbs < 10 ^ 12) : Sm (.int i) := ⟨by simpa [sm] using h, by simp [dep], by simp [cnt]⟩
theorem Sm.non : Sm .non := ⟨rfl, by simp [dep], by simp [cnt]⟩
theorem Sm.bl {b : Bool} : Sm (.bl b) := ⟨rfl, by simp [dep], by simp [cnt]⟩
/-- == of a tuple and the same -/
theorem eq_same {d : D} {xs : List D} (e : d = .tup xs) {st : Store} (h : Sm d) : pyEq st d d = some true := by
  subst e
  unfold pyEq
  simp only [h.toPy st, h.shaped, Bool.and_self, if_true, eqv_py _ h.1]
theorem c_eqSame {xs ys : List D} {st : Store} {Q : K1} (e : xs = ys) (h : Sm (.tup xs)) (q : Q (.bl true) st) : cmpS .eq (.tup xs) (.tup ys) st Q := by
  subst e
  show som _ _
  rw [eq_same rfl h]
  exact ⟨true, rfl, q⟩
theorem c_neSame {xs ys : List D} {st : Store} {Q : K1} (e : xs = ys) (h : Sm (.tup xs)) (q : Q (.bl false) st) : cmpS .ne (.tup xs) (.tup ys) st Q := by
  subst e
  show som _ _
  rw [eq_same rfl h]
  exact ⟨true, rfl, q⟩
/-! ### lists of numbers -/
theorem pyAll_ints : ∀ ns : List Int, pyAll (ns.map D.int) = ns.map PyData.int
  | [] => by simp [pyAll]
  | n :: ns => by simp [pyAll, py, pyAll_ints ns]
theorem mapO_toPy_ints (st : Store) (n : Nat) : ∀ ns : List Int, mapO (toPy st n) (ns.map D.int) = some (ns.map PyData.int)
  | [] => rfl
  | i :: ns => by
    have : toPy st n (.int i) = some (.int i) := by cases n <;> rfl
    simp only [List.map_cons, mapO, this, mapO_toPy_ints st n ns]
theorem canLay_ints : ∀ ns : List Int, PyData.canLayAll0 (ns.map PyData.int) = true
  | [] => by simp only [List.map_nil, PyData.canLayAll0]
  | n :: ns => by simp only [List.map_cons, PyData.canLayAll0, PyData.canLay0, canLay_ints ns, Bool.and_self]
theorem depth_ints : ∀ ns : List Int, PyData.depthAll (ns.map PyData.int) = 0
  | [] => by simp only [List.map_nil, PyData.depthAll]
  | n :: ns => by simp only [List.map_cons, PyData.depthAll, PyData.depth, depth_ints ns, Nat.max_self]
/-- a list of numbers is not [] -/
theorem ne_nil {st : Store} {c e : Nat} {ns : List Int} (h1 : st[c]? = some (.lst (ns.map D.int))) (h2 : st[e]? = some (.lst [])) : pyEq st (.ref c) (.ref e) = some ns.isEmpty := by
  refine (c_eqU (p := .list (ns.map PyData.int)) (q := .list []) trivial ?_ ?_ ?_).trans ?_
  · show (match st[c]? with | some (.lst xs) => _ | some (.frz xs) => _ | _ => _) = _
    rw [h1]
    show (mapO _ _).map _ = _
    rw [mapO_toPy_ints]
    rfl
  · show (match st[e]? with | some (.lst xs) => _ | some (.frz xs) => _ | _ => _) = _
    rw [h2]
    rfl
  · unfold SeqAt.shaped
    simp only [PyData.canLay0, PyData.depth, canLay_ints, depth_ints, PyData.canLayAll0, PyData.depthAll]
    decide
  · cases ns <;> simp [PyData.eqv, PyData.eqvAll]
/-! ### the deck: a dict of the cells that are left, a number, a count -/
def Deck (kd : Str) (st : Store) (r c : Nat) : Prop := ∃ (ns : List Int) (m d : Int), ns.length ≤ 63 ∧ r ≠ c ∧ st[r]? = some (.dct [(.inr "cells", .ref c), (.inr "mixed", .int m), (.inr kd, .int d)]) ∧ st[c]? = some (.lst (ns.map D.int))
/-- all else stays -/
def Fr (r c : Nat) (st st' : Store) : Prop := st.length ≤ st'.length ∧ ∀ i, i < st.length → i ≠ r → i ≠ c → st'[i]? = st[i]?
theorem Fr.refl (r c : Nat) (st : Store) : Fr r c st st := ⟨Nat.le_refl _, fun _ _ _ _ => rfl⟩
theorem Fr.trans {r c : Nat} {a b d : Store} (h : Fr r c a b) (g : Fr r c b d) : Fr r c a d := ⟨Nat.le_trans h.1 g.1, fun i hi h1 h2 => (g.2 i (Nat.lt_of_lt_of_le hi h.1) h1 h2).trans (h.2 i hi h1 h2)⟩
theorem Fr.app {r c : Nat} {a b : Store} (h : Fr r c a b) (x : List Cell) : Fr r c a (b ++ x) := ⟨by simp; have := h.1; omega, fun i hi h1 h2 => by rw [List.getElem?_append_left (Nat.lt_of_lt_of_le hi h.1)]; exact h.2 i hi h1 h2⟩
theorem Fr.set {r c : Nat} {a b : Store} (h : Fr r c a b) {n : Nat} (x : Cell) (hn : n = r ∨ n = c) : Fr r c a (b.set n x) := ⟨by simp; exact h.1, fun i hi h1 h2 => by rw [List.getElem?_set_ne (by rcases hn with rfl | rfl <;> omega)]; exact h.2 i hi h1 h2⟩
theorem get_app {st : Store} {n : Nat} {x : Cell} (h : st[n]? = some x) (y : List Cell) : (st ++ y)[n]? = some x := by
  obtain ⟨hn, _⟩ := List.getElem?_eq_some_iff.mp h
  rw [List.getElem?_append_left hn, h]
theorem get_set {st : Store} {n : Nat} {x y : Cell} (h : st[n]? = some x) : (st.set n y)[n]? = some y := by
  obtain ⟨hn, _⟩ := List.getElem?_eq_some_iff.mp h
  rw [List.getElem?_set_self hn]
theorem Deck.app {kd : Str} {st : Store} {r c : Nat} (h : Deck kd st r c) (x : List Cell) : Deck kd (st ++ x) r c := by
  obtain ⟨ns, m, d, h0, h1, h2, h3⟩ := h
  exact ⟨ns, m, d, h0, h1, get_app h2 x, get_app h3 x⟩
theorem Deck.lt {kd : Str} {st : Store} {r c : Nat} (h : Deck kd st r c) : r < st.length ∧ c < st.length := by
  obtain ⟨ns, m, d, h0, h1, h2, h3⟩ := h
  exact ⟨(List.getElem?_eq_some_iff.mp h2).1, (List.getElem?_eq_some_iff.mp h3).1⟩
/-- the cell at n stays when the deck is drawn from -/
theorem Fr.keep {r c : Nat} {st st' : Store} (h : Fr r c st st') {n : Nat} {x : Cell} (hn : st[n]? = some x) (h1 : n ≠ r) (h2 : n ≠ c) : st'[n]? = some x := by
  rw [h.2 n (List.getElem?_eq_some_iff.mp hn).1 h1 h2, hn]
section
variable {kd : Str} {x y z w : D}
theorem gk1 : getK (κ := Key) [(Sum.inr ("cells" : Str), x), (.inr "mixed", y), (.inr kd, z)] (.inr "cells") = some x := by
  simp [getK, List.find?]
theorem gk2 : getK (κ := Key) [(Sum.inr ("cells" : Str), x), (.inr "mixed", y), (.inr kd, z)] (.inr "mixed") = some y := by
  have : ¬ ("cells" : Str) = "mixed" := by decide +kernel
  simp [getK, List.find?, this]
theorem gk3 (h1 : ("cells" : Str) ≠ kd) (h2 : ("mixed" : Str) ≠ kd) : getK (κ := Key) [(Sum.inr ("cells" : Str), x), (.inr "mixed", y), (.inr kd, z)] (.inr kd) = some z := by
  simp [getK, List.find?, h1, h2]
theorem pk3 (h1 : ("cells" : Str) ≠ kd) (h2 : ("mixed" : Str) ≠ kd) : putKD (κ := Key) [(Sum.inr ("cells" : Str), x), (.inr "mixed", y), (.inr kd, z)] (.inr kd) w = [(.inr "cells", x), (.inr "mixed", y), (.inr kd, w)] := by
  simp [putKD, h1, h2]
end
def drawC (kd : Str) (k1 k2 k3 k4 k5 k6 k7 k8 k9 k10 : Int) : S := (.seq (.sto (.bin .add (.idx (.var 0) (.cst (.str kd))) (.cst (.int 1))) (.var 0) (.cst (.str kd))) (.seq (.asg (.name 2) (.bin .add (.idx (.var 0) (.cst (.str "mixed"))) (.bin .mul (.cst (.int k1)) (.idx (.var 0) (.cst (.str kd)))))) (.seq (.ite (.cmp .ne (.idx (.var 0) (.cst (.str "cells"))) (.lst .nil)) (.seq (.asg (.name 3) (.mth .pop (.idx (.var 0) (.cst (.str "cells"))) .nil)) (.seq (.ite (.cmp .ge (.var 3) (.bin .pow (.cst (.int 10)) (.cst (.int 18)))) (.seq (.expr (.mth .append (.idx (.var 0) (.cst (.str "cells"))) (.cons (.bin .fdiv (.var 3) (.blt .max2 (.cons (.cst (.int 2)) (.cons (.var 1) .nil)))) .nil))) (.seq (.ret (.bin .mod (.blt .int (.cons (.var 3) .nil)) (.var 1))) .done)) .done) (.seq (.asg (.name 2) (.bin .add (.var 2) (.bin .mod (.blt .int (.cons (.var 3) .nil)) (.cst (.int k2))))) .done))) .done) (.seq (.asg (.name 2) (.bin .mod (.blt .int (.cons (.bin .add (.bin .mul (.var 2) (.cst (.int k3))) (.cst (.int k4))) .nil)) (.cst (.int k5)))) (.seq (.asg (.name 2) (.bin .mod (.blt .int (.cons (.bin .add (.bin .add (.bin .mul (.var 2) (.var 2)) (.bin .mul (.cst (.int k6)) (.idx (.var 0) (.cst (.str kd))))) (.cst (.int k7))) .nil)) (.cst (.int k8)))) (.seq (.asg (.name 2) (.bin .mod (.blt .int (.cons (.bin .mul (.var 2) (.cst (.int k9))) .nil)) (.cst (.int k10)))) (.seq (.ret (.bin .mod (.blt .int (.cons (.bin .fdiv (.var 2) (.cst (.int 64))) .nil)) (.var 1))) .done)))))))
end Cb

namespace Cb
open PySem PySem.Spec PyProof.Rows L2
theorem div_ok64 {i j : Int} (h : 0 < j) (h2 : j ≤ 2 ^ 64) : DivOk i j := ⟨h, PyProof.noPylong_of_log2 (by
  have h0 : j.natAbs ≠ 0 := by omega
  have : j.natAbs < 2 ^ 65 := by omega
  have := (Nat.log2_lt h0).mpr this
  omega)⟩
theorem truthy_ne {b : Bool} : (!b) = true ↔ b = false := by cases b <;> simp
theorem ne_nil' {st : Store} {c e : Nat} {ns : List Int} {Q : K1} (h1 : st[c]? = some (.lst (ns.map D.int))) (h2 : st[e]? = some (.lst [])) (q : Q (.bl (!ns.isEmpty)) st) : cmpS .ne (.ref c) (.ref e) st Q := ⟨_, ne_nil h1 h2, q⟩
def small (i : Int) : Prop := 0 < i ∧ i < 2 ^ 32
instance (i : Int) : Decidable (small i) := inferInstanceAs (Decidable (_ ∧ _))
structure DrawK (kd : Str) (k1 k2 k3 k5 k6 k8 k9 k10 : Int) : Prop where
  n1 : ("cells" : Str) ≠ kd
  n2 : ("mixed" : Str) ≠ kd
  s1 : small k1
  s2 : small k2
  s3 : small k3
  s5 : small k5
  s6 : small k6
  s8 : small k8
  s9 : small k9
  s10 : small k10
theorem mod_lt' {a b : Int} (h : 0 < b) : 0 ≤ a % b ∧ a % b < b := ⟨Int.emod_nonneg _ (by omega), Int.emod_lt_of_pos _ h⟩
theorem atKey {st : Store} {r : Nat} {kvs : List (Key × D)} {s : Str} {x : D} {P : D → Prop} (h : st[r]? = some (.dct kvs)) (g : getK kvs (.inr s) = some x) (p : P x) : som (idxS st (.ref r) (.str s)) P := ⟨x, by simp only [idxS, h, keyOf, g], p⟩
theorem draw_wps {F : Fm} {kd : Str} {k1 k2 k3 k4 k5 k6 k7 k8 k9 k10 : Int} (K : DrawK kd k1 k2 k3 k5 k6 k8 k9 k10) {st : Store} {r c : Nat} {many : Int} {E : EndsD} (hD : Deck kd st r c) (hm : 0 < many) (hm2 : many ≤ 2 ^ 64)
    (q : ∀ v st', 0 ≤ v → v < many → Deck kd st' r c → Fr r c st st' → E.rt (.int v) st') : wps F (drawC kd k1 k2 k3 k4 k5 k6 k7 k8 k9 k10) [some (.ref r), some (.int many), none, none] st E := by
  obtain ⟨n1, n2, s1, s2, s3, s5, s6, s8, s9, s10⟩ := K
  unfold small at s1 s2 s3 s5 s6 s8 s9 s10
  obtain ⟨ns, m, d, hlen, hrc, hr, hc⟩ := hD
  unfold drawC
  -- the end of all ways but one
  have tail : ∀ (i : Int) (x3 : Option D) (st1 : Store), Fr r c st st1 → Deck kd st1 r c → wps F (.seq (.asg (.name 2) (.bin .mod (.blt .int (.cons (.bin .add (.bin .mul (.var 2) (.cst (.int k3))) (.cst (.int k4))) .nil)) (.cst (.int k5)))) (.seq (.asg (.name 2) (.bin .mod (.blt .int (.cons (.bin .add (.bin .add (.bin .mul (.var 2) (.var 2)) (.bin .mul (.cst (.int k6)) (.idx (.var 0) (.cst (.str kd))))) (.cst (.int k7))) .nil)) (.cst (.int k8)))) (.seq (.asg (.name 2) (.bin .mod (.blt .int (.cons (.bin .mul (.var 2) (.cst (.int k9))) .nil)) (.cst (.int k10)))) (.seq (.ret (.bin .mod (.blt .int (.cons (.bin .fdiv (.var 2) (.cst (.int 64))) .nil)) (.var 1))) .done))))
      [some (.ref r), some (.int many), some (.int i), x3] st1 E := by
    intro i x3 st1 hf hD
    have hD' := hD
    obtain ⟨ns1, m1, d1, hlen1, _, hr1, hc1⟩ := hD
    simp [wps_seq]
    refine ⟨mul_okR (by omega), by omega, ?_⟩
    have b1 := mod_lt' (a := i * k3 + k4) (show 0 < k5 by omega)
    generalize (i * k3 + k4) % k5 = i1 at b1
    refine ⟨mul_okL (by omega), atKey hr1 (gk3 n1 n2) ?_⟩
    simp
    refine ⟨mul_okL (by omega), by omega, mul_okR (by omega), by omega, div_ok (by omega) (by omega), hm, ?_⟩
    have b2 := mod_lt' (a := (i1 * i1 + k6 * d1 + k7) % k8 * k9 % k10 / 64) hm
    exact q _ _ b2.1 b2.2 hD' hf
  have hr1 : (st.set r (.dct [(.inr "cells", .ref c), (.inr "mixed", .int m), (.inr kd, .int (d + 1))]))[r]? = some (.dct [(.inr "cells", .ref c), (.inr "mixed", .int m), (.inr kd, .int (d + 1))]) := get_set hr
  have hc1 : (st.set r (.dct [(.inr "cells", .ref c), (.inr "mixed", .int m), (.inr kd, .int (d + 1))]))[c]? = some (.lst (ns.map D.int)) := by rw [List.getElem?_set_ne hrc]; exact hc
  have hf1 : Fr r c st (st.set r (.dct [(.inr "cells", .ref c), (.inr "mixed", .int m), (.inr kd, .int (d + 1))])) := (Fr.refl r c st).set _ (.inl rfl)
  refine seq_i fun X hX => ?_
  simp only [wps_sto, wp_bin, wp_idx, wp_var, wp_cst]
  refine ⟨.ref r, rfl, atKey hr (gk3 n1 n2) ?_⟩
  refine ⟨.ref r, rfl, r, rfl, .inr (.inl ⟨_, _, hr, rfl, by show (3 : Nat) < _; decide, ?_⟩)⟩
  rw [pk3 n1 n2]
  refine hX _ _ ?_
  clear hX X
  generalize st.set r (.dct [(.inr "cells", .ref c), (.inr "mixed", .int m), (.inr kd, .int (d + 1))]) = st1 at hr1 hc1 hf1
  refine seq_i fun X hX => ?_
  simp only [wps_asg, wp_bin, wp_idx, wp_var, wp_cst]
  refine ⟨.ref r, rfl, atKey hr1 gk2 ⟨.ref r, rfl, atKey hr1 (gk3 n1 n2) ?_⟩⟩
  simp
  refine ⟨mul_okL (by omega), hX _ _ ?_⟩
  clear hX X
  generalize m + k1 * (d + 1) = num
  refine seq_i fun X hX => ite_i fun Y Z hY hZ => ?_
  simp only [wp_cmp, wp_idx, wp_var, wp_cst, wp_lst, wp_nil]
  refine ⟨.ref r, rfl, atKey hr1 gk1 ⟨[], rfl, by simp, ?_⟩⟩
  have hr2 := get_app hr1 [.lst []]
  have hc2 := get_app hc1 [.lst []]
  have hf2 := hf1.app [.lst []]
  have hD2 : Deck kd (st1 ++ [.lst []]) r c := ⟨ns, m, d + 1, hlen, hrc, hr2, hc2⟩
  refine ne_nil' hc2 (by simp) ?_
  generalize st1 ++ [.lst []] = st2 at hr2 hc2 hf2 hD2
  refine Br.b (fun hne => ?_) (fun hne => hZ _ (hX _ _ (tail _ _ _ hf2 hD2)))
  have hne' : ns ≠ [] := by
    rintro rfl
    simp at hne
  have hpos := List.length_pos_iff.mpr hne'
  refine hY _ (seq_i fun X2 hX2 => ?_)
  simp only [wps_asg, wp_mth, wp_idx, wp_var, wp_cst, wp_nil]
  refine ⟨.ref r, rfl, atKey hr2 gk1 ⟨ns.map D.int, by simp only [listS, hc2], [], rfl, c, ns.map D.int, .int (ns[ns.length - 1]'(by omega)), rfl, rfl, hc2, ?_, ?_⟩⟩
  · rw [List.length_map, List.getElem?_map, List.getElem?_eq_getElem (by omega)]
    rfl
  · generalize ns[ns.length - 1]'(by omega) = cell
    have hc3 : (st2.set c (.lst (ns.map D.int).dropLast))[c]? = some (.lst (ns.dropLast.map D.int)) := by rw [get_set hc2, List.map_dropLast]
    have hr3 : (st2.set c (.lst (ns.map D.int).dropLast))[r]? = _ := (List.getElem?_set_ne (Ne.symm hrc)).trans hr2
    have hf3 := hf2.set (.lst (ns.map D.int).dropLast) (.inr rfl : c = r ∨ c = c)
    have hl3 : ns.dropLast.length ≤ 62 := by rw [List.length_dropLast]; omega
    generalize st2.set c (.lst (ns.map D.int).dropLast) = st3 at hc3 hr3 hf3
    have hD3 : Deck kd st3 r c := ⟨ns.dropLast, m, d + 1, by omega, hrc, hr3, hc3⟩
    simp
    refine hX2 _ _ (seq_i fun X3 hX3 => ite_i fun Y3 Z3 hY3 hZ3 => ?_)
    simp
    refine ⟨⟨by decide, by decide, by decide⟩, Br.dec (fun hbig => ?_) (fun _ => hZ3 _ (hX3 _ _ (seq_i fun X4 hX4 => ?_)))⟩
    · refine hY3 _ (seq_i fun X4 hX4 => ?_)
      simp
      refine atKey hr3 gk1 ⟨ns.dropLast.map D.int, by simp only [listS, hc3], div_ok64 (by split <;> omega) (by split <;> omega), ?_⟩
      refine ⟨c, _, _, rfl, rfl, hc3, ?_, hX4 _ _ (seq_i fun X5 hX5 => ?_)⟩
      · rw [List.length_map, sizeLine_eq]
        omega
      · simp
        have b2 := mod_lt' (a := cell) hm
        refine ⟨hm, q _ _ b2.1 b2.2 ⟨ns.dropLast ++ [cell / (if 2 < many then many else 2)], m, d + 1, by simp; omega, hrc, (List.getElem?_set_ne (Ne.symm hrc)).trans hr3, ?_⟩ (hf3.set _ (.inr rfl))⟩
        rw [get_set hc3]
        simp [List.map_dropLast]
    · simp
      exact ⟨by omega, hX4 _ _ (hX _ _ (tail _ _ _ hf3 hD3))⟩
theorem cut_map {α β : Type} (f : α → β) (xs : List α) (lo hi : Option Int) : cut (xs.map f) lo hi = (cut xs lo hi).map f := by
  simp [cut, List.map_take, List.map_drop]
theorem cut_len {α : Type} (xs : List α) (lo hi : Option Int) : (cut xs lo hi).length ≤ xs.length := by
  unfold cut
  rw [List.length_take, List.length_drop]
  omega
def deckC (kd : Str) (k0 k1 k2 k3 k4 : Int) : S := (.seq (.asg (.name 1) (.cst (.int k0))) (.seq (.loop (.name 2) .plain (.cons (.slc false true (.var 0) (.cst .non) (.cst (.int 63))) .nil) (.seq (.asg (.name 1) (.bin .mod (.blt .int (.cons (.bin .add (.bin .add (.bin .mul (.var 1) (.cst (.int k1))) (.bin .mod (.blt .int (.cons (.var 2) .nil)) (.cst (.int k2)))) (.cst (.int k3))) .nil)) (.cst (.int k4)))) .done)) (.seq (.ret (.dsp [.inr "cells", .inr "mixed", .inr kd] (.cons (.revL (.blt .list (.cons (.slc false true (.var 0) (.cst .non) (.cst (.int 63))) .nil))) (.cons (.var 1) (.cons (.cst (.int 0)) .nil))))) .done)))
theorem slc_frz {st : Store} {n : Nat} {xs : List D} {lo hi : Option Int} {Q : K1} (h : st[n]? = some (.frz xs)) (q : Q (.ref st.length) (st ++ [.lst (cut xs lo hi)])) : slcS (.ref n) lo hi st Q := by
  unfold slcS
  simp only [h]
  exact q
theorem slc_lst {st : Store} {n : Nat} {xs : List D} {lo hi : Option Int} {Q : K1} (h : st[n]? = some (.lst xs)) (q : Q (.ref st.length) (st ++ [.lst (cut xs lo hi)])) : slcS (.ref n) lo hi st Q := by
  unfold slcS
  simp only [h]
  exact q
theorem get_last {st : Store} {x : Cell} : (st ++ [x])[st.length]? = some x := by simp
theorem deck_wps {F : Fm} {kd : Str} {k0 k1 k2 k3 k4 : Int} (s1 : small k1) (s2 : small k2) (s4 : small k4) {st : Store} {ns : List Int} {n : Nat} {E : EndsD} (hs : st[n]? = some (.frz (ns.map D.int))) (hl : ns.length ≤ 63)
    (q : ∀ st' r c, Deck kd st' r c → n ≠ r → n ≠ c → st.length ≤ st'.length → (∀ i, i < st.length → st'[i]? = st[i]?) → E.rt (.ref r) st') : wps F (deckC kd k0 k1 k2 k3 k4) [some (.ref n), none, none] st E := by
  unfold small at s1 s2 s4
  unfold deckC
  refine seq_i fun X hX => ?_
  simp
  refine hX _ _ (seq_i fun X2 hX2 => ?_)
  simp only [wps_loop, wp_cons, wp_slc, wp_var, wp_cst, part_f, part_t, som_some, wp_nil]
  refine ⟨.ref n, rfl, slc_frz hs ⟨[], rfl, _, rfl, ?_⟩⟩
  rw [cut_map]
  have hn := (List.getElem?_eq_some_iff.mp hs).1
  have e1 : (st ++ [Cell.lst ((cut ns none (some 63)).map D.int)])[st.length]? = some (.lst ((cut ns none (some 63)).map D.int)) := get_last
  simp only [it_plain, srcOf, e1, Option.map_some, som_some]
  have hs1 := get_app hs [Cell.lst ((cut ns none (some 63)).map D.int)]
  refine for_live (xs := (cut ns none (some 63)).map D.int) (fun i ρ st1 => (∃ m x, ρ = [some (.ref n), some (.int m), x]) ∧ st1 = st ++ [Cell.lst ((cut ns none (some 63)).map D.int)]) ⟨⟨k0, none, rfl⟩, rfl⟩ (fun i ρ st1 h => ?_) (fun i d ρ st1 Y hd h hY => ?_) (fun ρ st1 h => ?_)
  · obtain ⟨_, rfl⟩ := h
    simp only [Src.at, e1]
  · obtain ⟨⟨m, x, rfl⟩, rfl⟩ := h
    rw [List.getElem?_map] at hd
    obtain ⟨cell, _, rfl⟩ := Option.map_eq_some_iff.mp hd
    refine ⟨_, rfl, seq_i fun X3 hX3 => ?_⟩
    simp
    exact ⟨mul_okR (by omega), by omega, by omega, hX3 _ _ (hY _ _ ⟨⟨_, _, rfl⟩, rfl⟩)⟩
  · obtain ⟨⟨m, x, rfl⟩, rfl⟩ := h
    refine hX2 _ _ (seq_i fun X3 hX3 => ?_)
    simp only [wps_ret, wp_dsp, wp_cons, wp_revL, wp_blt, wp_slc, wp_var, wp_cst, part_f, part_t, som_some, wp_nil]
    refine ⟨.ref n, rfl, slc_frz hs1 ⟨[], rfl, [.ref _], rfl, ?_⟩⟩
    rw [cut_map]
    generalize hC : (cut ns none (some 63)).map D.int = cs
    rw [bl_listL (xs := cs) get_last]
    refine ⟨cs, by simp only [listS, get_last], .int m, rfl, [], rfl, [.int 0], rfl, [.int m, .int 0], rfl, [.ref _, .int m, .int 0], rfl, ?_⟩
    have hlen := cut_len ns none (some 63)
    have key : ∀ S3 : Store, st.length ≤ S3.length → (∀ i, i < st.length → S3[i]? = st[i]?) → E.rt (.ref (S3 ++ [Cell.lst cs.reverse]).length) (S3 ++ [Cell.lst cs.reverse] ++ [Cell.dct [(.inr "cells", .ref S3.length), (.inr "mixed", .int m), (.inr kd, .int 0)]]) := fun S3 h1 h2 => by
      refine q _ _ S3.length ⟨(cut ns none (some 63)).reverse, m, 0, by simp; omega, by simp, get_last, ?_⟩ (by simp; omega) (by omega) (by simp; omega) (fun i hi => ?_)
      · rw [List.map_reverse, hC]
        exact get_app get_last _
      · rw [List.getElem?_append_left (by simp; omega), List.getElem?_append_left (by omega)]
        exact h2 i hi
    refine key _ (by simp) (fun i hi => ?_)
    rw [List.getElem?_append_left (by simp; omega), List.getElem?_append_left (by simp; omega), List.getElem?_append_left hi]
theorem at_nat {α : Type} {xs : List α} {t : Nat} (h : t < xs.length) : atI xs (t : Int) = some xs[t] := by
  unfold atI ixN
  rw [if_pos (by omega), if_pos (by omega)]
  simp [List.getElem?_eq_getElem h]
theorem at_get {α : Type} {xs : List α} {t : Nat} {x : α} (h : xs[t]? = some x) : atI xs (t : Int) = some x := by
  obtain ⟨h1, h2⟩ := List.getElem?_eq_some_iff.mp h
  rw [at_nat h1, h2]
@[simp] theorem at_0 {α : Type} {x : α} {xs : List α} : atI (x :: xs) 0 = some x := at_get (t := 0) rfl
@[simp] theorem at_1 {α : Type} {x y : α} {xs : List α} : atI (x :: y :: xs) 1 = some y := at_get (t := 1) rfl
@[simp] theorem at_2 {α : Type} {x y z : α} {xs : List α} : atI (x :: y :: z :: xs) 2 = some z := at_get (t := 2) rfl
theorem at_ints {ns : List Int} {t : Nat} {b : Int} (h : ns[t]? = some b) : atI (ns.map D.int) (t : Int) = some (.int b) := at_get (by rw [List.getElem?_map, h]; rfl)
theorem shl_ok {i j : Int} (h : -(2 ^ 64) < i ∧ i < 2 ^ 64) (h0 : 0 ≤ j) (h1 : j ≤ 100000) : CShl i j := by
  refine ⟨h0, ?_⟩
  have := intBits_le_64 h.1 h.2
  have e : (2 : Int) ^ 27 = 134217728 := by decide
  omega
theorem mapO_bl : ∀ bs : List Bool, mapO asBl (bs.map D.bl) = some bs
  | [] => rfl
  | b :: bs => by simp only [List.map_cons, mapO, asBl, mapO_bl bs]
theorem mapO_int : ∀ ns : List Int, mapO asInt (ns.map D.int) = some ns
  | [] => rfl
  | b :: bs => by simp only [List.map_cons, mapO, asInt, mapO_int bs]
theorem bl_all {st : Store} {n : Nat} {bs : List Bool} {Q : K1} (h : st[n]? = some (.lst (bs.map D.bl))) (q : Q (.bl (bs.all id)) st) : bltS .all [.ref n] st Q := ⟨_, _, bs, rfl, by simp only [listS, h], mapO_bl bs, q⟩
theorem bl_any {st : Store} {n : Nat} {bs : List Bool} {Q : K1} (h : st[n]? = some (.lst (bs.map D.bl))) (q : Q (.bl (bs.any id)) st) : bltS .any [.ref n] st Q := ⟨_, _, bs, rfl, by simp only [listS, h], mapO_bl bs, q⟩
theorem bl_sum {st : Store} {n : Nat} {ns : List Int} {Q : K1} (h : st[n]? = some (.lst (ns.map D.int))) (q : Q (.int ns.sum) st) : bltS .sum [.ref n] st Q := ⟨_, _, ns, rfl, by simp only [listS, h], mapO_int ns, q⟩
theorem Br.gt {b : Bool} {A B : Prop} (h : b = true) (h1 : A) : Br (.bl b) A B := by
  subst h
  exact br_t.mpr h1
theorem Br.gf {b : Bool} {A B : Prop} (h : b = false) (h1 : B) : Br (.bl b) A B := by
  subst h
  exact br_f.mpr h1
theorem small62_of {i : Int} (h : -1000000 ≤ i ∧ i ≤ 1000000) : small62 i := by
  unfold small62
  omega
end Cb

namespace Cb
open PySem PySem.Spec PyProof.Rows L2
/-! ### plain data: whole numbers and tuples of such: == is sameness -/
mutual
def pl : D → Bool
  | .int i => decide (i.natAbs < 10 ^ 12)
  | .tup xs => plAll xs
  | .non => false
  | .bl _ => false
  | .str _ => false
  | .ref _ => false
  | .ktp _ => false
def plAll : List D → Bool
  | [] => true
  | x :: xs => pl x && plAll xs
end
mutual
theorem sm_of_pl : ∀ d : D, pl d = true → sm d = true
  | .int i, h => by simpa only [pl, sm] using h
  | .tup xs, h => by
    simp only [sm]
    exact smAll_of_pl xs (by simpa only [pl] using h)
  | .non, h => by simp [pl] at h
  | .bl _, h => by simp [pl] at h
  | .str _, h => by simp [pl] at h
  | .ref _, h => by simp [pl] at h
  | .ktp _, h => by simp [pl] at h
theorem smAll_of_pl : ∀ ds : List D, plAll ds = true → smAll ds = true
  | [], _ => by simp only [smAll]
  | d :: ds, h => by
    simp only [plAll, Bool.and_eq_true] at h
    simp only [smAll, Bool.and_eq_true]
    exact ⟨sm_of_pl d h.1, smAll_of_pl ds h.2⟩
end
mutual
theorem eqv_pl : ∀ x y : D, pl x = true → pl y = true → (PyData.eqv (py x) (py y) = true ↔ x = y)
  | .int i, .int j, _, _ => by simp [py, PyData.eqv]
  | .int i, .tup ys, _, _ => by simp [py, PyData.eqv]
  | .tup xs, .int j, _, _ => by simp [py, PyData.eqv]
  | .tup xs, .tup ys, h1, h2 => by
    simp only [py, PyData.eqv, D.tup.injEq]
    exact eqvAll_pl xs ys (by simpa only [pl] using h1) (by simpa only [pl] using h2)
  | .non, _, h, _ => by simp [pl] at h
  | .bl _, _, h, _ => by simp [pl] at h
  | .str _, _, h, _ => by simp [pl] at h
  | .ref _, _, h, _ => by simp [pl] at h
  | .ktp _, _, h, _ => by simp [pl] at h
  | .int _, .non, _, h => by simp [pl] at h
  | .int _, .bl _, _, h => by simp [pl] at h
  | .int _, .str _, _, h => by simp [pl] at h
  | .int _, .ref _, _, h => by simp [pl] at h
  | .tup _, .non, _, h => by simp [pl] at h
  | .tup _, .bl _, _, h => by simp [pl] at h
  | .tup _, .str _, _, h => by simp [pl] at h
  | .tup _, .ref _, _, h => by simp [pl] at h
theorem eqvAll_pl : ∀ xs ys : List D, plAll xs = true → plAll ys = true → (PyData.eqvAll (pyAll xs) (pyAll ys) = true ↔ xs = ys)
  | [], [], _, _ => by simp [pyAll, PyData.eqvAll]
  | [], y :: ys, _, _ => by simp [pyAll, PyData.eqvAll]
  | x :: xs, [], _, _ => by simp [pyAll, PyData.eqvAll]
  | x :: xs, y :: ys, h1, h2 => by
    simp only [plAll, Bool.and_eq_true] at h1 h2
    simp only [pyAll, PyData.eqvAll, Bool.and_eq_true, List.cons.injEq]
    rw [eqv_pl x y h1.1 h2.1, eqvAll_pl xs ys h1.2 h2.2]
end
theorem plAll_map {α : Type} {f : α → D} : ∀ {xs : List α}, (∀ x ∈ xs, pl (f x) = true) → plAll (xs.map f) = true
  | [], _ => by simp only [List.map_nil, plAll]
  | x :: xs, h => by
    simp only [List.map_cons, plAll, Bool.and_eq_true]
    exact ⟨h x (by simp), plAll_map fun y hy => h y (by simp [hy])⟩
theorem depAll_map {α : Type} {f : α → D} {n : Nat} : ∀ {xs : List α}, (∀ x ∈ xs, dep (f x) ≤ n) → depAll (xs.map f) ≤ n
  | [], _ => by simp only [List.map_nil, depAll]; omega
  | x :: xs, h => by
    simp only [List.map_cons, depAll]
    have h1 := h x (by simp)
    have h2 := depAll_map (f := f) (n := n) fun y hy => h y (List.mem_cons_of_mem x hy)
    omega
theorem cntAll_map {α : Type} {f : α → D} {n : Nat} : ∀ {xs : List α}, (∀ x ∈ xs, cnt (f x) ≤ n) → cntAll (xs.map f) ≤ xs.length * (n + 1)
  | [], _ => by simp only [List.map_nil, cntAll]; omega
  | x :: xs, h => by
    simp only [List.map_cons, cntAll, List.length_cons]
    have h1 := h x (by simp)
    have h2 := cntAll_map (f := f) (n := n) fun y hy => h y (List.mem_cons_of_mem x hy)
    have e : (xs.length + 1) * (n + 1) = xs.length * (n + 1) + (n + 1) := by rw [Nat.add_mul, Nat.one_mul]
    omega
theorem c_eqP {x y : D} {st : Store} {Q : K1} (ht : ∃ xs, x = .tup xs) (hx : Sm x) (hy : Sm y) (px : pl x = true) (py' : pl y = true) (h : (x = y → Q (.bl true) st) ∧ (x ≠ y → Q (.bl false) st)) : cmpS .eq x y st Q := by
  obtain ⟨xs, rfl⟩ := ht
  refine ⟨_, c_eqU (by cases y <;> trivial) (hx.toPy st) (hy.toPy st) (by rw [hx.shaped, hy.shaped]; rfl), ?_⟩
  by_cases e : D.tup xs = y
  · rw [(eqv_pl _ _ px py').mpr e]
    exact h.1 e
  · rw [Bool.eq_false_iff.mpr fun z => e ((eqv_pl _ _ px py').mp z)]
    exact h.2 e
theorem c_neP {x y : D} {st : Store} {Q : K1} (ht : ∃ xs, x = .tup xs) (hx : Sm x) (hy : Sm y) (px : pl x = true) (py' : pl y = true) (h : (x = y → Q (.bl false) st) ∧ (x ≠ y → Q (.bl true) st)) : cmpS .ne x y st Q := by
  obtain ⟨xs, rfl⟩ := ht
  refine ⟨_, c_eqU (by cases y <;> trivial) (hx.toPy st) (hy.toPy st) (by rw [hx.shaped, hy.shaped]; rfl), ?_⟩
  by_cases e : D.tup xs = y
  · rw [(eqv_pl _ _ px py').mpr e]
    exact h.1 e
  · rw [Bool.eq_false_iff.mpr fun z => e ((eqv_pl _ _ px py').mp z)]
    exact h.2 e
/-- a tuple of numbers -/
def ti (w : List Int) : D := .tup (w.map D.int)
theorem ti_inj {v w : List Int} (h : ti v = ti w) : v = w := by
  unfold ti at h
  injection h with h
  exact (List.map_inj_right fun a b e => by injection e).mp h
theorem pl_ti {w : List Int} (h : ∀ b ∈ w, b.natAbs < 10 ^ 12) : pl (ti w) = true := by
  simp only [ti, pl]
  exact plAll_map fun x hx => by simpa [pl] using h x hx
theorem dep_ti {w : List Int} : dep (ti w) ≤ 1 := by
  simp only [ti, dep]
  have := depAll_map (f := D.int) (n := 0) (xs := w) fun x _ => by simp [dep]
  omega
theorem cnt_ti {w : List Int} : cnt (ti w) ≤ w.length := by
  simp only [ti, cnt]
  have := cntAll_map (f := D.int) (n := 0) (xs := w) fun x _ => by simp [cnt]
  omega
theorem sm_ti {w : List Int} (h : ∀ b ∈ w, b.natAbs < 10 ^ 12) (hl : w.length ≤ 20000) : Sm (ti w) := ⟨sm_of_pl _ (pl_ti h), by have := dep_ti (w := w); omega, by have := cnt_ti (w := w); omega⟩
/-! ### lists shown -/
theorem repr_list {st : Store} {n : Nat} {xs : List D} {Q : K1} (h : st[n]? = some (.lst xs)) (hs : smAll xs = true) (hd : depAll xs ≤ 30) (hc : cntAll xs ≤ 20000) (q : Q (.str (PyData.list (pyAll xs)).shown) st) : bltS .repr [.ref n] st Q := by
  have hw := weightAll_sm xs hs
  refine ⟨.ref n, .list (pyAll xs), rfl, ?_, ⟨?_, ?_, ?_, ?_⟩, q⟩
  · show (match st[n]? with | some (.lst xs) => _ | some (.frz xs) => _ | _ => _) = _
    rw [h]
    show (mapO _ _).map _ = _
    rw [toPyAll_sm st xs 31 hs (by omega)]
    rfl
  · simp only [PyData.showable]
    exact showAll_sm xs hs
  · exact PyData.hasDict_of_canLay _ (by simp only [PyData.canLay0]; exact canLayAll_sm xs hs)
  · simp only [PyData.depth]
    rw [depAll_py xs hs]
    omega
  · refine PyData.shown_fits (B := 13) (by decide) (by decide) (by simp only [PyData.leavesShort]; exact shortAll_sm xs hs) ?_
    simp only [PyData.weight]
    have : (2 : Nat) ^ 20 = 1048576 := by decide
    omega
/-! ### fractions in lowest terms -/
theorem cut_from {α : Type} {xs : List α} {n : Nat} : cut xs (some (n : Int)) none = xs.drop n := by
  unfold cut
  rw [HT.sIx_none, HT.sIx_nat]
  by_cases h : n ≤ xs.length
  · rw [Nat.min_eq_left h, ← List.length_drop, List.take_length]
  · rw [Nat.min_eq_right (by omega), List.drop_eq_nil_of_le (Nat.le_refl _), List.drop_eq_nil_of_le (by omega)]
    simp
theorem cut_to {α : Type} {xs : List α} {n : Nat} : cut xs none (some (n : Int)) = xs.take n := by
  unfold cut
  rw [HT.sIx_none, HT.sIx_nat, List.drop_zero, Nat.sub_zero]
  by_cases h : n ≤ xs.length
  · rw [Nat.min_eq_left h]
  · rw [Nat.min_eq_right (by omega), List.take_length, List.take_of_length_le (by omega)]
theorem cut_mid {α : Type} {xs : List α} {n m : Nat} : cut xs (some (n : Int)) (some (m : Int)) = (xs.drop n).take (m - n) := by
  unfold cut
  rw [HT.sIx_nat, HT.sIx_nat]
  by_cases h : n ≤ xs.length
  · rw [Nat.min_eq_left h]
    by_cases h2 : m ≤ xs.length
    · rw [Nat.min_eq_left h2]
    · rw [Nat.min_eq_right (by omega), List.take_of_length_le (by simp), List.take_of_length_le (by simp; omega)]
  · rw [Nat.min_eq_right (by omega : xs.length ≤ n), List.drop_eq_nil_of_le (Nat.le_refl _), List.drop_eq_nil_of_le (by omega)]
    simp
end Cb

namespace Cb
open PySem PySem.Spec PyProof.Rows L2
/-! ### fractions: the common divisor, lowest terms, sums -/
def divC : S := (.seq (.asg (.name 0) (.blt .abs (.cons (.var 0) .nil))) (.seq (.whil (.cmp .ne (.var 1) (.cst (.int 0))) (.seq (.par [0, 1] (.cons (.var 1) (.cons (.bin .mod (.var 0) (.var 1)) .nil))) .done)) (.seq (.ret (.var 0)) .done)))
theorem abs_nat (a : Int) : (if a < 0 then -a else a) = (a.natAbs : Int) := by split <;> omega
theorem emod_nat (a b : Nat) : ((a : Int) % (b : Int)) = ((a % b : Nat) : Int) := by omega
theorem div_wps {F : Fm} {a : Int} {b : Nat} {st : Store} {E : EndsD} (q : E.rt (.int (Nat.gcd a.natAbs b : Nat)) st) : wps F divC [some (.int a), some (.int b)] st E := by
  unfold divC
  refine seq_i fun X hX => ?_
  simp
  rw [abs_nat]
  refine hX _ _ (seq_i fun X2 hX2 => ?_)
  simp only [wps_whil]
  refine while_inv (fun m ρ st' => st' = st ∧ ∃ x y : Nat, ρ = [some (.int x), some (.int y)] ∧ Nat.gcd x y = Nat.gcd a.natAbs b ∧ m = y) (fun m ρ st' Y ⟨e1, x, y, e2, h1, h2⟩ hY => ?_) (m := b) ⟨rfl, a.natAbs, b, rfl, rfl, rfl⟩
  subst e1 e2 h2
  by_cases hy : m = 0
  · subst hy
    simp
    refine hX2 _ _ ?_
    rw [Nat.gcd_zero_right] at h1
    simp [wps_seq, h1]
    exact q
  · have hne : ¬ ((m : Int) = 0) := by omega
    simp [wps_seq, hy]
    refine ⟨by omega, hY (x % m) _ _ (Nat.mod_lt _ (by omega)) ⟨rfl, m, x % m, by simp, ?_, rfl⟩⟩
    rw [← h1, Nat.gcd_comm x m, Nat.gcd_rec m x, Nat.gcd_comm]
def lowC (f : Nat) : S := (.seq (.asg (.name 2) (.call f 2 0 [0, 1] (.cons (.var 0) (.cons (.var 1) .nil)) .nil)) (.seq (.ret (.tup (.cons (.bin .fdiv (.var 0) (.var 2)) (.cons (.bin .fdiv (.var 1) (.var 2)) .nil)))) .done))
theorem low_wps {F : Fm} {f : Nat} (hf : ∀ (a : Int) (b : Nat) (st : Store) (Q : K1), Q (.int (Nat.gcd a.natAbs b : Nat)) st → F f [.int a, .int b] st Q) {a : Int} {b : Nat} {st : Store} {E : EndsD} (hb : 0 < b) (hb2 : b ≤ 2 ^ 64)
    (q : E.rt (.tup [.int (a / (Nat.gcd a.natAbs b : Nat)), .int (b / Nat.gcd a.natAbs b : Nat)]) st) : wps F (lowC f) [some (.int a), some (.int b), none] st E := by
  have hg : 0 < Nat.gcd a.natAbs b := Nat.gcd_pos_of_pos_right _ hb
  have hg2 : Nat.gcd a.natAbs b ≤ b := Nat.gcd_le_right _ hb
  unfold lowC
  refine seq_i fun X hX => ?_
  simp [permN, permL]
  refine hf _ _ _ _ (hX _ _ ?_)
  simp [wps_seq]
  exact ⟨div_ok64 (by omega) (by omega), div_ok64 (by omega) (by omega), q⟩
def plusC (f : Nat) : S := (.seq (.ret (.call f 2 0 [0, 1] (.cons (.bin .add (.bin .mul (.idx (.var 0) (.cst (.int 0))) (.idx (.var 1) (.cst (.int 1)))) (.bin .mul (.idx (.var 1) (.cst (.int 0))) (.idx (.var 0) (.cst (.int 1))))) (.cons (.bin .mul (.idx (.var 0) (.cst (.int 1))) (.idx (.var 1) (.cst (.int 1)))) .nil)) .nil)) .done)
theorem plus_wps {F : Fm} {f : Nat} {p1 p2 q1 q2 : Int} (h1 : 0 < q1 ∧ q1 < 2 ^ 64) (h2 : 0 < q2 ∧ q2 < 2 ^ 64) {st : Store} {E : EndsD} (q : F f [.int (p1 * q2 + p2 * q1), .int (q1 * q2)] st E.rt) : wps F (plusC f) [some (.tup [.int p1, .int q1]), some (.tup [.int p2, .int q2])] st E := by
  unfold plusC
  simp [wps_seq, permN, permL]
  exact ⟨mul_okR (by omega), mul_okR (by omega), mul_okR (by omega), q⟩
end Cb

namespace Cb
open PySem PySem.Spec PyProof.Rows L2
/-! ### loops over enumerate of a tuple; comprehensions of two clauses -/
theorem step_enum {xs : List D} {st : Store} {i : Nat} (h : i < xs.length) : (ItD.enum (.seq xs)).step i st = some (some (.tup [.int i, xs[i]])) := by
  simp [ItD.step, Src.at, List.getElem?_eq_getElem h]
theorem end_enum {xs : List D} {st : Store} : (ItD.enum (.seq xs)).step xs.length st = some none := by
  simp [ItD.step, Src.at]
theorem for_enum {xs : List D} {bind : D → Env1 → Option Env1} {wb : Env1 → Store → EndsD → Prop} {E : EndsD} (I : Nat → Env1 → Store → Prop) {ρ : Env1} {st : Store} (h0 : I 0 ρ st)
    (hs : ∀ i d ρ st (X : Env1 → Store → Prop), xs[i]? = some d → I i ρ st → (∀ ρ' st', I (i + 1) ρ' st' → X ρ' st') → ∃ ρ1, bind (.tup [.int i, d]) ρ = some ρ1 ∧ wb ρ1 st ⟨X, E.rt, E.nx, X⟩)
    (he : ∀ ρ st, I xs.length ρ st → E.nx ρ st) : ∃ n, forLoop (ItD.enum (.seq xs)).step bind wb E n 0 ρ st :=
  ⟨_, for_inv I xs.length (fun i ρ st X hi h hx => by
    obtain ⟨ρ1, h1, h2⟩ := hs i _ ρ st X (List.getElem?_eq_getElem hi) h hx
    exact ⟨_, ρ1, step_enum hi, h1, h2⟩) (fun ρ st h => ⟨end_enum, he ρ st h⟩) (Nat.zero_le _) h0⟩
theorem lc_enum {xs : List D} {bind : D → Option Env1} {wc we : Env1 → Store → K1 → Prop} {Q : K1} (I : Nat → List D → Store → Prop) {st : Store} (h0 : I 0 [] st)
    (hs : ∀ i d acc st (X : List D → Store → Prop), xs[i]? = some d → I i acc st → (∀ acc' st', I (i + 1) acc' st' → X acc' st') → ∃ ρ1, bind (.tup [.int i, d]) = some ρ1 ∧ wc ρ1 st fun b st1 => Br b (we ρ1 st1 fun y st2 => acc.length < sizeLine ∧ X (acc ++ [y]) st2) (X acc st1))
    (he : ∀ acc st, I xs.length acc st → Q (.ref st.length) (st ++ [.lst acc])) : ∃ n, lcLoop (ItD.enum (.seq xs)).step bind wc we Q n 0 [] st :=
  ⟨_, lc_inv I xs.length (fun i acc st X hi h hx => by
    obtain ⟨ρ1, h1, h2⟩ := hs i _ acc st X (List.getElem?_eq_getElem hi) h hx
    exact ⟨_, ρ1, step_enum hi, h1, h2⟩) (fun acc st h => ⟨end_enum, he acc st h⟩) (Nat.zero_le _) h0⟩
theorem lc2_inv {step : Nat → Store → Option (Option D)} {bind : D → Option Env1} {wc : Env1 → Store → K1 → Prop} {inner : Env1 → List D → Store → (List D → Store → Prop) → Prop} {Q : K1} (I : Nat → List D → Store → Prop) (len : Nat)
    (hs : ∀ i acc st (X : List D → Store → Prop), i < len → I i acc st → (∀ acc' st', I (i + 1) acc' st' → X acc' st') → ∃ d ρ1, step i st = some (some d) ∧ bind d = some ρ1 ∧ wc ρ1 st fun b st1 => Br b (inner ρ1 acc st1 X) (X acc st1))
    (he : ∀ acc st, I len acc st → step len st = some none ∧ Q (.ref st.length) (st ++ [.lst acc])) : ∀ {i : Nat} {acc : List D} {st : Store}, i ≤ len → I i acc st → lc2Loop step bind wc inner Q (len - i + 1) i acc st := by
  intro i acc st hi h
  generalize hk : len - i = k
  induction k generalizing i acc st with
  | zero =>
    obtain rfl : i = len := by omega
    obtain ⟨h1, h2⟩ := he _ _ h
    unfold lc2Loop
    rw [h1]
    exact h2
  | succ k ih =>
    obtain ⟨d, ρ1, h1, h2, h3⟩ := hs i acc st (lc2Loop step bind wc inner Q (k + 1) (i + 1)) (by omega) h fun ρ' st' h' => ih (by omega) h' (by omega)
    unfold lc2Loop
    rw [h1]
    exact ⟨ρ1, h2, h3⟩
theorem in_inv {step : Nat → Store → Option (Option D)} {bind : D → Option Env1} {wc we : Env1 → Store → K1 → Prop} {K : List D → Store → Prop} (I : Nat → List D → Store → Prop) (len : Nat)
    (hs : ∀ i acc st (X : List D → Store → Prop), i < len → I i acc st → (∀ acc' st', I (i + 1) acc' st' → X acc' st') → ∃ d ρ1, step i st = some (some d) ∧ bind d = some ρ1 ∧ wc ρ1 st fun b st1 => Br b (we ρ1 st1 fun y st2 => acc.length < sizeLine ∧ X (acc ++ [y]) st2) (X acc st1))
    (he : ∀ acc st, I len acc st → step len st = some none ∧ K acc st) : ∀ {i : Nat} {acc : List D} {st : Store}, i ≤ len → I i acc st → lcIn step bind wc we K (len - i + 1) i acc st := by
  intro i acc st hi h
  generalize hk : len - i = k
  induction k generalizing i acc st with
  | zero =>
    obtain rfl : i = len := by omega
    obtain ⟨h1, h2⟩ := he _ _ h
    unfold lcIn
    rw [h1]
    exact h2
  | succ k ih =>
    obtain ⟨d, ρ1, h1, h2, h3⟩ := hs i acc st (lcIn step bind wc we K (k + 1) (i + 1)) (by omega) h fun ρ' st' h' => ih (by omega) h' (by omega)
    unfold lcIn
    rw [h1]
    exact ⟨ρ1, h2, h3⟩
theorem step_seq {xs : List D} {st : Store} {i : Nat} (h : i < xs.length) : (ItD.src (.seq xs)).step i st = some (some xs[i]) := by
  simp [ItD.step, Src.at, List.getElem?_eq_getElem h]
theorem end_seq {xs : List D} {st : Store} : (ItD.src (.seq xs)).step xs.length st = some none := by
  simp [ItD.step, Src.at]
theorem lc2_seq {xs : List D} {bind : D → Option Env1} {wc : Env1 → Store → K1 → Prop} {inner : Env1 → List D → Store → (List D → Store → Prop) → Prop} {Q : K1} (I : Nat → List D → Store → Prop) {st : Store} (h0 : I 0 [] st)
    (hs : ∀ i d acc st (X : List D → Store → Prop), xs[i]? = some d → I i acc st → (∀ acc' st', I (i + 1) acc' st' → X acc' st') → ∃ ρ1, bind d = some ρ1 ∧ wc ρ1 st fun b st1 => Br b (inner ρ1 acc st1 X) (X acc st1))
    (he : ∀ acc st, I xs.length acc st → Q (.ref st.length) (st ++ [.lst acc])) : ∃ n, lc2Loop (ItD.src (.seq xs)).step bind wc inner Q n 0 [] st :=
  ⟨_, lc2_inv I xs.length (fun i acc st X hi h hx => by
    obtain ⟨ρ1, h1, h2⟩ := hs i _ acc st X (List.getElem?_eq_getElem hi) h hx
    exact ⟨_, ρ1, step_seq hi, h1, h2⟩) (fun acc st h => ⟨end_seq, he acc st h⟩) (Nat.zero_le _) h0⟩
theorem in_seq {xs : List D} {bind : D → Option Env1} {wc we : Env1 → Store → K1 → Prop} {K : List D → Store → Prop} (I : Nat → List D → Store → Prop) {acc : List D} {st : Store} (h0 : I 0 acc st)
    (hs : ∀ i d acc st (X : List D → Store → Prop), xs[i]? = some d → I i acc st → (∀ acc' st', I (i + 1) acc' st' → X acc' st') → ∃ ρ1, bind d = some ρ1 ∧ wc ρ1 st fun b st1 => Br b (we ρ1 st1 fun y st2 => acc.length < sizeLine ∧ X (acc ++ [y]) st2) (X acc st1))
    (he : ∀ acc st, I xs.length acc st → K acc st) : ∃ n, lcIn (ItD.src (.seq xs)).step bind wc we K n 0 acc st :=
  ⟨_, in_inv I xs.length (fun i acc st X hi h hx => by
    obtain ⟨ρ1, h1, h2⟩ := hs i _ acc st X (List.getElem?_eq_getElem hi) h hx
    exact ⟨_, ρ1, step_seq hi, h1, h2⟩) (fun acc st h => ⟨end_seq, he acc st h⟩) (Nat.zero_le _) h0⟩
section
variable {F : Fm} {ρ : Env1} {st : Store} {Q : K1} {x : D} {as c as1 c1 e : C} {own vs1 : List Nat} {tg tg1 : Tg} {k k1 : Ik}
@[simp] theorem wp_lc2 : wp F (.lc2 own vs1 tg k as c tg1 k1 as1 c1 e) ρ st Q ↔ wp F as ρ st fun y st1 => ∃ xs, y = .tup xs ∧ som (itOf k xs st1) fun it =>
      ∃ n, lc2Loop it.step (fun d => setTg tg d (wipeD ρ own)) (wp F c) (fun ρ1 acc st2 K => wp F as1 ρ1 st2 fun y st3 => ∃ xs, y = .tup xs ∧ som (itOf k1 xs st3) fun it1 =>
        ∃ n, lcIn it1.step (fun d => setTg tg1 d (wipeD ρ1 vs1)) (wp F c1) (wp F e) K n 0 acc st3) Q n 0 [] st1 := Iff.rfl
@[simp] theorem it_enum : itOf .enum [x] st = (srcOf st x).map .enum := rfl
end
end Cb

namespace Cb
open PySem PySem.Spec PyProof.Rows L2
/-! ### the deck made by a comprehension -/
def deckC2 (kd : Str) (k0 k1 k2 k3 k4 : Int) : S := (.seq (.asg (.name 1) (.cst (.int k0))) (.seq (.loop (.name 2) .plain (.cons (.slc false true (.var 0) (.cst .non) (.cst (.int 63))) .nil) (.seq (.asg (.name 1) (.bin .mod (.blt .int (.cons (.bin .add (.bin .add (.bin .mul (.var 1) (.cst (.int k1))) (.bin .mod (.blt .int (.cons (.var 2) .nil)) (.cst (.int k2)))) (.cst (.int k3))) .nil)) (.cst (.int k4)))) .done)) (.seq (.ret (.dsp [.inr "cells", .inr "mixed", .inr kd] (.cons (.revL (.lc [2] (.name 2) .plain (.cons (.slc false true (.var 0) (.cst .non) (.cst (.int 63))) .nil) (.cst (.bl true)) (.blt .int (.cons (.var 2) .nil)))) (.cons (.var 1) (.cons (.cst (.int 0)) .nil))))) .done)))
theorem deck2_wps {F : Fm} {kd : Str} {k0 k1 k2 k3 k4 : Int} (s1 : small k1) (s2 : small k2) (s4 : small k4) {st : Store} {ns : List Int} {n : Nat} {E : EndsD} (hs : st[n]? = some (.frz (ns.map D.int))) (hl : ns.length ≤ 63)
    (q : ∀ st' r c, Deck kd st' r c → n ≠ r → n ≠ c → st.length ≤ st'.length → (∀ i, i < st.length → st'[i]? = st[i]?) → E.rt (.ref r) st') : wps F (deckC2 kd k0 k1 k2 k3 k4) [some (.ref n), none, none] st E := by
  unfold small at s1 s2 s4
  unfold deckC2
  refine seq_i fun X hX => ?_
  simp
  refine hX _ _ (seq_i fun X2 hX2 => ?_)
  simp only [wps_loop, wp_cons, wp_slc, wp_var, wp_cst, part_f, part_t, som_some, wp_nil]
  refine ⟨.ref n, rfl, slc_frz hs ⟨[], rfl, _, rfl, ?_⟩⟩
  rw [cut_map]
  have hn := (List.getElem?_eq_some_iff.mp hs).1
  have hlen := cut_len ns none (some 63)
  generalize hC : cut ns none (some 63) = cs at hlen
  have e1 : (st ++ [Cell.lst (cs.map D.int)])[st.length]? = some (.lst (cs.map D.int)) := get_last
  simp only [it_plain, srcOf, e1, Option.map_some, som_some]
  have hs1 := get_app hs [Cell.lst (cs.map D.int)]
  refine for_live (xs := cs.map D.int) (fun i ρ st1 => (∃ m x, ρ = [some (.ref n), some (.int m), x]) ∧ st1 = st ++ [Cell.lst (cs.map D.int)]) ⟨⟨k0, none, rfl⟩, rfl⟩ (fun i ρ st1 h => ?_) (fun i d ρ st1 Y hd h hY => ?_) (fun ρ st1 h => ?_)
  · obtain ⟨_, rfl⟩ := h
    simp only [Src.at, e1]
  · obtain ⟨⟨m, x, rfl⟩, rfl⟩ := h
    rw [List.getElem?_map] at hd
    obtain ⟨cell, _, rfl⟩ := Option.map_eq_some_iff.mp hd
    refine ⟨_, rfl, seq_i fun X3 hX3 => ?_⟩
    simp
    exact ⟨mul_okR (by omega), by omega, by omega, hX3 _ _ (hY _ _ ⟨⟨_, _, rfl⟩, rfl⟩)⟩
  · obtain ⟨⟨m, x, rfl⟩, rfl⟩ := h
    refine hX2 _ _ (seq_i fun X3 hX3 => ?_)
    simp only [wps_ret, wp_dsp, wp_cons, wp_revL, wp_lc, wp_slc, wp_var, wp_cst, part_f, part_t, som_some, wp_nil]
    refine ⟨.ref n, rfl, slc_frz hs1 ⟨[], rfl, [.ref _], rfl, ?_⟩⟩
    rw [cut_map, hC]
    have e2 : (st ++ [Cell.lst (cs.map D.int)] ++ [Cell.lst (cs.map D.int)])[(st ++ [Cell.lst (cs.map D.int)]).length]? = some (.lst (cs.map D.int)) := get_last
    simp only [it_plain, srcOf, e2, Option.map_some, som_some]
    refine lc_live (xs := cs.map D.int) (fun i acc st1 => st1 = st ++ [Cell.lst (cs.map D.int)] ++ [Cell.lst (cs.map D.int)] ∧ acc = (cs.take i).map D.int) ⟨rfl, rfl⟩ (fun i acc st1 h => ?_) (fun i d acc st1 Y hd ⟨h1, h2⟩ hY => ?_) (fun acc st1 ⟨h1, h2⟩ => ?_)
    · obtain ⟨rfl, _⟩ := h
      simp only [Src.at, e2]
    · subst h1 h2
      rw [List.getElem?_map] at hd
      obtain ⟨cell, hc, rfl⟩ := Option.map_eq_some_iff.mp hd
      have hi := (List.getElem?_eq_some_iff.mp hc).1
      refine ⟨_, rfl, ?_⟩
      simp [wipeD]
      refine ⟨by omega, hY _ _ ⟨by simp, ?_⟩⟩
      rw [List.take_add_one, hc]
      simp
    · subst h1 h2
      rw [List.length_map, List.take_length]
      have key : ∀ S3 : Store, st.length ≤ S3.length → (∀ i, i < st.length → S3[i]? = st[i]?) → E.rt (.ref (S3 ++ [Cell.lst (cs.map D.int).reverse]).length) (S3 ++ [Cell.lst (cs.map D.int).reverse] ++ [Cell.dct [(.inr "cells", .ref S3.length), (.inr "mixed", .int m), (.inr kd, .int 0)]]) := fun S3 h1 h2 => by
        refine q _ _ S3.length ⟨cs.reverse, m, 0, by simp; omega, by simp, get_last, ?_⟩ (by simp; omega) (by omega) (by simp; omega) (fun i hi => ?_)
        · rw [List.map_reverse]
          exact get_app get_last _
        · rw [List.getElem?_append_left (by simp; omega), List.getElem?_append_left (by omega)]
          exact h2 i hi
      generalize hS : st ++ [Cell.lst (cs.map D.int)] ++ [Cell.lst (cs.map D.int)] = S2
      have g1 : st.length ≤ S2.length := by rw [← hS]; simp
      have g2 : ∀ i, i < st.length → S2[i]? = st[i]? := fun i hi => by
        rw [← hS, List.getElem?_append_left (by simp; omega), List.getElem?_append_left hi]
      refine ⟨cs.map D.int, by simp only [listS, get_last], .int m, rfl, [], rfl, [.int 0], rfl, [.int m, .int 0], rfl, [.ref _, .int m, .int 0], rfl, ?_⟩
      refine key _ (by simp; omega) (fun i hi => ?_)
      rw [List.getElem?_append_left (by omega)]
      exact g2 i hi
end Cb

namespace Cb.K59
open PySem PySem.Spec PyProof.Rows L2
def st (i : Nat) : Stmt := PySem.Challenge.pw_coinblind_k59_whole_all_rows_of_bits_rea.main.body.getD i (.Pass ⟨0, 0, 0, 0⟩)
def stM (i j : Nat) : Stmt := match st i with
  | .ClassDef _ _ _ b _ _ _ _ _ _ _ => b.getD j (.Pass ⟨0, 0, 0, 0⟩)
  | s => s
abbrev kReader : Kl := ⟨"Reader", ["model", "w", "bits", "at", "state", "low", "size", "value"]⟩
def klass : List Kl := [kReader]
def mpats : List MPat := [⟨kReader, "outcome", 0, 53⟩, ⟨kReader, "next_bit", 0, 51⟩, ⟨kReader, "settle", 0, 52⟩]
def cpats : List CPat := [⟨kReader, 3, 50⟩]
def pats : List Pat := [
  ⟨"is_integer", 1, [], 0, [0]⟩,
  ⟨"is_between", 3, [], 1, [0, 1, 2]⟩,
  ⟨"are_between", 3, [], 2, [0, 1, 2]⟩,
  ⟨"divisor_of", 2, [], 5, [0, 1]⟩,
  ⟨"is_fraction_value", 1, [], 6, [0]⟩,
  ⟨"lowest", 2, [], 8, [0, 1]⟩,
  ⟨"plus", 2, [], 9, [0, 1]⟩,
  ⟨"total", 1, [], 11, [0]⟩,
  ⟨"is_share_value", 1, [], 7, [0]⟩,
  ⟨"is_table_value", 1, [], 13, [0]⟩,
  ⟨"is_state_value", 3, [], 14, [0, 1, 2]⟩,
  ⟨"is_model_value", 1, [], 15, [0]⟩,
  ⟨"is_way_value", 2, [], 17, [0, 1]⟩,
  ⟨"are_bits_value", 1, [], 4, [0]⟩,
  ⟨"is_count", 1, [], 3, [0]⟩,
  ⟨"ahead_of", 2, [], 19, [0, 1]⟩,
  ⟨"whole_of", 1, [], 12, [0]⟩,
  ⟨"cut_of", 3, [], 23, [0, 1, 2]⟩,
  ⟨"settled", 2, [], 24, [0, 1]⟩,
  ⟨"first_register", 1, [], 25, [0]⟩,
  ⟨"stepped", 4, [], 26, [0, 1, 2, 3]⟩,
  ⟨"gone", 3, [], 27, [0, 1, 2]⟩,
  ⟨"times", 2, [], 10, [0, 1]⟩,
  ⟨"need_model", 1, [], 16, [0]⟩,
  ⟨"does_fit", 2, [], 22, [0, 1]⟩,
  ⟨"need_width", 2, [], 31, [0, 1]⟩,
  ⟨"need_way", 2, [], 18, [0, 1]⟩,
  ⟨"raw_written", 3, [], 28, [0, 1, 2]⟩,
  ⟨"raw_real_chance", 3, [], 29, [0, 1, 2]⟩,
  ⟨"need_bits", 1, [], 20, [0]⟩,
  ⟨"need_count", 1, [], 21, [0]⟩,
  ⟨"raw_read", 4, [], 30, [0, 1, 2, 3]⟩,
  ⟨"_law_draw", 2, [], 37, [0, 1]⟩,
  ⟨"_law_common", 2, [], 39, [0, 1]⟩,
  ⟨"_law_pick", 2, [], 38, [0, 1]⟩,
  ⟨"_law_fraction", 2, [], 40, [0, 1]⟩,
  ⟨"_law_table", 3, [], 41, [0, 1, 2]⟩,
  ⟨"_law_part", 3, [], 43, [0, 1, 2]⟩,
  ⟨"_law_widened", 5, [], 44, [0, 1, 2, 3, 4]⟩,
  ⟨"_law_spans", 3, [], 46, [0, 1, 2]⟩,
  ⟨"_law_model", 4, [], 42, [0, 1, 2, 3]⟩,
  ⟨"way_read", 4, [], 34, [0, 1, 2, 3]⟩,
  ⟨"way_read", 0, ["k", "bits", "w", "model"], 34, [3, 2, 1, 0]⟩,
  ⟨"real_chance", 3, [], 33, [0, 1, 2]⟩,
  ⟨"written", 3, [], 32, [0, 1, 2]⟩,
  ⟨"_law_row", 2, [], 47, [0, 1]⟩,
  ⟨"_law_deck", 1, [], 36, [0]⟩,
  ⟨"_law_are_ends_right", 1, [], 48, [0]⟩,
  ⟨"_law_all_ways", 3, [], 45, [0, 1, 2]⟩,
  ⟨"is_way", 2, [], 35, [0, 1]⟩]
def bl : List Str := ["len", "int", "abs", "max", "min", "repr", "tuple", "list", "sum", "all", "range", "isinstance", "bool", "enumerate", "sorted"]
def consts : List (Str × D) := [("ZERO", .ktp [.int (0), .int (1)]), ("ONE", .ktp [.int (1), .int (1)]), ("LEAST_WIDTH", .int (3)), ("MOST_WIDTH", .int (16))]
def imps : List Str := []
def lck : List Str := ["due"]
/-- is_integer(thing): thing -/
def b0 : S := (.seq (.ret (.and (.isi (.var 0) [.int]) (.tnot (.tval (.isi (.var 0) [.bool]))))) .done)
def d0 : Def := ⟨"is_integer", (st 7), ["thing"], ["thing"], b0, none, "is_integer"⟩
/-- is_between(thing, least, most): thing, least, most -/
def b1 : S := (.seq (.ret (.and (.call 0 1 0 [0] (.cons (.var 0) .nil) .nil) (.chain .le .le (.var 1) (.var 0) (.var 2)))) .done)
def d1 : Def := ⟨"is_between", (st 8), ["thing", "least", "most"], ["thing", "least", "most"], b1, none, "is_between"⟩
/-- are_between(thing, least, most): thing, least, most, part -/
def b2 : S := (.seq (.ret (.and (.isi (.var 0) [.tuple]) (.blt .all (.cons (.lc [3] (.name 3) .plain (.cons (.var 0) .nil) (.cst (.bl true)) (.call 1 3 0 [0, 1, 2] (.cons (.var 3) (.cons (.var 1) (.cons (.var 2) .nil))) .nil)) .nil)))) .done)
def d2 : Def := ⟨"are_between", (st 9), ["thing", "least", "most", "part"], ["thing", "least", "most"], b2, none, "are_between"⟩
/-- is_count(thing): thing -/
def b3 : S := (.seq (.ret (.and (.call 0 1 0 [0] (.cons (.var 0) .nil) .nil) (.cmp .ge (.var 0) (.cst (.int 0))))) .done)
def d3 : Def := ⟨"is_count", (st 10), ["thing"], ["thing"], b3, none, "is_count"⟩
/-- are_bits_value(thing): thing -/
def b4 : S := (.seq (.ret (.call 2 3 0 [0, 1, 2] (.cons (.var 0) (.cons (.cst (.int 0)) (.cons (.cst (.int 1)) .nil))) .nil)) .done)
def d4 : Def := ⟨"are_bits_value", (st 11), ["thing"], ["thing"], b4, none, "are_bits_value"⟩
/-- divisor_of(one, other): one, other -/
def b5 : S := (.seq (.asg (.name 0) (.blt .abs (.cons (.var 0) .nil))) (.seq (.whil (.cmp .ne (.var 1) (.cst (.int 0))) (.seq (.par [0, 1] (.cons (.var 1) (.cons (.bin .mod (.var 0) (.var 1)) .nil))) .done)) (.seq (.ret (.var 0)) .done)))
def d5 : Def := ⟨"divisor_of", (st 15), ["one", "other"], ["one", "other"], b5, none, "divisor_of"⟩
/-- is_fraction_value(thing): thing -/
def b6 : S := (.seq (.ite (.tor (.tnot (.tval (.isi (.var 0) [.tuple]))) (.tor (.cmp .ne (.blt .len (.cons (.var 0) .nil)) (.cst (.int 2))) (.tor (.tnot (.tval (.call 0 1 0 [0] (.cons (.idx (.var 0) (.cst (.int 0))) .nil) .nil))) (.tnot (.tval (.call 0 1 0 [0] (.cons (.idx (.var 0) (.cst (.int 1))) .nil) .nil)))))) (.seq (.ret (.cst (.bl false))) .done) .done) (.seq (.ret (.and (.cmp .gt (.idx (.var 0) (.cst (.int 1))) (.cst (.int 0))) (.cmp .eq (.call 5 2 0 [0, 1] (.cons (.idx (.var 0) (.cst (.int 0))) (.cons (.idx (.var 0) (.cst (.int 1))) .nil)) .nil) (.cst (.int 1))))) .done))
def d6 : Def := ⟨"is_fraction_value", (st 16), ["thing"], ["thing"], b6, none, "is_fraction_value"⟩
/-- is_share_value(thing): thing -/
def b7 : S := (.seq (.ret (.and (.call 6 1 0 [0] (.cons (.var 0) .nil) .nil) (.cmp .ge (.idx (.var 0) (.cst (.int 0))) (.cst (.int 0))))) .done)
def d7 : Def := ⟨"is_share_value", (st 17), ["thing"], ["thing"], b7, none, "is_share_value"⟩
/-- lowest(top, bottom): top, bottom, common -/
def b8 : S := (.seq (.asg (.name 2) (.call 5 2 0 [0, 1] (.cons (.var 0) (.cons (.var 1) .nil)) .nil)) (.seq (.ret (.tup (.cons (.bin .fdiv (.var 0) (.var 2)) (.cons (.bin .fdiv (.var 1) (.var 2)) .nil)))) .done))
def d8 : Def := ⟨"lowest", (st 18), ["top", "bottom", "common"], ["top", "bottom"], b8, none, "lowest"⟩
/-- plus(one, other): one, other -/
def b9 : S := (.seq (.ret (.call 8 2 0 [0, 1] (.cons (.bin .add (.bin .mul (.idx (.var 0) (.cst (.int 0))) (.idx (.var 1) (.cst (.int 1)))) (.bin .mul (.idx (.var 1) (.cst (.int 0))) (.idx (.var 0) (.cst (.int 1))))) (.cons (.bin .mul (.idx (.var 0) (.cst (.int 1))) (.idx (.var 1) (.cst (.int 1)))) .nil)) .nil)) .done)
def d9 : Def := ⟨"plus", (st 19), ["one", "other"], ["one", "other"], b9, none, "plus"⟩
/-- times(one, other): one, other -/
def b10 : S := (.seq (.ret (.call 8 2 0 [0, 1] (.cons (.bin .mul (.idx (.var 0) (.cst (.int 0))) (.idx (.var 1) (.cst (.int 0)))) (.cons (.bin .mul (.idx (.var 0) (.cst (.int 1))) (.idx (.var 1) (.cst (.int 1)))) .nil)) .nil)) .done)
def d10 : Def := ⟨"times", (st 20), ["one", "other"], ["one", "other"], b10, none, "times"⟩
/-- total(some): some, found, one -/
def b11 : S := (.seq (.asg (.name 1) (.cst (.ktp [(.int 0), (.int 1)]))) (.seq (.loop (.name 2) .plain (.cons (.var 0) .nil) (.seq (.asg (.name 1) (.call 9 2 0 [0, 1] (.cons (.var 1) (.cons (.var 2) .nil)) .nil)) .done)) (.seq (.ret (.var 1)) .done)))
def d11 : Def := ⟨"total", (st 21), ["some", "found", "one"], ["some"], b11, none, "total"⟩
/-- whole_of(one): one -/
def b12 : S := (.seq (.ret (.bin .fdiv (.idx (.var 0) (.cst (.int 0))) (.idx (.var 0) (.cst (.int 1))))) .done)
def d12 : Def := ⟨"whole_of", (st 22), ["one"], ["one"], b12, none, "whole_of"⟩
/-- is_table_value(thing): thing, part -/
def b13 : S := (.seq (.ite (.tor (.tnot (.tval (.isi (.var 0) [.tuple]))) (.tor (.tnot (.chain .le .le (.cst (.int 1)) (.blt .len (.cons (.var 0) .nil)) (.cst (.int 8)))) (.tnot (.tval (.blt .all (.cons (.lc [1] (.name 1) .plain (.cons (.var 0) .nil) (.cst (.bl true)) (.call 7 1 0 [0] (.cons (.var 1) .nil) .nil)) .nil)))))) (.seq (.ret (.cst (.bl false))) .done) .done) (.seq (.ret (.cmp .eq (.call 11 1 0 [0] (.cons (.var 0) .nil) .nil) (.cst (.ktp [(.int 1), (.int 1)])))) .done))
def d13 : Def := ⟨"is_table_value", (st 23), ["thing", "part"], ["thing"], b13, none, "is_table_value"⟩
/-- is_state_value(thing, many, states): thing, many, states -/
def b14 : S := (.seq (.ite (.tor (.tnot (.tval (.isi (.var 0) [.tuple]))) (.tor (.cmp .ne (.blt .len (.cons (.var 0) .nil)) (.cst (.int 2))) (.tor (.tnot (.tval (.call 13 1 0 [0] (.cons (.idx (.var 0) (.cst (.int 0))) .nil) .nil))) (.cmp .ne (.blt .len (.cons (.idx (.var 0) (.cst (.int 0))) .nil)) (.var 1))))) (.seq (.ret (.cst (.bl false))) .done) .done) (.seq (.ret (.and (.call 2 3 0 [0, 1, 2] (.cons (.idx (.var 0) (.cst (.int 1))) (.cons (.cst (.int 0)) (.cons (.bin .sub (.var 2) (.cst (.int 1))) .nil))) .nil) (.cmp .eq (.blt .len (.cons (.idx (.var 0) (.cst (.int 1))) .nil)) (.var 1)))) .done))
def d14 : Def := ⟨"is_state_value", (st 25), ["thing", "many", "states"], ["thing", "many", "states"], b14, none, "is_state_value"⟩
/-- is_model_value(thing): thing, state -/
def b15 : S := (.seq (.ite (.tor (.tnot (.tval (.isi (.var 0) [.tuple]))) (.tor (.cmp .eq (.var 0) (.tup .nil)) (.tor (.tnot (.tval (.isi (.idx (.var 0) (.cst (.int 0))) [.tuple]))) (.cmp .ne (.blt .len (.cons (.idx (.var 0) (.cst (.int 0))) .nil)) (.cst (.int 2)))))) (.seq (.ret (.cst (.bl false))) .done) .done) (.seq (.ite (.tnot (.tval (.isi (.idx (.idx (.var 0) (.cst (.int 0))) (.cst (.int 0))) [.tuple]))) (.seq (.ret (.cst (.bl false))) .done) .done) (.seq (.ret (.blt .all (.cons (.lc [1] (.name 1) .plain (.cons (.var 0) .nil) (.cst (.bl true)) (.call 14 3 0 [0, 1, 2] (.cons (.var 1) (.cons (.blt .len (.cons (.idx (.idx (.var 0) (.cst (.int 0))) (.cst (.int 0))) .nil)) (.cons (.blt .len (.cons (.var 0) .nil)) .nil))) .nil)) .nil))) .done)))
def d15 : Def := ⟨"is_model_value", (st 26), ["thing", "state"], ["thing"], b15, none, "is_model_value"⟩
/-- need_model(model): model -/
def b16 : S := (.seq (.ite (.tnot (.tval (.call 15 1 0 [0] (.cons (.var 0) .nil) .nil))) (.seq .never .done) .done) .done)
def d16 : Def := ⟨"need_model", (st 27), ["model"], ["model"], b16, none, "need_model"⟩
/-- is_way_value(model, thing): model, thing, at, outcome, table, followers -/
def b17 : S := (.seq (.ite (.tnot (.tval (.isi (.var 1) [.tuple]))) (.seq (.ret (.cst (.bl false))) .done) .done) (.seq (.asg (.name 2) (.cst (.int 0))) (.seq (.loop (.name 3) .plain (.cons (.var 1) .nil) (.seq (.asg (.tup (.cons (.name 4) (.cons (.name 5) .nil))) (.idx (.var 0) (.var 2))) (.seq (.ite (.tor (.tnot (.tval (.call 1 3 0 [0, 1, 2] (.cons (.var 3) (.cons (.cst (.int 0)) (.cons (.bin .sub (.blt .len (.cons (.var 4) .nil)) (.cst (.int 1))) .nil))) .nil))) (.cmp .eq (.idx (.idx (.var 4) (.var 3)) (.cst (.int 0))) (.cst (.int 0)))) (.seq (.ret (.cst (.bl false))) .done) .done) (.seq (.asg (.name 2) (.idx (.var 5) (.var 3))) .done)))) (.seq (.ret (.cst (.bl true))) .done))))
def d17 : Def := ⟨"is_way_value", (st 28), ["model", "thing", "at", "outcome", "table", "followers"], ["model", "thing"], b17, none, "is_way_value"⟩
/-- need_way(model, way): model, way -/
def b18 : S := (.seq (.ite (.tnot (.tval (.call 17 2 0 [0, 1] (.cons (.var 0) (.cons (.var 1) .nil)) .nil))) (.seq .never .done) .done) .done)
def d18 : Def := ⟨"need_way", (st 29), ["model", "way"], ["model", "way"], b18, none, "need_way"⟩
/-- ahead_of(table, outcome): table, outcome, found, chance -/
def b19 : S := (.seq (.asg (.name 2) (.cst (.ktp [(.int 0), (.int 1)]))) (.seq (.loop (.name 3) .plain (.cons (.slc false true (.var 0) (.cst .non) (.var 1)) .nil) (.seq (.asg (.name 2) (.call 9 2 0 [0, 1] (.cons (.var 2) (.cons (.var 3) .nil)) .nil)) .done)) (.seq (.ret (.var 2)) .done)))
def d19 : Def := ⟨"ahead_of", (st 30), ["table", "outcome", "found", "chance"], ["table", "outcome"], b19, none, "ahead_of"⟩
/-- need_bits(bits): bits -/
def b20 : S := (.seq (.ite (.tnot (.tval (.call 4 1 0 [0] (.cons (.var 0) .nil) .nil))) (.seq .never .done) .done) .done)
def d20 : Def := ⟨"need_bits", (st 32), ["bits"], ["bits"], b20, none, "need_bits"⟩
/-- need_count(number): number -/
def b21 : S := (.seq (.ite (.tnot (.tval (.call 3 1 0 [0] (.cons (.var 0) .nil) .nil))) (.seq .never .done) .done) .done)
def d21 : Def := ⟨"need_count", (st 33), ["number"], ["number"], b21, none, "need_count"⟩
/-- does_fit(model, w): model, w, quarter, table, followers, top, bottom -/
def b22 : S := (.seq (.asg (.name 2) (.bin .shl (.cst (.int 1)) (.bin .sub (.var 1) (.cst (.int 2))))) (.seq (.loop (.tup (.cons (.name 3) (.cons (.name 4) .nil))) .plain (.cons (.var 0) .nil) (.seq (.loop (.tup (.cons (.name 5) (.cons (.name 6) .nil))) .plain (.cons (.var 3) .nil) (.seq (.ite (.chain .lt .lt (.cst (.int 0)) (.bin .mul (.var 5) (.bin .add (.var 2) (.cst (.int 1)))) (.var 6)) (.seq (.ret (.cst (.bl false))) .done) .done) .done)) .done)) (.seq (.ret (.cst (.bl true))) .done)))
def d22 : Def := ⟨"does_fit", (st 35), ["model", "w", "quarter", "table", "followers", "top", "bottom"], ["model", "w"], b22, none, "does_fit"⟩
/-- cut_of(table, size, outcome): table, size, outcome, ahead, behind -/
def b23 : S := (.seq (.asg (.name 3) (.call 19 2 0 [0, 1] (.cons (.var 0) (.cons (.var 2) .nil)) .nil)) (.seq (.asg (.name 4) (.call 9 2 0 [0, 1] (.cons (.var 3) (.cons (.idx (.var 0) (.var 2)) .nil)) .nil)) (.seq (.ret (.tup (.cons (.call 12 1 0 [0] (.cons (.tup (.cons (.bin .mul (.var 1) (.idx (.var 3) (.cst (.int 0)))) (.cons (.idx (.var 3) (.cst (.int 1))) .nil))) .nil) .nil) (.cons (.call 12 1 0 [0] (.cons (.tup (.cons (.bin .mul (.var 1) (.idx (.var 4) (.cst (.int 0)))) (.cons (.idx (.var 4) (.cst (.int 1))) .nil))) .nil) .nil) .nil)))) .done)))
def d23 : Def := ⟨"cut_of", (st 36), ["table", "size", "outcome", "ahead", "behind"], ["table", "size", "outcome"], b23, none, "cut_of"⟩
/-- settled(w, held): w, held, low, size, waiting, half, quarter, bits -/
def b24 : S := (.seq (.asg (.tup (.cons (.name 2) (.cons (.name 3) (.cons (.name 4) .nil)))) (.var 1)) (.seq (.par [5, 6, 7] (.cons (.bin .shl (.cst (.int 1)) (.bin .sub (.var 0) (.cst (.int 1)))) (.cons (.bin .shl (.cst (.int 1)) (.bin .sub (.var 0) (.cst (.int 2)))) (.cons (.lst .nil) .nil)))) (.seq (.whil (.tval (.cst (.bl true))) (.seq (.ite (.cmp .le (.bin .add (.var 2) (.var 3)) (.var 5)) (.seq (.par [7, 4] (.cons (.bin .add (.bin .add (.var 7) (.lst (.cons (.cst (.int 0)) .nil))) (.bin .mul (.lst (.cons (.cst (.int 1)) .nil)) (.var 4))) (.cons (.cst (.int 0)) .nil))) .done) (.seq (.ite (.cmp .ge (.var 2) (.var 5)) (.seq (.par [7, 4, 2] (.cons (.bin .add (.bin .add (.var 7) (.lst (.cons (.cst (.int 1)) .nil))) (.bin .mul (.lst (.cons (.cst (.int 0)) .nil)) (.var 4))) (.cons (.cst (.int 0)) (.cons (.bin .sub (.var 2) (.var 5)) .nil)))) .done) (.seq (.ite (.tand (.cmp .ge (.var 2) (.var 6)) (.cmp .le (.bin .add (.var 2) (.var 3)) (.bin .add (.var 5) (.var 6)))) (.seq (.par [4, 2] (.cons (.bin .add (.var 4) (.cst (.int 1))) (.cons (.bin .sub (.var 2) (.var 6)) .nil))) .done) (.seq (.ret (.tup (.cons (.tup (.cons (.var 2) (.cons (.var 3) (.cons (.var 4) .nil)))) (.cons (.var 7) .nil)))) .done)) .done)) .done)) (.seq (.par [2, 3] (.cons (.bin .mul (.cst (.int 2)) (.var 2)) (.cons (.bin .mul (.cst (.int 2)) (.var 3)) .nil))) .done))) .done)))
def d24 : Def := ⟨"settled", (st 37), ["w", "held", "low", "size", "waiting", "half", "quarter", "bits"], ["w", "held"], b24, none, "settled"⟩
/-- first_register(w): w -/
def b25 : S := (.seq (.ret (.tup (.cons (.cst (.int 0)) (.cons (.bin .shl (.cst (.int 1)) (.var 0)) (.cons (.cst (.int 0)) .nil))))) .done)
def d25 : Def := ⟨"first_register", (st 38), ["w"], ["w"], b25, none, "first_register"⟩
/-- stepped(w, table, held, outcome): w, table, held, outcome, low, size, waiting, a, b -/
def b26 : S := (.seq (.asg (.tup (.cons (.name 4) (.cons (.name 5) (.cons (.name 6) .nil)))) (.var 2)) (.seq (.asg (.tup (.cons (.name 7) (.cons (.name 8) .nil))) (.call 23 3 0 [0, 1, 2] (.cons (.var 1) (.cons (.var 5) (.cons (.var 3) .nil))) .nil)) (.seq (.ret (.call 24 2 0 [0, 1] (.cons (.var 0) (.cons (.tup (.cons (.bin .add (.var 4) (.var 7)) (.cons (.bin .sub (.var 8) (.var 7)) (.cons (.var 6) .nil)))) .nil)) .nil)) .done)))
def d26 : Def := ⟨"stepped", (st 39), ["w", "table", "held", "outcome", "low", "size", "waiting", "a", "b"], ["w", "table", "held", "outcome"], b26, none, "stepped"⟩
/-- gone(model, w, way): model, w, way, state, held, found, outcome, bits -/
def b27 : S := (.seq (.par [3, 4, 5] (.cons (.cst (.int 0)) (.cons (.call 25 1 0 [0] (.cons (.var 1) .nil) .nil) (.cons (.lst .nil) .nil)))) (.seq (.loop (.name 6) .plain (.cons (.var 2) .nil) (.seq (.asg (.tup (.cons (.name 4) (.cons (.name 7) .nil))) (.call 26 4 0 [0, 1, 2, 3] (.cons (.var 1) (.cons (.idx (.idx (.var 0) (.var 3)) (.cst (.int 0))) (.cons (.var 4) (.cons (.var 6) .nil)))) .nil)) (.seq (.expr (.mth .extend (.var 5) (.cons (.var 7) .nil))) (.seq (.asg (.name 3) (.idx (.idx (.idx (.var 0) (.var 3)) (.cst (.int 1))) (.var 6))) .done)))) (.seq (.ret (.tup (.cons (.var 3) (.cons (.var 4) (.cons (.var 5) .nil))))) .done)))
def d27 : Def := ⟨"gone", (st 40), ["model", "w", "way", "state", "held", "found", "outcome", "bits"], ["model", "w", "way"], b27, none, "gone"⟩
/-- raw_written(model, w, way): model, w, way, state, held, found, low, size, waiting -/
def b28 : S := (.seq (.asg (.tup (.cons (.name 3) (.cons (.name 4) (.cons (.name 5) .nil)))) (.call 27 3 0 [0, 1, 2] (.cons (.var 0) (.cons (.var 1) (.cons (.var 2) .nil))) .nil)) (.seq (.asg (.tup (.cons (.name 6) (.cons (.name 7) (.cons (.name 8) .nil)))) (.var 4)) (.seq (.ite (.cmp .eq (.var 4) (.call 25 1 0 [0] (.cons (.var 1) .nil) .nil)) (.seq (.ret (.blt .tuple (.cons (.var 5) .nil))) .done) .done) (.seq (.ite (.cmp .lt (.var 6) (.bin .shl (.cst (.int 1)) (.bin .sub (.var 1) (.cst (.int 2))))) (.seq (.ret (.blt .tuple (.cons (.bin .add (.bin .add (.var 5) (.lst (.cons (.cst (.int 0)) .nil))) (.bin .mul (.lst (.cons (.cst (.int 1)) .nil)) (.bin .add (.var 8) (.cst (.int 1))))) .nil))) .done) .done) (.seq (.ret (.blt .tuple (.cons (.bin .add (.bin .add (.var 5) (.lst (.cons (.cst (.int 1)) .nil))) (.bin .mul (.lst (.cons (.cst (.int 0)) .nil)) (.bin .add (.var 8) (.cst (.int 1))))) .nil))) .done)))))
def d28 : Def := ⟨"raw_written", (st 41), ["model", "w", "way", "state", "held", "found", "low", "size", "waiting"], ["model", "w", "way"], b28, none, "raw_written"⟩
/-- raw_real_chance(model, w, way): model, w, way, state, held, found, outcome, a, b, bits -/
def b29 : S := (.seq (.par [3, 4, 5] (.cons (.cst (.int 0)) (.cons (.call 25 1 0 [0] (.cons (.var 1) .nil) .nil) (.cons (.cst (.ktp [(.int 1), (.int 1)])) .nil)))) (.seq (.loop (.name 6) .plain (.cons (.var 2) .nil) (.seq (.asg (.tup (.cons (.name 7) (.cons (.name 8) .nil))) (.call 23 3 0 [0, 1, 2] (.cons (.idx (.idx (.var 0) (.var 3)) (.cst (.int 0))) (.cons (.idx (.var 4) (.cst (.int 1))) (.cons (.var 6) .nil))) .nil)) (.seq (.asg (.name 5) (.call 10 2 0 [0, 1] (.cons (.var 5) (.cons (.call 8 2 0 [0, 1] (.cons (.bin .sub (.var 8) (.var 7)) (.cons (.idx (.var 4) (.cst (.int 1))) .nil)) .nil) .nil)) .nil)) (.seq (.asg (.tup (.cons (.name 4) (.cons (.name 9) .nil))) (.call 26 4 0 [0, 1, 2, 3] (.cons (.var 1) (.cons (.idx (.idx (.var 0) (.var 3)) (.cst (.int 0))) (.cons (.var 4) (.cons (.var 6) .nil)))) .nil)) (.seq (.asg (.name 3) (.idx (.idx (.idx (.var 0) (.var 3)) (.cst (.int 1))) (.var 6))) .done))))) (.seq (.ret (.var 5)) .done)))
def d29 : Def := ⟨"raw_real_chance", (st 42), ["model", "w", "way", "state", "held", "found", "outcome", "a", "b", "bits"], ["model", "w", "way"], b29, none, "raw_real_chance"⟩
/-- raw_read(model, w, bits, k): model, w, bits, k, reader, step -/
def b30 : S := (.seq (.asg (.name 4) (.mk kReader 50 3 (.cons (.var 0) (.cons (.var 1) (.cons (.var 2) .nil))))) (.seq (.ret (.blt .tuple (.cons (.lc [5] (.name 5) .range1 (.cons (.var 3) .nil) (.cst (.bl true)) (.mcl kReader "outcome" 53 0 (.var 4) .nil)) .nil))) .done))
def d30 : Def := ⟨"raw_read", (st 44), ["model", "w", "bits", "k", "reader", "step"], ["model", "w", "bits", "k"], b30, none, "raw_read"⟩
/-- need_width(model, w): model, w -/
def b31 : S := (.seq (.expr (.call 16 1 0 [0] (.cons (.var 0) .nil) .nil)) (.seq (.ite (.tor (.tnot (.tval (.call 1 3 0 [0, 1, 2] (.cons (.var 1) (.cons (.cst (.int 3)) (.cons (.cst (.int 16)) .nil))) .nil))) (.tnot (.tval (.call 22 2 0 [0, 1] (.cons (.var 0) (.cons (.var 1) .nil)) .nil)))) (.seq .never .done) .done) .done))
def d31 : Def := ⟨"need_width", (st 48), ["model", "w"], ["model", "w"], b31, none, "need_width"⟩
/-- written(model, w, way): model, w, way -/
def b32 : S := (.seq (.expr (.call 31 2 0 [0, 1] (.cons (.var 0) (.cons (.var 1) .nil)) .nil)) (.seq (.expr (.call 18 2 0 [0, 1] (.cons (.var 0) (.cons (.var 2) .nil)) .nil)) (.seq (.ret (.call 28 3 0 [0, 1, 2] (.cons (.var 0) (.cons (.var 1) (.cons (.var 2) .nil))) .nil)) .done)))
def d32 : Def := ⟨"written", (st 49), ["model", "w", "way"], ["model", "w", "way"], b32, none, "written"⟩
/-- real_chance(model, w, way): model, w, way -/
def b33 : S := (.seq (.expr (.call 31 2 0 [0, 1] (.cons (.var 0) (.cons (.var 1) .nil)) .nil)) (.seq (.expr (.call 18 2 0 [0, 1] (.cons (.var 0) (.cons (.var 2) .nil)) .nil)) (.seq (.ret (.call 29 3 0 [0, 1, 2] (.cons (.var 0) (.cons (.var 1) (.cons (.var 2) .nil))) .nil)) .done)))
def d33 : Def := ⟨"real_chance", (st 50), ["model", "w", "way"], ["model", "w", "way"], b33, none, "real_chance"⟩
/-- way_read(model, w, bits, k): model, w, bits, k -/
def b34 : S := (.seq (.expr (.call 31 2 0 [0, 1] (.cons (.var 0) (.cons (.var 1) .nil)) .nil)) (.seq (.expr (.call 20 1 0 [0] (.cons (.var 2) .nil) .nil)) (.seq (.expr (.call 21 1 0 [0] (.cons (.var 3) .nil) .nil)) (.seq (.ret (.call 30 4 0 [0, 1, 2, 3] (.cons (.var 0) (.cons (.var 1) (.cons (.var 2) (.cons (.var 3) .nil)))) .nil)) .done))))
def d34 : Def := ⟨"way_read", (st 51), ["model", "w", "bits", "k"], ["model", "w", "bits", "k"], b34, none, "way_read"⟩
/-- is_way(model, thing): model, thing -/
def b35 : S := (.seq (.expr (.call 16 1 0 [0] (.cons (.var 0) .nil) .nil)) (.seq (.ret (.call 17 2 0 [0, 1] (.cons (.var 0) (.cons (.var 1) .nil)) .nil)) .done))
def d35 : Def := ⟨"is_way", (st 53), ["model", "thing"], ["model", "thing"], b35, none, "is_way"⟩
/-- _law_deck(script): script, mixed, cell -/
def b36 : S := (.seq (.asg (.name 1) (.cst (.int 13732059))) (.seq (.loop (.name 2) .plain (.cons (.slc false true (.var 0) (.cst .non) (.cst (.int 63))) .nil) (.seq (.asg (.name 1) (.bin .mod (.blt .int (.cons (.bin .add (.bin .add (.bin .mul (.var 1) (.cst (.int 48271))) (.bin .mod (.blt .int (.cons (.var 2) .nil)) (.cst (.int 2147483549)))) (.cst (.int 59))) .nil)) (.cst (.int 2147483563)))) .done)) (.seq (.ret (.dsp [.inr "cells", .inr "mixed", .inr "turn"] (.cons (.revL (.lc [2] (.name 2) .plain (.cons (.slc false true (.var 0) (.cst .non) (.cst (.int 63))) .nil) (.cst (.bl true)) (.blt .int (.cons (.var 2) .nil)))) (.cons (.var 1) (.cons (.cst (.int 0)) .nil))))) .done)))
def d36 : Def := ⟨"_law_deck", (st 55), ["script", "mixed", "cell"], ["script"], b36, none, "_law_deck"⟩
/-- _law_draw(deck, below): deck, below, figure, cell -/
def b37 : S := (.seq (.sto (.bin .add (.idx (.var 0) (.cst (.str "turn"))) (.cst (.int 1))) (.var 0) (.cst (.str "turn"))) (.seq (.asg (.name 2) (.bin .add (.idx (.var 0) (.cst (.str "mixed"))) (.bin .mul (.cst (.int 42043)) (.idx (.var 0) (.cst (.str "turn")))))) (.seq (.ite (.cmp .ne (.idx (.var 0) (.cst (.str "cells"))) (.lst .nil)) (.seq (.asg (.name 3) (.mth .pop (.idx (.var 0) (.cst (.str "cells"))) .nil)) (.seq (.ite (.cmp .ge (.var 3) (.bin .pow (.cst (.int 10)) (.cst (.int 18)))) (.seq (.expr (.mth .append (.idx (.var 0) (.cst (.str "cells"))) (.cons (.bin .fdiv (.var 3) (.blt .max2 (.cons (.cst (.int 2)) (.cons (.var 1) .nil)))) .nil))) (.seq (.ret (.bin .mod (.blt .int (.cons (.var 3) .nil)) (.var 1))) .done)) .done) (.seq (.asg (.name 2) (.bin .add (.var 2) (.bin .mod (.blt .int (.cons (.var 3) .nil)) (.cst (.int 2147483549))))) .done))) .done) (.seq (.asg (.name 2) (.bin .mod (.blt .int (.cons (.bin .add (.bin .mul (.var 2) (.cst (.int 40014))) (.cst (.int 59))) .nil)) (.cst (.int 2147483587)))) (.seq (.asg (.name 2) (.bin .mod (.blt .int (.cons (.bin .add (.bin .add (.bin .mul (.var 2) (.var 2)) (.bin .mul (.cst (.int 58391)) (.idx (.var 0) (.cst (.str "turn"))))) (.cst (.int 59))) .nil)) (.cst (.int 2147483563)))) (.seq (.asg (.name 2) (.bin .mod (.blt .int (.cons (.bin .mul (.var 2) (.cst (.int 69621))) .nil)) (.cst (.int 2147483579)))) (.seq (.ret (.bin .mod (.blt .int (.cons (.bin .fdiv (.var 2) (.cst (.int 64))) .nil)) (.var 1))) .done)))))))
def d37 : Def := ⟨"_law_draw", (st 56), ["deck", "below", "figure", "cell"], ["deck", "below"], b37, none, "_law_draw"⟩
/-- _law_pick(deck, some): deck, some -/
def b38 : S := (.seq (.ret (.idx (.var 1) (.call 37 2 0 [0, 1] (.cons (.var 0) (.cons (.blt .len (.cons (.var 1) .nil)) .nil)) .nil))) .done)
def d38 : Def := ⟨"_law_pick", (st 57), ["deck", "some"], ["deck", "some"], b38, none, "_law_pick"⟩
/-- _law_common(one, other): one, other, go -/
def b39 : S := (.seq (.loop (.name 2) .range1 (.cons (.cst (.int 3000)) .nil) (.seq (.ite (.cmp .eq (.var 1) (.cst (.int 0))) (.seq .brk .done) .done) (.seq (.par [0, 1] (.cons (.var 1) (.cons (.bin .mod (.blt .int (.cons (.var 0) .nil)) (.var 1)) .nil))) .done))) (.seq (.ret (.var 0)) .done))
def d39 : Def := ⟨"_law_common", (st 58), ["one", "other", "go"], ["one", "other"], b39, none, "_law_common"⟩
/-- _law_fraction(top, bottom): top, bottom, whole -/
def b40 : S := (.seq (.asg (.name 2) (.call 39 2 0 [0, 1] (.cons (.blt .abs (.cons (.var 0) .nil)) (.cons (.var 1) .nil)) .nil)) (.seq (.ret (.tup (.cons (.bin .fdiv (.var 0) (.var 2)) (.cons (.bin .fdiv (.var 1) (.var 2)) .nil)))) .done))
def d40 : Def := ⟨"_law_fraction", (st 59), ["top", "bottom", "whole"], ["top", "bottom"], b40, none, "_law_fraction"⟩
/-- _law_table(deck, n, least): deck, n, least, parts, i, part -/
def b41 : S := (.seq (.asg (.name 3) (.lc [4] (.name 4) .range1 (.cons (.var 1) .nil) (.cst (.bl true)) (.call 38 2 0 [0, 1] (.cons (.var 0) (.cons (.lst (.cons (.cst (.int 1)) (.cons (.cst (.int 1)) (.cons (.cst (.int 2)) (.cons (.cst (.int 3)) (.cons (.cst (.int 0)) (.cons (.cst (.int 5)) (.cons (.cst (.int 4)) (.cons (.cst (.int 8)) .nil))))))))) .nil)) .nil))) (.seq (.ite (.cmp .eq (.blt .sum (.cons (.var 3) .nil)) (.cst (.int 0))) (.seq (.sto (.cst (.int 1)) (.var 3) (.call 37 2 0 [0, 1] (.cons (.var 0) (.cons (.var 1) .nil)) .nil)) .done) .done) (.seq (.ite (.cmp .eq (.call 37 2 0 [0, 1] (.cons (.var 0) (.cons (.cst (.int 4)) .nil)) .nil) (.cst (.int 0))) (.seq (.asg (.name 3) (.lc [4] (.name 4) .range1 (.cons (.var 1) .nil) (.cst (.bl true)) (.bin .shl (.cst (.int 1)) (.call 37 2 0 [0, 1] (.cons (.var 0) (.cons (.cst (.int 3)) .nil)) .nil)))) .done) .done) (.seq (.ite (.cmp .gt (.blt .sum (.cons (.var 3) .nil)) (.var 2)) (.seq (.asg (.name 3) (.lc [5] (.name 5) .plain (.cons (.var 3) .nil) (.cst (.bl true)) (.blt .min2 (.cons (.cst (.int 1)) (.cons (.var 5) .nil))))) .done) .done) (.seq (.ite (.cmp .gt (.blt .sum (.cons (.var 3) .nil)) (.var 2)) (.seq (.asg (.name 3) (.bin .add (.lst (.cons (.cst (.int 1)) .nil)) (.bin .mul (.lst (.cons (.cst (.int 0)) .nil)) (.bin .sub (.var 1) (.cst (.int 1)))))) .done) .done) (.seq (.ret (.blt .tuple (.cons (.lc [5] (.name 5) .plain (.cons (.var 3) .nil) (.cst (.bl true)) (.call 40 2 0 [0, 1] (.cons (.var 5) (.cons (.blt .sum (.cons (.var 3) .nil)) .nil)) .nil)) .nil))) .done))))))
def d41 : Def := ⟨"_law_table", (st 60), ["deck", "n", "least", "parts", "i", "part"], ["deck", "n", "least"], b41, none, "_law_table"⟩
/-- _law_model(deck, states, outcomes, least): deck, states, outcomes, least, n, many, found, state, followers, i -/
def b42 : S := (.seq (.asg (.tup (.cons (.name 4) (.cons (.name 5) .nil))) (.tup (.cons (.bin .add (.cst (.int 1)) (.call 37 2 0 [0, 1] (.cons (.var 0) (.cons (.var 2) .nil)) .nil)) (.cons (.bin .add (.cst (.int 1)) (.call 37 2 0 [0, 1] (.cons (.var 0) (.cons (.var 1) .nil)) .nil)) .nil)))) (.seq (.ite (.cmp .gt (.call 37 2 0 [0, 1] (.cons (.var 0) (.cons (.cst (.int 5)) .nil)) .nil) (.cst (.int 0))) (.seq (.asg (.name 4) (.blt .max2 (.cons (.cst (.int 2)) (.cons (.var 4) .nil)))) .done) .done) (.seq (.asg (.name 6) (.lst .nil)) (.seq (.loop (.name 7) .range1 (.cons (.var 5) .nil) (.seq (.asg (.name 8) (.blt .tuple (.cons (.lc [9] (.name 9) .range1 (.cons (.var 4) .nil) (.cst (.bl true)) (.call 37 2 0 [0, 1] (.cons (.var 0) (.cons (.var 5) .nil)) .nil)) .nil))) (.seq (.expr (.mth .append (.var 6) (.cons (.tup (.cons (.call 41 3 0 [0, 1, 2] (.cons (.var 0) (.cons (.var 4) (.cons (.var 3) .nil))) .nil) (.cons (.var 8) .nil))) .nil))) .done))) (.seq (.ret (.blt .tuple (.cons (.var 6) .nil))) .done)))))
def d42 : Def := ⟨"_law_model", (st 61), ["deck", "states", "outcomes", "least", "n", "many", "found", "state", "followers", "i"], ["deck", "states", "outcomes", "least"], b42, none, "_law_model"⟩
/-- _law_part(table, size, outcome): table, size, outcome, common, top, under, ahead, own -/
def b43 : S := (.seq (.asg (.name 3) (.cst (.int 1))) (.seq (.loop (.tup (.cons (.name 4) (.cons (.name 5) .nil))) .plain (.cons (.var 0) .nil) (.seq (.asg (.name 3) (.bin .fdiv (.bin .mul (.var 3) (.var 5)) (.call 39 2 0 [0, 1] (.cons (.var 3) (.cons (.var 5) .nil)) .nil))) .done)) (.seq (.asg (.name 6) (.blt .sum (.cons (.lc [4, 5] (.tup (.cons (.name 4) (.cons (.name 5) .nil))) .plain (.cons (.slc false true (.var 0) (.cst .non) (.var 2)) .nil) (.cst (.bl true)) (.bin .fdiv (.bin .mul (.var 4) (.var 3)) (.var 5))) .nil))) (.seq (.asg (.name 7) (.bin .fdiv (.bin .mul (.idx (.idx (.var 0) (.var 2)) (.cst (.int 0))) (.var 3)) (.idx (.idx (.var 0) (.var 2)) (.cst (.int 1))))) (.seq (.ret (.tup (.cons (.bin .fdiv (.bin .mul (.var 1) (.var 6)) (.var 3)) (.cons (.bin .fdiv (.bin .mul (.var 1) (.bin .add (.var 6) (.var 7))) (.var 3)) .nil)))) .done)))))
def d43 : Def := ⟨"_law_part", (st 62), ["table", "size", "outcome", "common", "top", "under", "ahead", "own"], ["table", "size", "outcome"], b43, none, "_law_part"⟩
/-- _law_widened(w, low, size, waiting, bits): w, low, size, waiting, bits, half, quarter, go -/
def b44 : S := (.seq (.par [5, 6] (.cons (.bin .shl (.cst (.int 1)) (.bin .sub (.var 0) (.cst (.int 1)))) (.cons (.bin .shl (.cst (.int 1)) (.bin .sub (.var 0) (.cst (.int 2)))) .nil))) (.seq (.loop (.name 7) .range1 (.cons (.cst (.int 99)) .nil) (.seq (.ite (.cmp .le (.bin .add (.var 1) (.var 2)) (.var 5)) (.seq (.par [4, 3, 1] (.cons (.bin .add (.bin .add (.var 4) (.tup (.cons (.cst (.int 0)) .nil))) (.bin .mul (.tup (.cons (.cst (.int 1)) .nil)) (.var 3))) (.cons (.cst (.int 0)) (.cons (.bin .mul (.cst (.int 2)) (.var 1)) .nil)))) .done) (.seq (.ite (.cmp .ge (.var 1) (.var 5)) (.seq (.par [4, 3, 1] (.cons (.bin .add (.bin .add (.var 4) (.tup (.cons (.cst (.int 1)) .nil))) (.bin .mul (.tup (.cons (.cst (.int 0)) .nil)) (.var 3))) (.cons (.cst (.int 0)) (.cons (.bin .mul (.cst (.int 2)) (.bin .sub (.var 1) (.var 5))) .nil)))) .done) (.seq (.ite (.tand (.cmp .ge (.var 1) (.var 6)) (.cmp .le (.bin .add (.var 1) (.var 2)) (.bin .add (.var 5) (.var 6)))) (.seq (.par [3, 1] (.cons (.bin .add (.var 3) (.cst (.int 1))) (.cons (.bin .mul (.cst (.int 2)) (.bin .sub (.var 1) (.var 6))) .nil))) .done) (.seq .brk .done)) .done)) .done)) (.seq (.asg (.name 2) (.bin .mul (.cst (.int 2)) (.var 2))) .done))) (.seq (.ret (.tup (.cons (.tup (.cons (.var 1) (.cons (.var 2) (.cons (.var 3) .nil)))) (.cons (.var 4) .nil)))) .done)))
def d44 : Def := ⟨"_law_widened", (st 63), ["w", "low", "size", "waiting", "bits", "half", "quarter", "go"], ["w", "low", "size", "waiting", "bits"], b44, none, "_law_widened"⟩
/-- _law_all_ways(model, w, k): model, w, k, found, go, later, way, top, bottom, many, told, state, table, followers, i, chance, it, a, b, near, more, step -/
def b45 : S := (.seq (.asg (.name 3) (.lst (.cons (.tup (.cons (.tup .nil) (.cons (.cst (.int 1)) (.cons (.cst (.int 1)) (.cons (.var 1) (.cons (.tup (.cons (.cst (.int 0)) (.cons (.bin .shl (.cst (.int 1)) (.var 1)) (.cons (.cst (.int 0)) .nil)))) (.cons (.cst (.int 0)) .nil))))))) .nil))) (.seq (.loop (.name 4) .range1 (.cons (.var 2) .nil) (.seq (.asg (.name 5) (.lst .nil)) (.seq (.loop (.tup (.cons (.name 6) (.cons (.name 7) (.cons (.name 8) (.cons (.name 9) (.cons (.name 10) (.cons (.name 11) .nil))))))) .plain (.cons (.var 3) .nil) (.seq (.asg (.tup (.cons (.name 12) (.cons (.name 13) .nil))) (.idx (.var 0) (.var 11))) (.seq (.loop (.tup (.cons (.name 14) (.cons (.name 15) .nil))) .enum (.cons (.var 12) .nil) (.seq (.ite (.cmp .gt (.idx (.var 15) (.cst (.int 0))) (.cst (.int 0))) (.seq (.asg (.tup (.cons (.name 17) (.cons (.name 18) .nil))) (.call 43 3 0 [0, 1, 2] (.cons (.var 12) (.cons (.idx (.var 10) (.cst (.int 1))) (.cons (.var 14) .nil))) .nil)) (.seq (.asg (.name 19) (.idx (.call 44 5 0 [0, 1, 2, 3, 4] (.cons (.var 1) (.cons (.bin .add (.idx (.var 10) (.cst (.int 0))) (.var 17)) (.cons (.bin .sub (.var 18) (.var 17)) (.cons (.cst (.int 0)) (.cons (.tup .nil) .nil))))) .nil) (.cst (.int 0)))) (.seq (.asg (.name 20) (.idx (.lc [21] (.name 21) .range1 (.cons (.cst (.int 40)) .nil) (.cmp .eq (.bin .shl (.bin .sub (.var 18) (.var 17)) (.var 21)) (.idx (.var 19) (.cst (.int 1)))) (.var 21)) (.cst (.int 0)))) (.seq (.expr (.mth .append (.var 5) (.cons (.tup (.cons (.bin .add (.var 6) (.tup (.cons (.var 14) .nil))) (.cons (.bin .mul (.var 7) (.bin .sub (.var 18) (.var 17))) (.cons (.bin .mul (.var 8) (.idx (.var 10) (.cst (.int 1)))) (.cons (.bin .add (.var 9) (.var 20)) (.cons (.var 19) (.cons (.idx (.var 13) (.var 14)) .nil))))))) .nil))) .done)))) .done) .done)) .done))) (.seq (.asg (.name 3) (.var 5)) (.seq (.ite (.cmp .gt (.blt .len (.cons (.var 3) .nil)) (.cst (.int 60))) (.seq (.ret (.lst .nil)) .done) .done) .done))))) (.seq (.ret (.lc [16] (.name 16) .plain (.cons (.var 3) .nil) (.cst (.bl true)) (.slc false true (.var 16) (.cst .non) (.cst (.int 4))))) .done)))
def d45 : Def := ⟨"_law_all_ways", (st 64), ["model", "w", "k", "found", "go", "later", "way", "top", "bottom", "many", "told", "state", "table", "followers", "i", "chance", "it", "a", "b", "near", "more", "step"], ["model", "w", "k"], b45, none, "_law_all_ways"⟩
/-- _law_spans(model, w, k): model, w, k, found, go, later, way, first, many, bits, state, low, size, table, followers, told, more, i, chance, it, a, b, step -/
def b46 : S := (.seq (.asg (.name 3) (.lst (.cons (.tup (.cons (.tup .nil) (.cons (.cst (.int 0)) (.cons (.bin .shl (.cst (.int 1)) (.var 1)) (.cons (.var 1) (.cons (.cst (.int 0)) (.cons (.cst (.int 0)) (.cons (.bin .shl (.cst (.int 1)) (.var 1)) .nil)))))))) .nil))) (.seq (.loop (.name 4) .range1 (.cons (.var 2) .nil) (.seq (.asg (.name 5) (.lst .nil)) (.seq (.loop (.tup (.cons (.name 6) (.cons (.name 7) (.cons (.name 8) (.cons (.name 9) (.cons (.name 10) (.cons (.name 11) (.cons (.name 12) .nil)))))))) .plain (.cons (.var 3) .nil) (.seq (.asg (.tup (.cons (.name 13) (.cons (.name 14) .nil))) (.idx (.var 0) (.var 10))) (.seq (.asg (.name 15) (.idx (.call 44 5 0 [0, 1, 2, 3, 4] (.cons (.var 1) (.cons (.var 11) (.cons (.var 12) (.cons (.cst (.int 0)) (.cons (.tup .nil) .nil))))) .nil) (.cst (.int 0)))) (.seq (.asg (.name 16) (.idx (.lc [22] (.name 22) .range1 (.cons (.cst (.int 40)) .nil) (.cmp .eq (.bin .shl (.var 12) (.var 22)) (.idx (.var 15) (.cst (.int 1)))) (.var 22)) (.cst (.int 0)))) (.seq (.loop (.tup (.cons (.name 17) (.cons (.name 18) .nil))) .enum (.cons (.var 13) .nil) (.seq (.ite (.cmp .gt (.idx (.var 18) (.cst (.int 0))) (.cst (.int 0))) (.seq (.asg (.tup (.cons (.name 20) (.cons (.name 21) .nil))) (.call 43 3 0 [0, 1, 2] (.cons (.var 13) (.cons (.idx (.var 15) (.cst (.int 1))) (.cons (.var 17) .nil))) .nil)) (.seq (.expr (.mth .append (.var 5) (.cons (.tup (.cons (.bin .add (.var 6) (.tup (.cons (.var 17) .nil))) (.cons (.bin .add (.bin .shl (.var 7) (.var 16)) (.var 20)) (.cons (.bin .sub (.var 21) (.var 20)) (.cons (.bin .add (.var 9) (.var 16)) (.cons (.idx (.var 14) (.var 17)) (.cons (.bin .add (.idx (.var 15) (.cst (.int 0))) (.var 20)) (.cons (.bin .sub (.var 21) (.var 20)) .nil)))))))) .nil))) .done)) .done) .done)) .done))))) (.seq (.asg (.name 3) (.var 5)) (.seq (.ite (.cmp .gt (.blt .len (.cons (.var 3) .nil)) (.cst (.int 200))) (.seq (.ret (.lst .nil)) .done) .done) .done))))) (.seq (.ret (.lc [19] (.name 19) .plain (.cons (.var 3) .nil) (.cst (.bl true)) (.slc false true (.var 19) (.cst .non) (.cst (.int 4))))) .done)))
def d46 : Def := ⟨"_law_spans", (st 65), ["model", "w", "k", "found", "go", "later", "way", "first", "many", "bits", "state", "low", "size", "table", "followers", "told", "more", "i", "chance", "it", "a", "b", "step"], ["model", "w", "k"], b46, none, "_law_spans"⟩
/-- _law_row(number, many): number, many, at -/
def b47 : S := (.seq (.ret (.blt .tuple (.cons (.lc [2] (.name 2) .range1 (.cons (.var 1) .nil) (.cst (.bl true)) (.bin .band (.bin .shr (.var 0) (.bin .sub (.bin .sub (.var 1) (.cst (.int 1))) (.var 2))) (.cst (.int 1)))) .nil))) .done)
def d47 : Def := ⟨"_law_row", (st 66), ["number", "many", "at"], ["number", "many"], b47, none, "_law_row"⟩
/-- _law_are_ends_right(deck): deck, w, model, k, spans, turn, at, way, first, many, bits, more, number, go -/
def b48 : S := (.seq (.asg (.name 1) (.call 38 2 0 [0, 1] (.cons (.var 0) (.cons (.lst (.cons (.cst (.int 6)) (.cons (.cst (.int 7)) (.cons (.cst (.int 8)) (.cons (.cst (.int 9)) (.cons (.cst (.int 10)) (.cons (.cst (.int 11)) (.cons (.cst (.int 12)) (.cons (.cst (.int 13)) (.cons (.cst (.int 14)) (.cons (.cst (.int 15)) (.cons (.cst (.int 16)) .nil)))))))))))) .nil)) .nil)) (.seq (.par [2, 3] (.cons (.call 42 4 0 [0, 1, 2, 3] (.cons (.var 0) (.cons (.cst (.int 3)) (.cons (.cst (.int 4)) (.cons (.blt .min2 (.cons (.cst (.int 100)) (.cons (.bin .add (.bin .shl (.cst (.int 1)) (.bin .sub (.var 1) (.cst (.int 2)))) (.cst (.int 1))) .nil))) .nil)))) .nil) (.cons (.call 38 2 0 [0, 1] (.cons (.var 0) (.cons (.lst (.cons (.cst (.int 1)) (.cons (.cst (.int 2)) (.cons (.cst (.int 3)) (.cons (.cst (.int 4)) (.cons (.cst (.int 5)) .nil)))))) .nil)) .nil) .nil))) (.seq (.asg (.name 4) (.call 46 3 0 [0, 1, 2] (.cons (.var 2) (.cons (.var 1) (.cons (.var 3) .nil))) .nil)) (.seq (.loop (.name 5) .range1 (.cons (.ite (.cmp .ne (.var 4) (.lst .nil)) (.cst (.int 6)) (.cst (.int 0))) .nil) (.seq (.asg (.name 6) (.call 37 2 0 [0, 1] (.cons (.var 0) (.cons (.blt .len (.cons (.var 4) .nil)) .nil)) .nil)) (.seq (.asg (.tup (.cons (.name 7) (.cons (.name 8) (.cons (.name 9) (.cons (.name 10) .nil))))) (.idx (.var 4) (.var 6))) (.seq (.asg (.name 11) (.blt .tuple (.cons (.lc [13] (.name 13) .range1 (.cons (.call 37 2 0 [0, 1] (.cons (.var 0) (.cons (.cst (.int 5)) .nil)) .nil) .nil) (.cst (.bl true)) (.call 37 2 0 [0, 1] (.cons (.var 0) (.cons (.cst (.int 2)) .nil)) .nil)) .nil))) (.seq (.loop (.name 12) .plain (.cons (.tup (.cons (.var 8) (.cons (.bin .sub (.bin .add (.var 8) (.var 9)) (.cst (.int 1))) (.cons (.bin .add (.var 8) (.call 37 2 0 [0, 1] (.cons (.var 0) (.cons (.var 9) .nil)) .nil)) .nil)))) .nil) (.seq (.ite (.cmp .ne (.blt .repr (.cons (.call 34 4 0 [0, 1, 2, 3] (.cons (.var 2) (.cons (.var 1) (.cons (.bin .add (.call 47 2 0 [0, 1] (.cons (.var 12) (.cons (.var 10) .nil)) .nil) (.var 11)) (.cons (.var 3) .nil)))) .nil) .nil)) (.blt .repr (.cons (.var 7) .nil))) (.seq (.ret (.cst (.bl false))) .done) .done) .done)) (.seq (.ite (.tand (.cmp .gt (.var 6) (.cst (.int 0))) (.cmp .ne (.blt .repr (.cons (.call 34 4 0 [0, 1, 2, 3] (.cons (.var 2) (.cons (.var 1) (.cons (.bin .add (.call 47 2 0 [0, 1] (.cons (.bin .sub (.var 8) (.cst (.int 1))) (.cons (.var 10) .nil)) .nil) (.bin .mul (.tup (.cons (.cst (.int 1)) .nil)) (.cst (.int 40)))) (.cons (.var 3) .nil)))) .nil) .nil)) (.blt .repr (.cons (.idx (.idx (.var 4) (.bin .sub (.var 6) (.cst (.int 1)))) (.cst (.int 0))) .nil)))) (.seq (.ret (.cst (.bl false))) .done) .done) (.seq (.ite (.tand (.cmp .lt (.bin .add (.var 6) (.cst (.int 1))) (.blt .len (.cons (.var 4) .nil))) (.cmp .ne (.blt .repr (.cons (.call 34 0 4 [3, 2, 1, 0] .nil (.cons (.var 3) (.cons (.call 47 2 0 [0, 1] (.cons (.bin .add (.var 8) (.var 9)) (.cons (.var 10) .nil)) .nil) (.cons (.var 1) (.cons (.var 2) .nil))))) .nil)) (.blt .repr (.cons (.idx (.idx (.var 4) (.bin .add (.var 6) (.cst (.int 1)))) (.cst (.int 0))) .nil)))) (.seq (.ret (.cst (.bl false))) .done) .done) (.seq (.ite (.tor (.cmp .ne (.blt .repr (.cons (.call 33 3 0 [0, 1, 2] (.cons (.var 2) (.cons (.var 1) (.cons (.var 7) .nil))) .nil) .nil)) (.blt .repr (.cons (.call 40 2 0 [0, 1] (.cons (.var 9) (.cons (.bin .shl (.cst (.int 1)) (.var 10)) .nil)) .nil) .nil))) (.cmp .ne (.blt .repr (.cons (.call 34 4 0 [0, 1, 2, 3] (.cons (.var 2) (.cons (.var 1) (.cons (.call 32 3 0 [0, 1, 2] (.cons (.var 2) (.cons (.var 1) (.cons (.var 7) .nil))) .nil) (.cons (.var 3) .nil)))) .nil) .nil)) (.blt .repr (.cons (.var 7) .nil)))) (.seq (.ret (.cst (.bl false))) .done) .done) .done)))))))) (.seq (.ret (.cst (.bl true))) .done)))))
def d48 : Def := ⟨"_law_are_ends_right", (st 67), ["deck", "w", "model", "k", "spans", "turn", "at", "way", "first", "many", "bits", "more", "number", "go"], ["deck"], b48, none, "_law_are_ends_right"⟩
/-- law(script): script, deck, go, w, model, k, ways, many, found, number, due, way, top, bottom, looked, bits, at, it -/
def b49 : S := (.seq (.asg (.name 1) (.call 36 1 0 [0] (.cons (.var 0) .nil) .nil)) (.seq (.ite (.tnot (.tval (.call 48 1 0 [0] (.cons (.var 1) .nil) .nil))) (.seq (.ret (.cst (.bl false))) .done) .done) (.seq (.loop (.name 2) .range1 (.cons (.cst (.int 2)) .nil) (.seq (.asg (.name 3) (.call 38 2 0 [0, 1] (.cons (.var 1) (.cons (.lst (.cons (.cst (.int 3)) (.cons (.cst (.int 4)) (.cons (.cst (.int 3)) (.cons (.cst (.int 5)) .nil))))) .nil)) .nil)) (.seq (.asg (.name 4) (.call 42 4 0 [0, 1, 2, 3] (.cons (.var 1) (.cons (.cst (.int 3)) (.cons (.ite (.cmp .gt (.var 3) (.cst (.int 3))) (.cst (.int 4)) (.cst (.int 3))) (.cons (.bin .add (.bin .shl (.cst (.int 1)) (.bin .sub (.var 3) (.cst (.int 2)))) (.cst (.int 1))) .nil)))) .nil)) (.seq (.asg (.name 5) (.call 38 2 0 [0, 1] (.cons (.var 1) (.cons (.lst (.cons (.cst (.int 1)) (.cons (.cst (.int 2)) (.cons (.cst (.int 0)) (.cons (.cst (.int 3)) (.cons (.cst (.int 2)) (.cons (.cst (.int 4)) .nil))))))) .nil)) .nil)) (.seq (.asg (.name 6) (.call 45 3 0 [0, 1, 2] (.cons (.var 4) (.cons (.var 3) (.cons (.var 5) .nil))) .nil)) (.seq (.asg (.name 7) (.ite (.cmp .gt (.var 5) (.cst (.int 0))) (.blt .max1 (.cons (.bin .add (.lst (.cons (.cst (.int 0)) .nil)) (.lc [17] (.name 17) .plain (.cons (.call 45 3 0 [0, 1, 2] (.cons (.var 4) (.cons (.var 3) (.cons (.bin .sub (.var 5) (.cst (.int 1))) .nil))) .nil) .nil) (.cst (.bl true)) (.idx (.var 17) (.cst (.int 3))))) .nil)) (.cst (.int 0)))) (.seq (.ite (.tor (.cmp .eq (.var 6) (.lst .nil)) (.cmp .gt (.var 7) (.cst (.int 7)))) (.seq .cont .done) .done) (.seq (.asg (.name 8) .dnw) (.seq (.loop (.name 9) .range1 (.cons (.bin .shl (.cst (.int 1)) (.var 7)) .nil) (.seq (.asg (.name 15) (.blt .tuple (.cons (.lc [16] (.name 16) .range1 (.cons (.var 7) .nil) (.cst (.bl true)) (.bin .band (.bin .shr (.var 9) (.bin .sub (.bin .sub (.var 7) (.cst (.int 1))) (.var 16))) (.cst (.int 1)))) .nil))) (.seq (.asg (.name 11) (.ite (.cmp .gt (.bin .mod (.blt .int (.cons (.var 9) .nil)) (.cst (.int 3))) (.cst (.int 0))) (.call 34 4 0 [0, 1, 2, 3] (.cons (.var 4) (.cons (.var 3) (.cons (.var 15) (.cons (.var 5) .nil)))) .nil) (.call 34 0 4 [3, 2, 1, 0] .nil (.cons (.var 5) (.cons (.var 15) (.cons (.var 3) (.cons (.var 4) .nil))))))) (.seq (.sto (.bin .add (.dget (.var 8) (.var 11) (.cst (.int 0))) (.cst (.int 1))) (.var 8) (.var 11)) (.seq (.ite (.tand (.cmp .eq (.bin .mod (.blt .int (.cons (.var 9) .nil)) (.cst (.int 9))) (.cst (.int 4))) (.cmp .ne (.call 34 4 0 [0, 1, 2, 3] (.cons (.var 4) (.cons (.var 3) (.cons (.bin .add (.var 15) (.tup (.cons (.cst (.int 1)) (.cons (.cst (.int 0)) (.cons (.cst (.int 1)) (.cons (.cst (.int 1)) .nil)))))) (.cons (.var 5) .nil)))) .nil) (.var 11))) (.seq (.ret (.cst (.bl false))) .done) .done) .done))))) (.seq (.asg (.name 10) .dnw) (.seq (.loop (.tup (.cons (.name 11) (.cons (.name 12) (.cons (.name 13) (.cons (.name 14) .nil))))) .plain (.cons (.var 6) .nil) (.seq (.sto (.bin .fdiv (.bin .shl (.var 12) (.var 7)) (.var 13)) (.var 10) (.var 11)) (.seq (.ite (.tor (.cmp .ne (.bin .mod (.blt .int (.cons (.bin .shl (.var 12) (.var 7)) .nil)) (.var 13)) (.cst (.int 0))) (.cmp .ne (.blt .repr (.cons (.call 33 3 0 [0, 1, 2] (.cons (.var 4) (.cons (.var 3) (.cons (.var 11) .nil))) .nil) .nil)) (.blt .repr (.cons (.call 40 2 0 [0, 1] (.cons (.var 12) (.cons (.var 13) .nil)) .nil) .nil)))) (.seq (.ret (.cst (.bl false))) .done) .done) .done))) (.seq (.ite (.tor (.cmp .ne (.blt .sorted (.cons (.blt .list (.cons (.var 8) .nil)) .nil)) (.blt .sorted (.cons (.blt .list (.cons (.var 10) .nil)) .nil))) (.cmp .ne (.lck 10 (.lc [11] (.name 11) .keys (.cons (.var 10) .nil) (.cmp .ne (.idx (.var 8) (.var 11)) (.idx (.var 10) (.var 11))) (.cst (.int 1)))) (.lst .nil))) (.seq (.ret (.cst (.bl false))) .done) .done) (.seq (.asg (.name 11) (.call 38 2 0 [0, 1] (.cons (.var 1) (.cons (.blt .sorted (.cons (.blt .list (.cons (.var 10) .nil)) .nil)) .nil)) .nil)) (.seq (.asg (.name 15) (.call 32 3 0 [0, 1, 2] (.cons (.var 4) (.cons (.var 3) (.cons (.var 11) .nil))) .nil)) (.seq (.ite (.tor (.cmp .notn (.call 35 2 0 [0, 1] (.cons (.var 4) (.cons (.var 11) .nil)) .nil) (.cst (.bl true))) (.cmp .ne (.call 34 4 0 [0, 1, 2, 3] (.cons (.var 4) (.cons (.var 3) (.cons (.var 15) (.cons (.var 5) .nil)))) .nil) (.var 11))) (.seq (.ret (.cst (.bl false))) .done) .done) .done))))))))))))))) (.seq (.ret (.cst (.bl true))) .done))))
def d49 : Def := ⟨"law", (st 68), ["script", "deck", "go", "w", "model", "k", "ways", "many", "found", "number", "due", "way", "top", "bottom", "looked", "bits", "at", "it"], ["script"], b49, none, "law"⟩
/-- __init__(self, model, w, bits): self, model, w, bits, place -/
def b50 : S := (.seq (.sfd (.var 1) (.var 0) "model") (.seq (.sfd (.var 2) (.var 0) "w") (.seq (.sfd (.var 3) (.var 0) "bits") (.seq (.sfd (.cst (.int 0)) (.var 0) "at") (.seq (.sfd (.cst (.int 0)) (.var 0) "state") (.seq (.sfd (.cst (.int 0)) (.var 0) "low") (.seq (.sfd (.bin .shl (.cst (.int 1)) (.var 2)) (.var 0) "size") (.seq (.sfd (.cst (.int 0)) (.var 0) "value") (.seq (.loop (.name 4) .range1 (.cons (.var 2) .nil) (.seq (.sfd (.bin .add (.bin .mul (.cst (.int 2)) (.fld (.var 0) "value")) (.mcl kReader "next_bit" 51 0 (.var 0) .nil)) (.var 0) "value") .done)) .done)))))))))
def d50 : Def := ⟨"__init__", (stM 43 0), ["self", "model", "w", "bits", "place"], ["self", "model", "w", "bits"], b50, some "Reader", "Reader.__init__"⟩
/-- next_bit(self): self -/
def b51 : S := (.seq (.afd (.var 0) "at" .add (.cst (.int 1))) (.seq (.ret (.ite (.cmp .le (.fld (.var 0) "at") (.blt .len (.cons (.fld (.var 0) "bits") .nil))) (.idx (.fld (.var 0) "bits") (.bin .sub (.fld (.var 0) "at") (.cst (.int 1)))) (.cst (.int 0)))) .done))
def d51 : Def := ⟨"next_bit", (stM 43 1), ["self"], ["self"], b51, some "Reader", "Reader.next_bit"⟩
/-- settle(self): self, half, quarter, less -/
def b52 : S := (.seq (.par [1, 2] (.cons (.bin .shl (.cst (.int 1)) (.bin .sub (.fld (.var 0) "w") (.cst (.int 1)))) (.cons (.bin .shl (.cst (.int 1)) (.bin .sub (.fld (.var 0) "w") (.cst (.int 2)))) .nil))) (.seq (.whil (.tval (.cst (.bl true))) (.seq (.ite (.cmp .le (.bin .add (.fld (.var 0) "low") (.fld (.var 0) "size")) (.var 1)) (.seq (.asg (.name 3) (.cst (.int 0))) .done) (.seq (.ite (.cmp .ge (.fld (.var 0) "low") (.var 1)) (.seq (.asg (.name 3) (.var 1)) .done) (.seq (.ite (.tand (.cmp .ge (.fld (.var 0) "low") (.var 2)) (.cmp .le (.bin .add (.fld (.var 0) "low") (.fld (.var 0) "size")) (.bin .add (.var 1) (.var 2)))) (.seq (.asg (.name 3) (.var 2)) .done) (.seq .retN .done)) .done)) .done)) (.seq (.sfd (.bin .mul (.cst (.int 2)) (.bin .sub (.fld (.var 0) "low") (.var 3))) (.var 0) "low") (.seq (.sfd (.bin .mul (.cst (.int 2)) (.fld (.var 0) "size")) (.var 0) "size") (.seq (.sfd (.bin .add (.bin .mul (.cst (.int 2)) (.bin .sub (.fld (.var 0) "value") (.var 3))) (.mcl kReader "next_bit" 51 0 (.var 0) .nil)) (.var 0) "value") .done))))) .done))
def d52 : Def := ⟨"settle", (stM 43 2), ["self", "half", "quarter", "less"], ["self"], b52, some "Reader", "Reader.settle"⟩
/-- outcome(self): self, table, followers, outcome, a, b -/
def b53 : S := (.seq (.asg (.tup (.cons (.name 1) (.cons (.name 2) .nil))) (.idx (.fld (.var 0) "model") (.fld (.var 0) "state"))) (.seq (.loop (.name 3) .range1 (.cons (.blt .len (.cons (.var 1) .nil)) .nil) (.seq (.asg (.tup (.cons (.name 4) (.cons (.name 5) .nil))) (.call 23 3 0 [0, 1, 2] (.cons (.var 1) (.cons (.fld (.var 0) "size") (.cons (.var 3) .nil))) .nil)) (.seq (.ite (.chain .le .lt (.var 4) (.bin .sub (.fld (.var 0) "value") (.fld (.var 0) "low")) (.var 5)) (.seq (.sfd (.bin .add (.fld (.var 0) "low") (.var 4)) (.var 0) "low") (.seq (.sfd (.bin .sub (.var 5) (.var 4)) (.var 0) "size") (.seq (.sfd (.idx (.var 2) (.var 3)) (.var 0) "state") (.seq (.expr (.mcl kReader "settle" 52 0 (.var 0) .nil)) (.seq (.ret (.var 3)) .done))))) .done) .done))) (.seq (.ret (.cst .non)) .done)))
def d53 : Def := ⟨"outcome", (stM 43 3), ["self", "table", "followers", "outcome", "a", "b"], ["self"], b53, some "Reader", "Reader.outcome"⟩
def prg : Prg := ⟨[d0, d1, d2, d3, d4, d5, d6, d7, d8, d9, d10, d11, d12, d13, d14, d15, d16, d17, d18, d19, d20, d21, d22, d23, d24, d25, d26, d27, d28, d29, d30, d31, d32, d33, d34, d35, d36, d37, d38, d39, d40, d41, d42, d43, d44, d45, d46, d47, d48, d49, d50, d51, d52, d53], pats, bl, consts, mpats, cpats, klass, imps, lck⟩
theorem ok0 : DefOk prg d0 := ⟨⟨rfl, rfl, rfl, by decide +kernel, rfl, by decide +kernel, by decide +kernel⟩, by kernel_rfl, ⟨(defArgs (st 7)).args, by rfl, by decide +kernel⟩⟩
theorem ok1 : DefOk prg d1 := ⟨⟨rfl, rfl, rfl, by decide +kernel, rfl, by decide +kernel, by decide +kernel⟩, by kernel_rfl, ⟨(defArgs (st 8)).args, by rfl, by decide +kernel⟩⟩
theorem ok2 : DefOk prg d2 := ⟨⟨rfl, rfl, rfl, by decide +kernel, rfl, by decide +kernel, by decide +kernel⟩, by kernel_rfl, ⟨(defArgs (st 9)).args, by rfl, by decide +kernel⟩⟩
theorem ok3 : DefOk prg d3 := ⟨⟨rfl, rfl, rfl, by decide +kernel, rfl, by decide +kernel, by decide +kernel⟩, by kernel_rfl, ⟨(defArgs (st 10)).args, by rfl, by decide +kernel⟩⟩
theorem ok4 : DefOk prg d4 := ⟨⟨rfl, rfl, rfl, by decide +kernel, rfl, by decide +kernel, by decide +kernel⟩, by kernel_rfl, ⟨(defArgs (st 11)).args, by rfl, by decide +kernel⟩⟩
theorem ok5 : DefOk prg d5 := ⟨⟨rfl, rfl, rfl, by decide +kernel, rfl, by decide +kernel, by decide +kernel⟩, by kernel_rfl, ⟨(defArgs (st 15)).args, by rfl, by decide +kernel⟩⟩
theorem ok6 : DefOk prg d6 := ⟨⟨rfl, rfl, rfl, by decide +kernel, rfl, by decide +kernel, by decide +kernel⟩, by kernel_rfl, ⟨(defArgs (st 16)).args, by rfl, by decide +kernel⟩⟩
theorem ok7 : DefOk prg d7 := ⟨⟨rfl, rfl, rfl, by decide +kernel, rfl, by decide +kernel, by decide +kernel⟩, by kernel_rfl, ⟨(defArgs (st 17)).args, by rfl, by decide +kernel⟩⟩
theorem ok8 : DefOk prg d8 := ⟨⟨rfl, rfl, rfl, by decide +kernel, rfl, by decide +kernel, by decide +kernel⟩, by kernel_rfl, ⟨(defArgs (st 18)).args, by rfl, by decide +kernel⟩⟩
theorem ok9 : DefOk prg d9 := ⟨⟨rfl, rfl, rfl, by decide +kernel, rfl, by decide +kernel, by decide +kernel⟩, by kernel_rfl, ⟨(defArgs (st 19)).args, by rfl, by decide +kernel⟩⟩
theorem ok10 : DefOk prg d10 := ⟨⟨rfl, rfl, rfl, by decide +kernel, rfl, by decide +kernel, by decide +kernel⟩, by kernel_rfl, ⟨(defArgs (st 20)).args, by rfl, by decide +kernel⟩⟩
theorem ok11 : DefOk prg d11 := ⟨⟨rfl, rfl, rfl, by decide +kernel, rfl, by decide +kernel, by decide +kernel⟩, by kernel_rfl, ⟨(defArgs (st 21)).args, by rfl, by decide +kernel⟩⟩
theorem ok12 : DefOk prg d12 := ⟨⟨rfl, rfl, rfl, by decide +kernel, rfl, by decide +kernel, by decide +kernel⟩, by kernel_rfl, ⟨(defArgs (st 22)).args, by rfl, by decide +kernel⟩⟩
theorem ok13 : DefOk prg d13 := ⟨⟨rfl, rfl, rfl, by decide +kernel, rfl, by decide +kernel, by decide +kernel⟩, by kernel_rfl, ⟨(defArgs (st 23)).args, by rfl, by decide +kernel⟩⟩
theorem ok14 : DefOk prg d14 := ⟨⟨rfl, rfl, rfl, by decide +kernel, rfl, by decide +kernel, by decide +kernel⟩, by kernel_rfl, ⟨(defArgs (st 25)).args, by rfl, by decide +kernel⟩⟩
theorem ok15 : DefOk prg d15 := ⟨⟨rfl, rfl, rfl, by decide +kernel, rfl, by decide +kernel, by decide +kernel⟩, by kernel_rfl, ⟨(defArgs (st 26)).args, by rfl, by decide +kernel⟩⟩
theorem ok16 : DefOk prg d16 := ⟨⟨rfl, rfl, rfl, by decide +kernel, rfl, by decide +kernel, by decide +kernel⟩, by kernel_rfl, ⟨(defArgs (st 27)).args, by rfl, by decide +kernel⟩⟩
theorem ok17 : DefOk prg d17 := ⟨⟨rfl, rfl, rfl, by decide +kernel, rfl, by decide +kernel, by decide +kernel⟩, by kernel_rfl, ⟨(defArgs (st 28)).args, by rfl, by decide +kernel⟩⟩
theorem ok18 : DefOk prg d18 := ⟨⟨rfl, rfl, rfl, by decide +kernel, rfl, by decide +kernel, by decide +kernel⟩, by kernel_rfl, ⟨(defArgs (st 29)).args, by rfl, by decide +kernel⟩⟩
theorem ok19 : DefOk prg d19 := ⟨⟨rfl, rfl, rfl, by decide +kernel, rfl, by decide +kernel, by decide +kernel⟩, by kernel_rfl, ⟨(defArgs (st 30)).args, by rfl, by decide +kernel⟩⟩
theorem ok20 : DefOk prg d20 := ⟨⟨rfl, rfl, rfl, by decide +kernel, rfl, by decide +kernel, by decide +kernel⟩, by kernel_rfl, ⟨(defArgs (st 32)).args, by rfl, by decide +kernel⟩⟩
theorem ok21 : DefOk prg d21 := ⟨⟨rfl, rfl, rfl, by decide +kernel, rfl, by decide +kernel, by decide +kernel⟩, by kernel_rfl, ⟨(defArgs (st 33)).args, by rfl, by decide +kernel⟩⟩
theorem ok22 : DefOk prg d22 := ⟨⟨rfl, rfl, rfl, by decide +kernel, rfl, by decide +kernel, by decide +kernel⟩, by kernel_rfl, ⟨(defArgs (st 35)).args, by rfl, by decide +kernel⟩⟩
theorem ok23 : DefOk prg d23 := ⟨⟨rfl, rfl, rfl, by decide +kernel, rfl, by decide +kernel, by decide +kernel⟩, by kernel_rfl, ⟨(defArgs (st 36)).args, by rfl, by decide +kernel⟩⟩
theorem ok24 : DefOk prg d24 := ⟨⟨rfl, rfl, rfl, by decide +kernel, rfl, by decide +kernel, by decide +kernel⟩, by kernel_rfl, ⟨(defArgs (st 37)).args, by rfl, by decide +kernel⟩⟩
theorem ok25 : DefOk prg d25 := ⟨⟨rfl, rfl, rfl, by decide +kernel, rfl, by decide +kernel, by decide +kernel⟩, by kernel_rfl, ⟨(defArgs (st 38)).args, by rfl, by decide +kernel⟩⟩
theorem ok26 : DefOk prg d26 := ⟨⟨rfl, rfl, rfl, by decide +kernel, rfl, by decide +kernel, by decide +kernel⟩, by kernel_rfl, ⟨(defArgs (st 39)).args, by rfl, by decide +kernel⟩⟩
theorem ok27 : DefOk prg d27 := ⟨⟨rfl, rfl, rfl, by decide +kernel, rfl, by decide +kernel, by decide +kernel⟩, by kernel_rfl, ⟨(defArgs (st 40)).args, by rfl, by decide +kernel⟩⟩
theorem ok28 : DefOk prg d28 := ⟨⟨rfl, rfl, rfl, by decide +kernel, rfl, by decide +kernel, by decide +kernel⟩, by kernel_rfl, ⟨(defArgs (st 41)).args, by rfl, by decide +kernel⟩⟩
theorem ok29 : DefOk prg d29 := ⟨⟨rfl, rfl, rfl, by decide +kernel, rfl, by decide +kernel, by decide +kernel⟩, by kernel_rfl, ⟨(defArgs (st 42)).args, by rfl, by decide +kernel⟩⟩
theorem ok30 : DefOk prg d30 := ⟨⟨rfl, rfl, rfl, by decide +kernel, rfl, by decide +kernel, by decide +kernel⟩, by kernel_rfl, ⟨(defArgs (st 44)).args, by rfl, by decide +kernel⟩⟩
theorem ok31 : DefOk prg d31 := ⟨⟨rfl, rfl, rfl, by decide +kernel, rfl, by decide +kernel, by decide +kernel⟩, by kernel_rfl, ⟨(defArgs (st 48)).args, by rfl, by decide +kernel⟩⟩
theorem ok32 : DefOk prg d32 := ⟨⟨rfl, rfl, rfl, by decide +kernel, rfl, by decide +kernel, by decide +kernel⟩, by kernel_rfl, ⟨(defArgs (st 49)).args, by rfl, by decide +kernel⟩⟩
theorem ok33 : DefOk prg d33 := ⟨⟨rfl, rfl, rfl, by decide +kernel, rfl, by decide +kernel, by decide +kernel⟩, by kernel_rfl, ⟨(defArgs (st 50)).args, by rfl, by decide +kernel⟩⟩
theorem ok34 : DefOk prg d34 := ⟨⟨rfl, rfl, rfl, by decide +kernel, rfl, by decide +kernel, by decide +kernel⟩, by kernel_rfl, ⟨(defArgs (st 51)).args, by rfl, by decide +kernel⟩⟩
theorem ok35 : DefOk prg d35 := ⟨⟨rfl, rfl, rfl, by decide +kernel, rfl, by decide +kernel, by decide +kernel⟩, by kernel_rfl, ⟨(defArgs (st 53)).args, by rfl, by decide +kernel⟩⟩
theorem ok36 : DefOk prg d36 := ⟨⟨rfl, rfl, rfl, by decide +kernel, rfl, by decide +kernel, by decide +kernel⟩, by kernel_rfl, ⟨(defArgs (st 55)).args, by rfl, by decide +kernel⟩⟩
theorem ok37 : DefOk prg d37 := ⟨⟨rfl, rfl, rfl, by decide +kernel, rfl, by decide +kernel, by decide +kernel⟩, by kernel_rfl, ⟨(defArgs (st 56)).args, by rfl, by decide +kernel⟩⟩
theorem ok38 : DefOk prg d38 := ⟨⟨rfl, rfl, rfl, by decide +kernel, rfl, by decide +kernel, by decide +kernel⟩, by kernel_rfl, ⟨(defArgs (st 57)).args, by rfl, by decide +kernel⟩⟩
theorem ok39 : DefOk prg d39 := ⟨⟨rfl, rfl, rfl, by decide +kernel, rfl, by decide +kernel, by decide +kernel⟩, by kernel_rfl, ⟨(defArgs (st 58)).args, by rfl, by decide +kernel⟩⟩
theorem ok40 : DefOk prg d40 := ⟨⟨rfl, rfl, rfl, by decide +kernel, rfl, by decide +kernel, by decide +kernel⟩, by kernel_rfl, ⟨(defArgs (st 59)).args, by rfl, by decide +kernel⟩⟩
theorem ok41 : DefOk prg d41 := ⟨⟨rfl, rfl, rfl, by decide +kernel, rfl, by decide +kernel, by decide +kernel⟩, by kernel_rfl, ⟨(defArgs (st 60)).args, by rfl, by decide +kernel⟩⟩
theorem ok42 : DefOk prg d42 := ⟨⟨rfl, rfl, rfl, by decide +kernel, rfl, by decide +kernel, by decide +kernel⟩, by kernel_rfl, ⟨(defArgs (st 61)).args, by rfl, by decide +kernel⟩⟩
theorem ok43 : DefOk prg d43 := ⟨⟨rfl, rfl, rfl, by decide +kernel, rfl, by decide +kernel, by decide +kernel⟩, by kernel_rfl, ⟨(defArgs (st 62)).args, by rfl, by decide +kernel⟩⟩
theorem ok44 : DefOk prg d44 := ⟨⟨rfl, rfl, rfl, by decide +kernel, rfl, by decide +kernel, by decide +kernel⟩, by kernel_rfl, ⟨(defArgs (st 63)).args, by rfl, by decide +kernel⟩⟩
theorem ok45 : DefOk prg d45 := ⟨⟨rfl, rfl, rfl, by decide +kernel, rfl, by decide +kernel, by decide +kernel⟩, by kernel_rfl, ⟨(defArgs (st 64)).args, by rfl, by decide +kernel⟩⟩
theorem ok46 : DefOk prg d46 := ⟨⟨rfl, rfl, rfl, by decide +kernel, rfl, by decide +kernel, by decide +kernel⟩, by kernel_rfl, ⟨(defArgs (st 65)).args, by rfl, by decide +kernel⟩⟩
theorem ok47 : DefOk prg d47 := ⟨⟨rfl, rfl, rfl, by decide +kernel, rfl, by decide +kernel, by decide +kernel⟩, by kernel_rfl, ⟨(defArgs (st 66)).args, by rfl, by decide +kernel⟩⟩
theorem ok48 : DefOk prg d48 := ⟨⟨rfl, rfl, rfl, by decide +kernel, rfl, by decide +kernel, by decide +kernel⟩, by kernel_rfl, ⟨(defArgs (st 67)).args, by rfl, by decide +kernel⟩⟩
theorem ok49 : DefOk prg d49 := ⟨⟨rfl, rfl, rfl, by decide +kernel, rfl, by decide +kernel, by decide +kernel⟩, by kernel_rfl, ⟨(defArgs (st 68)).args, by rfl, by decide +kernel⟩⟩
theorem ok50 : DefOk prg d50 := ⟨⟨rfl, rfl, rfl, by decide +kernel, rfl, by decide +kernel, by decide +kernel⟩, by kernel_rfl, ⟨(defArgs (stM 43 0)).args, by rfl, by decide +kernel⟩⟩
theorem ok51 : DefOk prg d51 := ⟨⟨rfl, rfl, rfl, by decide +kernel, rfl, by decide +kernel, by decide +kernel⟩, by kernel_rfl, ⟨(defArgs (stM 43 1)).args, by rfl, by decide +kernel⟩⟩
theorem ok52 : DefOk prg d52 := ⟨⟨rfl, rfl, rfl, by decide +kernel, rfl, by decide +kernel, by decide +kernel⟩, by kernel_rfl, ⟨(defArgs (stM 43 2)).args, by rfl, by decide +kernel⟩⟩
theorem ok53 : DefOk prg d53 := ⟨⟨rfl, rfl, rfl, by decide +kernel, rfl, by decide +kernel, by decide +kernel⟩, by kernel_rfl, ⟨(defArgs (stM 43 3)).args, by rfl, by decide +kernel⟩⟩
theorem prg_ok : PrgOk prg := ⟨fun d h => by
  simp only [prg, List.mem_cons, List.not_mem_nil, or_false] at h
  rcases h with rfl | rfl | rfl | rfl | rfl | rfl | rfl | rfl | rfl | rfl | rfl | rfl | rfl | rfl | rfl | rfl | rfl | rfl | rfl | rfl | rfl | rfl | rfl | rfl | rfl | rfl | rfl | rfl | rfl | rfl | rfl | rfl | rfl | rfl | rfl | rfl | rfl | rfl | rfl | rfl | rfl | rfl | rfl | rfl | rfl | rfl | rfl | rfl | rfl | rfl | rfl | rfl | rfl | rfl
  · exact ok0
  · exact ok1
  · exact ok2
  · exact ok3
  · exact ok4
  · exact ok5
  · exact ok6
  · exact ok7
  · exact ok8
  · exact ok9
  · exact ok10
  · exact ok11
  · exact ok12
  · exact ok13
  · exact ok14
  · exact ok15
  · exact ok16
  · exact ok17
  · exact ok18
  · exact ok19
  · exact ok20
  · exact ok21
  · exact ok22
  · exact ok23
  · exact ok24
  · exact ok25
  · exact ok26
  · exact ok27
  · exact ok28
  · exact ok29
  · exact ok30
  · exact ok31
  · exact ok32
  · exact ok33
  · exact ok34
  · exact ok35
  · exact ok36
  · exact ok37
  · exact ok38
  · exact ok39
  · exact ok40
  · exact ok41
  · exact ok42
  · exact ok43
  · exact ok44
  · exact ok45
  · exact ok46
  · exact ok47
  · exact ok48
  · exact ok49
  · exact ok50
  · exact ok51
  · exact ok52
  · exact ok53,
  fun q h => by
  simp only [prg, pats, List.mem_cons, List.not_mem_nil, or_false] at h
  rcases h with rfl | rfl | rfl | rfl | rfl | rfl | rfl | rfl | rfl | rfl | rfl | rfl | rfl | rfl | rfl | rfl | rfl | rfl | rfl | rfl | rfl | rfl | rfl | rfl | rfl | rfl | rfl | rfl | rfl | rfl | rfl | rfl | rfl | rfl | rfl | rfl | rfl | rfl | rfl | rfl | rfl | rfl | rfl | rfl | rfl | rfl | rfl | rfl | rfl | rfl
  · exact ⟨d0, rfl, rfl, rfl, by decide +kernel⟩
  · exact ⟨d1, rfl, rfl, rfl, by decide +kernel⟩
  · exact ⟨d2, rfl, rfl, rfl, by decide +kernel⟩
  · exact ⟨d5, rfl, rfl, rfl, by decide +kernel⟩
  · exact ⟨d6, rfl, rfl, rfl, by decide +kernel⟩
  · exact ⟨d8, rfl, rfl, rfl, by decide +kernel⟩
  · exact ⟨d9, rfl, rfl, rfl, by decide +kernel⟩
  · exact ⟨d11, rfl, rfl, rfl, by decide +kernel⟩
  · exact ⟨d7, rfl, rfl, rfl, by decide +kernel⟩
  · exact ⟨d13, rfl, rfl, rfl, by decide +kernel⟩
  · exact ⟨d14, rfl, rfl, rfl, by decide +kernel⟩
  · exact ⟨d15, rfl, rfl, rfl, by decide +kernel⟩
  · exact ⟨d17, rfl, rfl, rfl, by decide +kernel⟩
  · exact ⟨d4, rfl, rfl, rfl, by decide +kernel⟩
  · exact ⟨d3, rfl, rfl, rfl, by decide +kernel⟩
  · exact ⟨d19, rfl, rfl, rfl, by decide +kernel⟩
  · exact ⟨d12, rfl, rfl, rfl, by decide +kernel⟩
  · exact ⟨d23, rfl, rfl, rfl, by decide +kernel⟩
  · exact ⟨d24, rfl, rfl, rfl, by decide +kernel⟩
  · exact ⟨d25, rfl, rfl, rfl, by decide +kernel⟩
  · exact ⟨d26, rfl, rfl, rfl, by decide +kernel⟩
  · exact ⟨d27, rfl, rfl, rfl, by decide +kernel⟩
  · exact ⟨d10, rfl, rfl, rfl, by decide +kernel⟩
  · exact ⟨d16, rfl, rfl, rfl, by decide +kernel⟩
  · exact ⟨d22, rfl, rfl, rfl, by decide +kernel⟩
  · exact ⟨d31, rfl, rfl, rfl, by decide +kernel⟩
  · exact ⟨d18, rfl, rfl, rfl, by decide +kernel⟩
  · exact ⟨d28, rfl, rfl, rfl, by decide +kernel⟩
  · exact ⟨d29, rfl, rfl, rfl, by decide +kernel⟩
  · exact ⟨d20, rfl, rfl, rfl, by decide +kernel⟩
  · exact ⟨d21, rfl, rfl, rfl, by decide +kernel⟩
  · exact ⟨d30, rfl, rfl, rfl, by decide +kernel⟩
  · exact ⟨d37, rfl, rfl, rfl, by decide +kernel⟩
  · exact ⟨d39, rfl, rfl, rfl, by decide +kernel⟩
  · exact ⟨d38, rfl, rfl, rfl, by decide +kernel⟩
  · exact ⟨d40, rfl, rfl, rfl, by decide +kernel⟩
  · exact ⟨d41, rfl, rfl, rfl, by decide +kernel⟩
  · exact ⟨d43, rfl, rfl, rfl, by decide +kernel⟩
  · exact ⟨d44, rfl, rfl, rfl, by decide +kernel⟩
  · exact ⟨d46, rfl, rfl, rfl, by decide +kernel⟩
  · exact ⟨d42, rfl, rfl, rfl, by decide +kernel⟩
  · exact ⟨d34, rfl, rfl, rfl, by decide +kernel⟩
  · exact ⟨d34, rfl, rfl, rfl, by decide +kernel⟩
  · exact ⟨d33, rfl, rfl, rfl, by decide +kernel⟩
  · exact ⟨d32, rfl, rfl, rfl, by decide +kernel⟩
  · exact ⟨d47, rfl, rfl, rfl, by decide +kernel⟩
  · exact ⟨d36, rfl, rfl, rfl, by decide +kernel⟩
  · exact ⟨d48, rfl, rfl, rfl, by decide +kernel⟩
  · exact ⟨d45, rfl, rfl, rfl, by decide +kernel⟩
  · exact ⟨d35, rfl, rfl, rfl, by decide +kernel⟩,
  fun q h => by
  simp only [prg, mpats, List.mem_cons, List.not_mem_nil, or_false] at h
  rcases h with rfl | rfl | rfl
  · exact ⟨by simp [prg, klass], d53, rfl, rfl, rfl, by decide +kernel⟩
  · exact ⟨by simp [prg, klass], d51, rfl, rfl, rfl, by decide +kernel⟩
  · exact ⟨by simp [prg, klass], d52, rfl, rfl, rfl, by decide +kernel⟩,
  fun q h => by
  simp only [prg, cpats, List.mem_cons, List.not_mem_nil, or_false] at h
  rcases h with rfl
  · exact ⟨by simp [prg, klass], d50, rfl, rfl, rfl, by decide, by decide +kernel⟩⟩
abbrev F (k : Nat) : Fm := Run prg.T k
end Cb.K59

namespace Cb.K59
open PySem PySem.Spec PyProof.Rows L2
/-! ### the register: low, size, waiting; q is a quarter -/
/-- the bits that are told: 0 and the waiting ones, 1 and the waiting ones -/
def emL (t : Nat) : List Int := 0 :: List.replicate t 1
def emH (t : Nat) : List Int := 1 :: List.replicate t 0
inductive Nm (q : Int) : Int → Int → Nat → Int → Int → Nat → List Int → Prop
  | stop {l s : Int} {t : Nat} : ¬ l + s ≤ 2 * q → ¬ 2 * q ≤ l → ¬ (q ≤ l ∧ l + s ≤ 2 * q + q) → Nm q l s t l s t []
  | low {l s l' s' : Int} {t t' : Nat} {bs : List Int} : l + s ≤ 2 * q → Nm q (2 * l) (2 * s) 0 l' s' t' bs → Nm q l s t l' s' t' (emL t ++ bs)
  | high {l s l' s' : Int} {t t' : Nat} {bs : List Int} : ¬ l + s ≤ 2 * q → 2 * q ≤ l → Nm q (2 * (l - 2 * q)) (2 * s) 0 l' s' t' bs → Nm q l s t l' s' t' (emH t ++ bs)
  | mid {l s l' s' : Int} {t t' : Nat} {bs : List Int} : ¬ l + s ≤ 2 * q → ¬ 2 * q ≤ l → (q ≤ l ∧ l + s ≤ 2 * q + q) → Nm q (2 * (l - q)) (2 * s) (t + 1) l' s' t' bs → Nm q l s t l' s' t' bs
theorem Nm.fn {q l s l' s' l'' s'' : Int} {t t' t'' : Nat} {bs bs' : List Int} (h : Nm q l s t l' s' t' bs) : Nm q l s t l'' s'' t'' bs' → l' = l'' ∧ s' = s'' ∧ t' = t'' ∧ bs = bs' := by
  induction h generalizing bs' with
  | stop a b c =>
    intro g
    cases g with
    | stop => exact ⟨rfl, rfl, rfl, rfl⟩
    | low x => exact absurd x a
    | high _ x => exact absurd x b
    | mid _ _ x => exact absurd x c
  | low a _ ih =>
    intro g
    cases g with
    | stop x => exact absurd a x
    | low _ g =>
      obtain ⟨h1, h2, h3, h4⟩ := ih g
      exact ⟨h1, h2, h3, by rw [h4]⟩
    | high x => exact absurd a x
    | mid x => exact absurd a x
  | high a b _ ih =>
    intro g
    cases g with
    | stop _ x => exact absurd b x
    | low x => exact absurd x a
    | high _ _ g =>
      obtain ⟨h1, h2, h3, h4⟩ := ih g
      exact ⟨h1, h2, h3, by rw [h4]⟩
    | mid _ x => exact absurd b x
  | mid a b c _ ih =>
    intro g
    cases g with
    | stop _ _ x => exact absurd c x
    | low x => exact absurd x a
    | high _ x => exact absurd x b
    | mid _ _ _ g => exact ih g
/-- the bounds -/
def Rg (q l s : Int) : Prop := 0 ≤ l ∧ 1 ≤ s ∧ l + s ≤ 4 * q
theorem Rg.low {q l s : Int} (h : Rg q l s) (a : l + s ≤ 2 * q) : Rg q (2 * l) (2 * s) := by
  unfold Rg at *
  omega
theorem Rg.high {q l s : Int} (h : Rg q l s) (b : 2 * q ≤ l) : Rg q (2 * (l - 2 * q)) (2 * s) := by
  unfold Rg at *
  omega
theorem Rg.mid {q l s : Int} (h : Rg q l s) (c : q ≤ l ∧ l + s ≤ 2 * q + q) : Rg q (2 * (l - q)) (2 * s) := by
  unfold Rg at *
  omega
theorem Nm.facts {q l s l' s' : Int} {t t' : Nat} {bs : List Int} (h : Nm q l s t l' s' t' bs) : Rg q l s → Rg q l' s' ∧ q < s' := by
  induction h with
  | stop a b c =>
    intro h
    refine ⟨h, ?_⟩
    unfold Rg at h
    omega
  | low a _ ih => exact fun h => ih (h.low a)
  | high a b _ ih => exact fun h => ih (h.high b)
  | mid a b c _ ih => exact fun h => ih (h.mid c)
theorem Nm.time {q l s l' s' : Int} {t t' : Nat} {bs : List Int} (h : Nm q l s t l' s' t' bs) : Rg q l s → ∃ n : Nat, (2 : Int) ^ n * s ≤ 4 * q ∧ t' ≤ t + n := by
  induction h with
  | stop a b c =>
    intro h
    refine ⟨0, ?_, by omega⟩
    unfold Rg at h
    omega
  | low a _ ih =>
    intro h
    obtain ⟨n, h1, h2⟩ := ih (h.low a)
    exact ⟨n + 1, by rw [Int.pow_succ, Int.mul_assoc]; exact h1, by omega⟩
  | high a b _ ih =>
    intro h
    obtain ⟨n, h1, h2⟩ := ih (h.high b)
    exact ⟨n + 1, by rw [Int.pow_succ, Int.mul_assoc]; exact h1, by omega⟩
  | mid a b c _ ih =>
    intro h
    obtain ⟨n, h1, h2⟩ := ih (h.mid c)
    exact ⟨n + 1, by rw [Int.pow_succ, Int.mul_assoc]; exact h1, by omega⟩
theorem Nm.t16 {q l s l' s' : Int} {t t' : Nat} {bs : List Int} (h : Nm q l s t l' s' t' bs) (hr : Rg q l s) (hq : q ≤ 16384) : t' ≤ t + 16 := by
  obtain ⟨n, h1, h2⟩ := h.time hr
  have h3 : (2 : Int) ^ n * 1 ≤ (2 : Int) ^ n * s := Int.mul_le_mul_of_nonneg_left hr.2.1 (Int.pow_nonneg (by omega))
  by_cases hn : n ≤ 16
  · omega
  · have h4 : (2 : Nat) ^ 17 ≤ 2 ^ n := Nat.pow_le_pow_right (by decide) (by omega)
    have e : ((2 ^ n : Nat) : Int) = (2 : Int) ^ n := by push_cast; rfl
    omega
/-- what settling leaves: a quarter lies within -/
theorem Nm.done {q l s l' s' : Int} {t t' : Nat} {bs : List Int} (h : Nm q l s t l' s' t' bs) : ¬ l' + s' ≤ 2 * q ∧ ¬ 2 * q ≤ l' ∧ ¬ (q ≤ l' ∧ l' + s' ≤ 2 * q + q) := by
  induction h with
  | stop a b c => exact ⟨a, b, c⟩
  | low _ _ ih => exact ih
  | high _ _ _ ih => exact ih
  | mid _ _ _ _ ih => exact ih
theorem emL_bit {t : Nat} : ∀ b ∈ emL t, b = 0 ∨ b = 1 := by
  intro b h
  rcases List.mem_cons.mp h with h | h
  · exact .inl h
  · exact .inr (List.eq_of_mem_replicate h)
theorem emH_bit {t : Nat} : ∀ b ∈ emH t, b = 0 ∨ b = 1 := by
  intro b h
  rcases List.mem_cons.mp h with h | h
  · exact .inr h
  · exact .inl (List.eq_of_mem_replicate h)
theorem Nm.bit {q l s l' s' : Int} {t t' : Nat} {bs : List Int} (h : Nm q l s t l' s' t' bs) : ∀ b ∈ bs, b = 0 ∨ b = 1 := by
  induction h with
  | stop => simp
  | low _ _ ih => exact fun b hb => (List.mem_append.mp hb).elim (emL_bit b) (ih b)
  | high _ _ _ ih => exact fun b hb => (List.mem_append.mp hb).elim (emH_bit b) (ih b)
  | mid _ _ _ _ ih => exact ih
/-! ### parts of a whole -/
theorem floor_same {s a0 a1 n m : Int} (h1 : 0 < a1) (hm : 0 < m) (h : a0 * m = n * a1) : (s * a0) / a1 = (s * n) / m := by
  have e1 : (s * a0) / a1 = (s * a0 * m) / (a1 * m) := (Int.mul_ediv_mul_of_pos_left _ _ hm).symm
  have e2 : (s * n) / m = (s * n * a1) / (m * a1) := (Int.mul_ediv_mul_of_pos_left _ _ h1).symm
  rw [e1, e2, Int.mul_assoc s a0 m, h, ← Int.mul_assoc, Int.mul_comm a1 m]
/-- a part of one or more takes one or more of the size -/
theorem cut_pos {s P p S : Int} (hS : 0 < S) (h : S ≤ s) (hp : 1 ≤ p) : (s * P) / S + 1 ≤ (s * (P + p)) / S := by
  have h1 : s * P + S ≤ s * (P + p) := by
    have : s * 1 ≤ s * p := Int.mul_le_mul_of_nonneg_left hp (by omega)
    rw [Int.mul_add]
    omega
  have h2 : (s * P + S) / S ≤ (s * (P + p)) / S := Int.ediv_le_ediv hS h1
  have h3 : (s * P + S) / S = (s * P) / S + 1 := by
    have := Int.add_mul_ediv_right (s * P) 1 (show S ≠ 0 by omega)
    rw [Int.one_mul] at this
    exact this
  omega
theorem cut_le {s P p S : Int} (hS : 0 < S) (hs : 0 ≤ s) (h : P + p ≤ S) : (s * (P + p)) / S ≤ s := by
  have h1 : s * (P + p) ≤ s * S := Int.mul_le_mul_of_nonneg_left h hs
  have h2 : (s * (P + p)) / S ≤ (s * S) / S := Int.ediv_le_ediv hS h1
  rw [Int.mul_ediv_cancel _ (show S ≠ 0 by omega)] at h2
  exact h2
theorem cut_nn {s P S : Int} (hS : 0 < S) (hs : 0 ≤ s) (hP : 0 ≤ P) : 0 ≤ (s * P) / S := Int.ediv_nonneg (Int.mul_nonneg hs hP) (by omega)
end Cb.K59

namespace Cb.K59
open PySem PySem.Spec PyProof.Rows L2
variable {k : Nat} {st : Store} {Q : K1}
/-! ### fractions: p / q in lowest terms is P / S -/
structure FrN (S P p q : Nat) : Prop where
  pos : 0 < q
  co : Nat.gcd p q = 1
  val : p * S = P * q
theorem FrN.le {S P p q : Nat} (h : FrN S P p q) (hS : 0 < S) : q ≤ S := by
  have hd : q ∣ S := by
    have : q ∣ p * S := by rw [h.val]; exact Nat.dvd_mul_left _ _
    exact Nat.Coprime.dvd_of_dvd_mul_left (show Nat.Coprime q p by unfold Nat.Coprime; rw [Nat.gcd_comm]; exact h.co) this
  exact Nat.le_of_dvd hS hd
theorem FrN.ple {S P p q : Nat} (h : FrN S P p q) (hS : 0 < S) : p ≤ P := by
  have h1 := h.le hS
  have : p * S ≤ P * S := by rw [h.val]; exact Nat.mul_le_mul_left _ h1
  exact Nat.le_of_mul_le_mul_right this hS
theorem FrN.mk' {S P a b : Nat} (hb : 0 < b) (hv : a * S = P * b) : FrN S P (a / Nat.gcd a b) (b / Nat.gcd a b) := by
  have hg : 0 < Nat.gcd a b := Nat.gcd_pos_of_pos_right _ hb
  obtain ⟨x, hx⟩ := Nat.gcd_dvd_left a b
  obtain ⟨y, hy⟩ := Nat.gcd_dvd_right a b
  have hc : Nat.gcd (a / Nat.gcd a b) (b / Nat.gcd a b) = 1 := Nat.gcd_div_gcd_div_gcd_of_pos_right hb
  generalize Nat.gcd a b = g at *
  have ex : a / g = x := by rw [hx, Nat.mul_div_cancel_left _ hg]
  have ey : b / g = y := by rw [hy, Nat.mul_div_cancel_left _ hg]
  rw [ex, ey] at hc ⊢
  refine ⟨Nat.pos_of_ne_zero fun z => ?_, hc, ?_⟩
  · rw [z, Nat.mul_zero] at hy
    omega
  · rw [hx, hy, Nat.mul_assoc, Nat.mul_left_comm P] at hv
    exact Nat.eq_of_mul_eq_mul_left hg hv
theorem FrN.zero {S : Nat} : FrN S 0 0 1 := ⟨by decide, by decide, by simp⟩
theorem FrN.all {S p q : Nat} (hS : 0 < S) (h : FrN S S p q) : p = 1 ∧ q = 1 := by
  have : p = q := Nat.eq_of_mul_eq_mul_right hS (by rw [h.val, Nat.mul_comm])
  subst this
  have := h.co
  rw [Nat.gcd_self] at this
  exact ⟨this, this⟩
def fr (p q : Nat) : D := .tup [.int (p : Int), .int (q : Int)]
/-- a part of the whole S, as a fraction -/
def fp (S P : Nat) : D := fr (P / Nat.gcd P S) (S / Nat.gcd P S)
theorem fp_ok {S P : Nat} (hS : 0 < S) : FrN S P (P / Nat.gcd P S) (S / Nat.gcd P S) := FrN.mk' hS rfl
theorem is_integer_ok {x : Int} (q : Q (.bl true) st) : F (k + 1) 0 [.int x] st Q := by
  refine run_step (fd := ⟨1, 1, b0⟩) rfl rfl ?_
  simp [b0, startD, isTy, wps_seq, q]
theorem is_between_ok {x l m : Int} (h : l ≤ x ∧ x ≤ m) (q : Q (.bl true) st) : F (k + 2) 1 [.int x, .int l, .int m] st Q := by
  refine run_step (fd := ⟨3, 3, b1⟩) rfl rfl ?_
  simp [b1, startD, permN, permL, wps_seq]
  refine is_integer_ok ?_
  simp [h.1, h.2, q]
theorem are_between_ok {bs : List Int} {l m : Int} (h : ∀ b ∈ bs, l ≤ b ∧ b ≤ m) (hl : bs.length ≤ 1000) (q : ∀ x, Q (.bl true) (st ++ [x])) : F (k + 3) 2 [.tup (bs.map D.int), .int l, .int m] st Q := by
  refine run_step (fd := ⟨3, 4, b2⟩) rfl rfl ?_
  simp [b2, startD, permN, permL, isTy, wps_seq]
  refine lc_seq (fun i acc st' => st' = st ∧ acc = (List.replicate i true).map D.bl ∧ i ≤ 1000) ⟨rfl, rfl, by omega⟩ (fun i d acc st' X hd ⟨h1, h2, h3⟩ hX => ?_) (fun acc st' ⟨h1, h2, h3⟩ => ?_)
  · rw [List.getElem?_map] at hd
    obtain ⟨b, hb, rfl⟩ := Option.map_eq_some_iff.mp hd
    have hi := (List.getElem?_eq_some_iff.mp hb).1
    subst h1 h2
    refine ⟨_, rfl, ?_⟩
    simp [wipeD, permN, permL]
    refine is_between_ok (h b (List.mem_of_getElem? hb)) ?_
    refine ⟨by omega, hX _ _ ⟨rfl, ?_, by omega⟩⟩
    rw [List.replicate_succ', List.map_append]
    simp
  · subst h1 h2
    refine bl_all (bs := List.replicate bs.length true) (by simp) ?_
    simpa using q _
theorem divisor_ok {a : Int} {b : Nat} (q : Q (.int (Nat.gcd a.natAbs b : Nat)) st) : F (k + 1) 5 [.int a, .int b] st Q :=
  run_step (fd := ⟨2, 2, b5⟩) rfl rfl (div_wps q)
theorem is_fraction_ok {p q : Nat} (hq : 0 < q) (hc : Nat.gcd p q = 1) (h : Q (.bl true) st) : F (k + 2) 6 [fr p q] st Q := by
  refine run_step (fd := ⟨1, 1, b6⟩) rfl rfl ?_
  unfold b6
  refine seq_i fun X hX => ite_i fun A B hA hB => ?_
  simp [startD, isTy, permN, permL, fr]
  refine is_integer_ok ?_
  simp
  refine is_integer_ok ?_
  simp
  refine hB _ (hX _ _ ?_)
  simp [startD, wps_seq, permN, permL, fr, hq]
  refine divisor_ok ?_
  simp [hc]
  exact h
theorem is_share_ok {p q : Nat} (hq : 0 < q) (hc : Nat.gcd p q = 1) (h : Q (.bl true) st) : F (k + 3) 7 [fr p q] st Q := by
  refine run_step (fd := ⟨1, 1, b7⟩) rfl rfl ?_
  simp [b7, startD, wps_seq, permN, permL]
  refine is_fraction_ok hq hc ?_
  simp [fr]
  exact h
theorem lowest_ok {a b : Nat} (hb : 0 < b) (hb2 : b ≤ 2 ^ 64) (q : Q (fr (a / Nat.gcd a b) (b / Nat.gcd a b)) st) : F (k + 2) 8 [.int (a : Nat), .int b] st Q := by
  refine run_step (fd := ⟨2, 3, b8⟩) rfl rfl (low_wps (f := 5) (fun a b st Q q => divisor_ok q) hb hb2 ?_)
  rw [Int.natAbs_natCast]
  have e3 : ((a : Nat) : Int) / ((Nat.gcd a b : Nat) : Int) = (a / Nat.gcd a b : Nat) := (Int.natCast_ediv _ _).symm
  rw [e3]
  exact q
theorem plus_ok {S P1 P2 p1 q1 p2 q2 : Nat} (hS : 0 < S) (hS2 : S ≤ 2 ^ 20) (h1 : FrN S P1 p1 q1) (h2 : FrN S P2 p2 q2) (hq : ∀ p q, FrN S (P1 + P2) p q → Q (fr p q) st) : F (k + 3) 9 [fr p1 q1, fr p2 q2] st Q := by
  have l1 := h1.le hS
  have l2 := h2.le hS
  have l3 : q1 * q2 ≤ 2 ^ 20 * 2 ^ 20 := Nat.mul_le_mul (by omega) (by omega)
  have g1 := h1.pos
  have g2 := h2.pos
  refine run_step (fd := ⟨2, 2, b9⟩) rfl rfl (plus_wps (f := 8) (by omega) (by omega) ?_)
  have e1 : (p1 : Int) * (q2 : Int) + (p2 : Int) * (q1 : Int) = ((p1 * q2 + p2 * q1 : Nat) : Int) := by push_cast; rfl
  have e2 : (q1 : Int) * (q2 : Int) = ((q1 * q2 : Nat) : Int) := by push_cast; rfl
  rw [e1, e2]
  refine lowest_ok (k := k) (Nat.mul_pos g1 g2) (by omega) (hq _ _ (FrN.mk' (Nat.mul_pos g1 g2) ?_))
  have v1 : p1 * q2 * S = P1 * (q1 * q2) := by rw [Nat.mul_right_comm, h1.val, Nat.mul_assoc]
  have v2 : p2 * q1 * S = P2 * (q1 * q2) := by rw [Nat.mul_right_comm, h2.val, Nat.mul_assoc, Nat.mul_comm q2 q1]
  rw [Nat.add_mul, Nat.add_mul, v1, v2]
/-- a fraction, or the module's own nought -/
def Zf (fv : D) (p q : Nat) : Prop := fv = fr p q ∨ fv = .ktp [.int 0, .int 1] ∧ p = 0 ∧ q = 1
theorem plusK_ok {S P p q : Nat} (hS : 0 < S) (hS2 : S ≤ 2 ^ 20) (h : FrN S P p q) (hq : ∀ p q, FrN S P p q → Q (fr p q) st) : F (k + 3) 9 [.ktp [.int 0, .int 1], fr p q] st Q := by
  have l := h.le hS
  have g := h.pos
  refine run_step (fd := ⟨2, 2, b9⟩) rfl rfl ?_
  simp [b9, startD, wps_seq, permN, permL, fr]
  refine ⟨mul_okL (by omega), mul_okR (by omega), mul_okL (by omega), ?_⟩
  exact lowest_ok (k := k) (a := p) (b := q) g (by omega) (hq _ _ (FrN.mk' g h.val))
theorem plusZ_ok {S P1 P2 p1 q1 p2 q2 : Nat} {fv : D} (hS : 0 < S) (hS2 : S ≤ 2 ^ 20) (hz : Zf fv p1 q1) (h1 : FrN S P1 p1 q1) (h2 : FrN S P2 p2 q2) (hq : ∀ p q, FrN S (P1 + P2) p q → Q (fr p q) st) : F (k + 3) 9 [fv, fr p2 q2] st Q := by
  rcases hz with rfl | ⟨rfl, rfl, rfl⟩
  · exact plus_ok hS hS2 h1 h2 hq
  · have : P1 = 0 := by
      have := h1.val
      simp at this
      omega
    subst this
    exact plusK_ok hS hS2 h2 fun p q hf => hq p q (by rw [Nat.zero_add]; exact hf)
theorem take_succ {α : Type} {xs : List α} {i : Nat} {x : α} (h : xs[i]? = some x) : xs.take (i + 1) = xs.take i ++ [x] := by
  rw [List.take_add_one, h]
  rfl
/-- a table: parts of the whole -/
def tabD (ps : List Nat) : D := .tup (ps.map (fp ps.sum))
theorem total_ok {S : Nat} {ps : List Nat} (hS : 0 < S) (hS2 : S ≤ 2 ^ 20) (hq : ∀ fv p q, Zf fv p q → FrN S ps.sum p q → (ps ≠ [] → fv = fr p q) → Q fv st) : F (k + 4) 11 [.tup (ps.map (fp S))] st Q := by
  refine run_step (fd := ⟨1, 3, b11⟩) rfl rfl ?_
  unfold b11
  refine seq_i fun X hX => ?_
  simp [startD]
  refine hX _ _ (seq_i fun X2 hX2 => ?_)
  simp
  refine for_seq (fun i ρ st' => st' = st ∧ ∃ (fv : D) (p q : Nat) (x : Option D), ρ = [some (.tup (ps.map (fp S))), some fv, x] ∧ FrN S (ps.take i).sum p q ∧ Zf fv p q ∧ (0 < i → fv = fr p q)) ⟨rfl, .ktp [.int 0, .int 1], 0, 1, none, rfl, by simpa using FrN.zero, .inr ⟨rfl, rfl, rfl⟩, fun h => absurd h (by omega)⟩ (fun i d ρ st' Y hd ⟨e1, fv, p, q, x, e2, h, hz, hi0⟩ hY => ?_) (fun ρ st' ⟨e1, fv, p, q, x, e2, h, hz, hi0⟩ => ?_)
  · subst e1 e2
    rw [List.getElem?_map] at hd
    obtain ⟨P, hP, rfl⟩ := Option.map_eq_some_iff.mp hd
    refine ⟨_, rfl, ?_⟩
    simp [wps_seq, permN, permL]
    refine plusZ_ok hS hS2 hz h (fp_ok hS) fun p' q' h' => ?_
    refine hY _ _ ⟨rfl, _, p', q', _, rfl, ?_, .inl rfl, fun _ => rfl⟩
    rw [take_succ hP]
    simpa using h'
  · subst e1 e2
    rw [List.length_map, List.take_length] at h
    refine hX2 _ _ ?_
    simp [wps_seq]
    exact hq fv p q hz h fun hne => hi0 (by rw [List.length_map]; exact List.length_pos_iff.mpr hne)
end Cb.K59

namespace Cb.K59
open PySem PySem.Spec PyProof.Rows L2
variable {k : Nat} {st : Store} {Q : K1}
def rowD (is : List Nat) : D := ti (is.map fun i : Nat => (i : Int))
structure Stt where
  ps : List Nat
  fs : List Nat
def stD (s : Stt) : D := .tup [tabD s.ps, rowD s.fs]
def modD (m : List Stt) : D := .tup (m.map stD)
structure Sok (n many : Nat) (s : Stt) : Prop where
  pl : s.ps.length = n
  fl : s.fs.length = n
  f : ∀ f ∈ s.fs, f < many
  s : 1 ≤ s.ps.sum ∧ s.ps.sum ≤ 100
structure Mok (n : Nat) (m : List Stt) : Prop where
  len : 1 ≤ m.length ∧ m.length ≤ 8
  hn : 1 ≤ n ∧ n ≤ 8
  st : ∀ s ∈ m, Sok n m.length s
theorem sm_fr {p q : Nat} (h1 : p ≤ 1000000) (h2 : q ≤ 1000000) : Sm (fr p q) ∧ pl (fr p q) = true := by
  refine ⟨⟨?_, ?_, ?_⟩, ?_⟩
  · simp [fr, sm, smAll]; omega
  · simp [fr, dep, depAll]
  · simp [fr, cnt, cntAll]
  · simp [fr, pl, plAll]; omega
theorem c_eqK {xs ys : List D} {st : Store} {Q : K1} (h : cmpS .eq (.tup xs) (.tup ys) st Q) : cmpS .eq (.tup xs) (.ktp ys) st Q := h
theorem is_table_ok {ps : List Nat} (hl : 1 ≤ ps.length ∧ ps.length ≤ 8) (hs : 1 ≤ ps.sum ∧ ps.sum ≤ 100) (hq : ∀ l, Q (.bl true) (st ++ l)) : F (k + 5) 13 [tabD ps] st Q := by
  refine run_step (fd := ⟨1, 2, b13⟩) rfl rfl ?_
  unfold b13
  refine seq_i fun X hX => ite_i fun A B hA hB => ?_
  simp [startD, tabD, isTy]
  refine Br.gt (decide_eq_true (by omega)) ?_
  refine .inr ⟨by omega, ?_⟩
  refine lc_seq (fun i acc st' => st' = st ∧ acc = (List.replicate i true).map D.bl ∧ i ≤ 1000) ⟨rfl, rfl, by omega⟩ (fun i d acc st' Y hd ⟨h1, h2, h3⟩ hY => ?_) (fun acc st' ⟨h1, h2, h3⟩ => ?_)
  · rw [List.getElem?_map] at hd
    obtain ⟨P, hP, rfl⟩ := Option.map_eq_some_iff.mp hd
    have hi := (List.getElem?_eq_some_iff.mp hP).1
    have hf := fp_ok (S := ps.sum) (P := P) (by omega)
    subst h1 h2
    refine ⟨_, rfl, ?_⟩
    simp [wipeD, permN, permL]
    refine is_share_ok hf.pos hf.co ?_
    refine ⟨by omega, hY _ _ ⟨rfl, ?_, by omega⟩⟩
    rw [List.replicate_succ', List.map_append]
    simp
  · subst h1 h2
    refine bl_all (bs := List.replicate ps.length true) (by simp) ?_
    simp
    refine hB _ (hX _ _ ?_)
    simp [startD, wps_seq, permN, permL, tabD]
    refine total_ok (S := ps.sum) (by omega) (by omega) fun fv p q hz hf hne => ?_
    obtain ⟨rfl, rfl⟩ := hf.all (by omega)
    rw [hne (List.length_pos_iff.mp (by omega))]
    refine c_eqK ?_
    exact c_eqSame (xs := [.int ((1 : Nat) : Int), .int ((1 : Nat) : Int)]) rfl (sm_fr (p := 1) (q := 1) (by omega) (by omega)).1 (hq _)
theorem is_state_ok {n many : Nat} {s : Stt} (h : Sok n many s) (hn : 1 ≤ n ∧ n ≤ 8) (hm : many ≤ 8) (hq : ∀ l, Q (.bl true) (st ++ l)) : F (k + 6) 14 [stD s, .int (n : Nat), .int (many : Nat)] st Q := by
  have e1 := h.pl
  have e2 := h.fl
  refine run_step (fd := ⟨3, 3, b14⟩) rfl rfl ?_
  unfold b14
  refine seq_i fun X hX => ite_i fun A B hA hB => ?_
  simp [startD, stD, isTy, permN, permL]
  refine is_table_ok (by omega) h.s fun l => ?_
  simp [tabD, e1]
  refine hB _ (hX _ _ ?_)
  simp [startD, wps_seq, permN, permL, stD, rowD, ti]
  rw [← List.map_map]
  refine are_between_ok (bs := s.fs.map fun i : Nat => (i : Int)) (fun b hb => ?_) (by simp; omega) fun x => ?_
  · obtain ⟨i, hi, rfl⟩ := List.mem_map.mp hb
    have := h.f i hi
    omega
  simp [e2]
  exact hq _
theorem pl_fp {S P : Nat} (hS : 1 ≤ S ∧ S ≤ 100) (hP : P ≤ 100000) : pl (fp S P) = true ∧ dep (fp S P) ≤ 1 ∧ cnt (fp S P) ≤ 2 := by
  have hf := fp_ok (S := S) (P := P) (by omega)
  have h1 := hf.le (by omega)
  have h2 := hf.ple (by omega)
  refine ⟨(sm_fr (by omega) (by omega)).2, ?_, ?_⟩
  · simp [fp, fr, dep, depAll]
  · simp [fp, fr, cnt, cntAll]
theorem part_le : ∀ {ps : List Nat} {P : Nat}, P ∈ ps → P ≤ ps.sum
  | p :: ps, P, h => by
    rw [List.sum_cons]
    rcases List.mem_cons.mp h with rfl | h
    · omega
    · have := part_le h
      omega
theorem small_row {is : List Nat} {m : Nat} (h : ∀ i ∈ is, i < m) (hm : m ≤ 1000) : ∀ b ∈ is.map (fun i : Nat => (i : Int)), b.natAbs < 10 ^ 12 := fun b hb => by
  obtain ⟨i, hi, rfl⟩ := List.mem_map.mp hb
  have := h i hi
  omega
theorem data_st {n many : Nat} {s : Stt} (h : Sok n many s) (hn : n ≤ 8) (hm : many ≤ 8) : pl (stD s) = true ∧ dep (stD s) ≤ 3 ∧ cnt (stD s) ≤ 50 := by
  have hp : ∀ P ∈ s.ps, pl (fp s.ps.sum P) = true ∧ dep (fp s.ps.sum P) ≤ 1 ∧ cnt (fp s.ps.sum P) ≤ 2 := fun P hP => pl_fp h.s (by have := part_le hP; have := h.s; omega)
  have e1 := h.pl
  have e2 := h.fl
  refine ⟨?_, ?_, ?_⟩
  · have h1 : pl (tabD s.ps) = true := by
      simp only [tabD, pl]
      exact plAll_map fun P hP => (hp P hP).1
    have h2 : pl (rowD s.fs) = true := pl_ti (small_row h.f (by omega))
    simp only [stD, pl, plAll, h1, h2, Bool.and_self]
  · have h1 := depAll_map (f := fp s.ps.sum) (n := 1) (xs := s.ps) fun P hP => (hp P hP).2.1
    have h2 := dep_ti (w := s.fs.map fun i : Nat => (i : Int))
    simp only [stD, tabD, rowD, dep, depAll]
    omega
  · have h1 := cntAll_map (f := fp s.ps.sum) (n := 2) (xs := s.ps) fun P hP => (hp P hP).2.2
    have h2 := cnt_ti (w := s.fs.map fun i : Nat => (i : Int))
    rw [List.length_map] at h2
    simp only [stD, tabD, rowD, cnt, cntAll]
    omega
theorem sm_mod {n : Nat} {m : List Stt} (h : Mok n m) : Sm (modD m) ∧ pl (modD m) = true := by
  have hl := h.len
  have hn := h.hn
  have hs : ∀ s ∈ m, pl (stD s) = true ∧ dep (stD s) ≤ 3 ∧ cnt (stD s) ≤ 50 := fun s hs => data_st (h.st s hs) hn.2 hl.2
  have h0 : pl (modD m) = true := by
    simp only [modD, pl]
    exact plAll_map fun s h => (hs s h).1
  refine ⟨⟨sm_of_pl _ h0, ?_, ?_⟩, h0⟩
  · have h1 := depAll_map (f := stD) (n := 3) (xs := m) fun s h => (hs s h).2.1
    simp only [modD, dep]
    omega
  · have h1 := cntAll_map (f := stD) (n := 50) (xs := m) fun s h => (hs s h).2.2
    simp only [modD, cnt]
    omega
theorem at_map {α : Type} {f : α → D} {xs : List α} {i : Nat} {x : α} (h : xs[i]? = some x) : atI (xs.map f) (i : Int) = some (f x) := at_get (by rw [List.getElem?_map, h]; rfl)
theorem is_model_ok {n : Nat} {m : List Stt} (h : Mok n m) (hq : ∀ l, Q (.bl true) (st ++ l)) : F (k + 7) 15 [modD m] st Q := by
  have hl := h.len
  have hn := h.hn
  have hdat := sm_mod h
  obtain ⟨s0, e0⟩ : ∃ s0, m[0]? = some s0 := ⟨m[0]'(by omega), List.getElem?_eq_getElem (by omega)⟩
  have h0 := h.st s0 (List.mem_of_getElem? e0)
  have hp0 := h0.pl
  have a0 : atI (m.map stD) 0 = some (stD s0) := at_map (i := 0) e0
  refine run_step (fd := ⟨1, 2, b15⟩) rfl rfl ?_
  unfold b15
  refine seq_i fun X hX => ite_i fun A B hA hB => ?_
  simp [startD, isTy, modD]
  refine c_eqP ⟨_, rfl⟩ hdat.1 (show Sm (.tup []) from ⟨rfl, by simp [dep, depAll], by simp [cnt, cntAll]⟩) hdat.2 (by simp [pl, plAll]) ⟨fun z => ?_, fun _ => ?_⟩
  · simp [modD] at z
    subst z
    simp at hl
  simp [a0, stD]
  refine hB _ (hX _ _ (seq_i fun X2 hX2 => ite_i fun A2 B2 hA2 hB2 => ?_))
  simp [startD, modD, a0, stD, isTy, tabD]
  refine hB2 _ (hX2 _ _ ?_)
  simp [startD, modD, wps_seq]
  refine lc_seq (fun i acc st' => (∃ l, st' = st ++ l) ∧ acc = (List.replicate i true).map D.bl ∧ i ≤ 1000) ⟨⟨[], by simp⟩, rfl, by omega⟩ (fun i d acc st' Y hd ⟨⟨l, h1⟩, h2, h3⟩ hY => ?_) (fun acc st' ⟨⟨l, h1⟩, h2, h3⟩ => ?_)
  · rw [List.getElem?_map] at hd
    obtain ⟨s, hs, rfl⟩ := Option.map_eq_some_iff.mp hd
    have hi := (List.getElem?_eq_some_iff.mp hs).1
    subst h1 h2
    refine ⟨_, rfl, ?_⟩
    simp [wipeD, permN, permL, modD, a0]
    simp [stD, tabD, hp0]
    refine is_state_ok (s := s) (h.st s (List.mem_of_getElem? hs)) hn hl.2 fun l' => ?_
    refine ⟨by omega, hY _ _ ⟨⟨l ++ l', by simp⟩, ?_, by omega⟩⟩
    rw [List.replicate_succ', List.map_append]
    simp
  · subst h1 h2
    refine bl_all (bs := List.replicate m.length true) (by simp) ?_
    simp
    exact hq _
theorem need_model_ok {n : Nat} {m : List Stt} (h : Mok n m) (hq : ∀ l, Q .non (st ++ l)) : F (k + 8) 16 [modD m] st Q := by
  refine run_step (fd := ⟨1, 1, b16⟩) rfl rfl ?_
  simp [b16, startD, permN, permL, wps_seq, wps_ite]
  exact is_model_ok h fun l => by simpa using hq l
end Cb.K59

namespace Cb.K59
open PySem PySem.Spec PyProof.Rows L2
variable {k : Nat} {st : Store} {Q : K1}
/-- a way: outcomes of positive chance, from a state -/
inductive Wy (m : List Stt) : Nat → List Nat → Prop
  | nil {s : Nat} : s < m.length → Wy m s []
  | cons {s o P s' : Nat} {S : Stt} {os : List Nat} : m[s]? = some S → S.ps[o]? = some P → 0 < P → S.fs[o]? = some s' → Wy m s' os → Wy m s (o :: os)
theorem Wy.lt {m : List Stt} {s : Nat} {os : List Nat} (h : Wy m s os) : s < m.length := by
  cases h with
  | nil h => exact h
  | cons h => exact (List.getElem?_eq_some_iff.mp h).1
theorem fp_top {S P : Nat} (hS : 0 < S) (hP : 0 < P) : 0 < P / Nat.gcd P S := Nat.div_pos (Nat.gcd_le_left _ hP) (Nat.gcd_pos_of_pos_left _ hP)
theorem drop_cons {α : Type} {xs : List α} {i : Nat} {x : α} (h : xs[i]? = some x) : xs.drop i = x :: xs.drop (i + 1) := by
  obtain ⟨hi, e⟩ := List.getElem?_eq_some_iff.mp h
  rw [List.drop_eq_getElem_cons hi, e]
theorem at_row {is : List Nat} {i x : Nat} (h : is[i]? = some x) : atI (List.map (D.int ∘ fun i : Nat => (i : Int)) is) (i : Int) = some (.int (x : Nat)) := at_get (by rw [List.getElem?_map, h]; rfl)
theorem is_way_ok {n : Nat} {m : List Stt} (h : Mok n m) {way : List Nat} (hw : Wy m 0 way) (hq : Q (.bl true) st) : F (k + 3) 17 [modD m, rowD way] st Q := by
  refine run_step (fd := ⟨2, 6, b17⟩) rfl rfl ?_
  unfold b17
  refine seq_i fun X hX => ite_i fun A B hA hB => ?_
  simp [startD, isTy, rowD, ti]
  refine hB _ (hX _ _ (seq_i fun X2 hX2 => ?_))
  simp [startD]
  refine hX2 _ _ (seq_i fun X3 hX3 => ?_)
  simp [rowD, ti]
  refine for_seq (fun i ρ st' => st' = st ∧ ∃ (cur : Nat) (x3 x4 x5 : Option D), ρ = [some (modD m), some (rowD way), some (.int (cur : Nat)), x3, x4, x5] ∧ Wy m cur (way.drop i)) ⟨rfl, 0, none, none, none, by simp [rowD, ti], hw⟩ (fun i d ρ st' Y hd ⟨e1, cur, x3, x4, x5, e2, hwy⟩ hY => ?_) (fun ρ st' ⟨e1, cur, x3, x4, x5, e2, hwy⟩ => ?_)
  · subst e1 e2
    rw [List.getElem?_map] at hd
    obtain ⟨o, ho, rfl⟩ := Option.map_eq_some_iff.mp hd
    rw [drop_cons ho] at hwy
    cases hwy with
    | @cons _ _ P s' S _ g1 g2 g3 g4 g5 =>
      have hS := h.st S (List.mem_of_getElem? g1)
      have hol := (List.getElem?_eq_some_iff.mp g2).1
      have hpl := hS.pl
      have hnb := h.hn
      have ht := fp_top (S := S.ps.sum) (P := P) (by have := hS.s; omega) g3
      refine ⟨_, rfl, seq_i fun X4 hX4 => ?_⟩
      simp [modD]
      refine ⟨_, at_map g1, ?_⟩
      simp [stD]
      refine hX4 _ _ (seq_i fun X5 hX5 => ite_i fun A2 B2 hA2 hB2 => ?_)
      simp [permN, permL, tabD]
      refine is_between_ok (by omega) ?_
      simp
      refine ⟨_, at_map g2, ?_⟩
      simp [fp, fr]
      have hne : ¬ (((P / Nat.gcd P S.ps.sum : Nat) : Int) = 0) := by omega
      refine Br.gf (by simpa using hne) (hB2 _ (hX5 _ _ (seq_i fun X6 hX6 => ?_)))
      simp [rowD, ti]
      refine ⟨_, at_row g4, ?_⟩
      exact hX6 _ _ (hY _ _ ⟨rfl, s', some (.int (o : Nat)), some (tabD S.ps), some (rowD S.fs), by simp [modD, rowD, ti], g5⟩)
  · subst e1 e2
    refine hX3 _ _ ?_
    simp [wps_seq]
    exact hq
theorem need_way_ok {n : Nat} {m : List Stt} (h : Mok n m) {way : List Nat} (hw : Wy m 0 way) (hq : Q .non st) : F (k + 4) 18 [modD m, rowD way] st Q := by
  refine run_step (fd := ⟨2, 2, b18⟩) rfl rfl ?_
  simp [b18, startD, permN, permL, wps_seq, wps_ite]
  exact is_way_ok h hw (by simpa using hq)
theorem ahead_ok {S : Nat} {ps : List Nat} {o : Nat} (hS : 0 < S) (hS2 : S ≤ 2 ^ 20) (hq : ∀ fv p q, Zf fv p q → FrN S (ps.take o).sum p q → Q fv st) : F (k + 4) 19 [.tup (ps.map (fp S)), .int (o : Nat)] st Q := by
  refine run_step (fd := ⟨2, 4, b19⟩) rfl rfl ?_
  unfold b19
  refine seq_i fun X hX => ?_
  simp [startD]
  refine hX _ _ (seq_i fun X2 hX2 => ?_)
  simp
  rw [cut_to, ← List.map_take]
  refine for_seq (fun i ρ st' => st' = st ∧ ∃ (fv : D) (p q : Nat) (x : Option D), ρ = [some (.tup (ps.map (fp S))), some (.int (o : Nat)), some fv, x] ∧ FrN S ((ps.take o).take i).sum p q ∧ Zf fv p q) ⟨rfl, .ktp [.int 0, .int 1], 0, 1, none, rfl, by simpa using FrN.zero, .inr ⟨rfl, rfl, rfl⟩⟩ (fun i d ρ st' Y hd ⟨e1, fv, p, q, x, e2, h, hz⟩ hY => ?_) (fun ρ st' ⟨e1, fv, p, q, x, e2, h, hz⟩ => ?_)
  · subst e1 e2
    rw [List.getElem?_map] at hd
    obtain ⟨P, hP, rfl⟩ := Option.map_eq_some_iff.mp hd
    refine ⟨_, rfl, ?_⟩
    simp [wps_seq, permN, permL]
    refine plusZ_ok hS hS2 hz h (fp_ok hS) fun p' q' h' => ?_
    refine hY _ _ ⟨rfl, _, p', q', _, rfl, ?_, .inl rfl⟩
    rw [take_succ hP, List.sum_append]
    simpa using h'
  · subst e1 e2
    rw [List.length_map, List.take_length] at h
    refine hX2 _ _ ?_
    simp [wps_seq]
    exact hq fv p q hz h
/-- the same numbers, read one by one -/
theorem Zf.at {fv : D} {p q : Nat} (h : Zf fv p q) : idxS st fv (.int 0) = some (.int (p : Nat)) ∧ idxS st fv (.int 1) = some (.int (q : Nat)) := by
  rcases h with rfl | ⟨rfl, rfl, rfl⟩
  · simp [fr]
  · simp
theorem whole_ok {a b : Int} (hb : 0 < b ∧ b < 1073741824) (hq : Q (.int (a / b)) st) : F (k + 1) 12 [.tup [.int a, .int b]] st Q := by
  refine run_step (fd := ⟨1, 1, b12⟩) rfl rfl ?_
  simp [b12, startD, wps_seq]
  exact ⟨div_ok hb.1 hb.2, hq⟩
theorem cut_ok {ps : List Nat} {o P : Nat} {s : Int} (hS : 0 < ps.sum ∧ ps.sum ≤ 100) (hP : ps[o]? = some P) (hs : 0 ≤ s ∧ s < 2 ^ 32)
    (hq : Q (.tup [.int ((s * ((ps.take o).sum : Nat)) / (ps.sum : Nat)), .int ((s * (((ps.take o).sum + P : Nat) : Int)) / (ps.sum : Nat))]) st) : F (k + 5) 23 [tabD ps, .int s, .int (o : Nat)] st Q := by
  refine run_step (fd := ⟨3, 5, b23⟩) rfl rfl ?_
  unfold b23
  refine seq_i fun X hX => ?_
  simp [startD, permN, permL, tabD]
  refine ahead_ok hS.1 (by omega) fun fv p q hz hf => hX _ _ (seq_i fun X2 hX2 => ?_)
  simp [permN, permL]
  refine ⟨_, at_map hP, ?_⟩
  refine plusZ_ok hS.1 (by omega) hz hf (fp_ok hS.1) fun p2 q2 hf2 => hX2 _ _ ?_
  simp [wps_seq, fr, permN, permL, hz.at]
  have l1 := hf.le hS.1
  have l2 := hf2.le hS.1
  have g1 := hf.pos
  have g2 := hf2.pos
  refine ⟨mul_okL (by omega), whole_ok (by omega) ⟨mul_okL (by omega), whole_ok (by omega) ?_⟩⟩
  have v1 : (p : Int) * (ps.sum : Nat) = ((ps.take o).sum : Nat) * (q : Int) := by exact_mod_cast hf.val
  have v2 : (p2 : Int) * (ps.sum : Nat) = (((ps.take o).sum + P : Nat) : Int) * (q2 : Int) := by exact_mod_cast hf2.val
  rw [floor_same (by omega) (by omega) v1, floor_same (by omega) (by omega) v2]
  exact hq
end Cb.K59

namespace Cb.K59
open PySem PySem.Spec PyProof.Rows L2
variable {k : Nat} {st : Store} {Q : K1}
/-- the width and its quarter -/
structure Wd (w : Nat) (q : Int) : Prop where
  hw : 3 ≤ w ∧ w ≤ 16
  hq : q = 2 ^ (w - 2)
theorem Wd.b {w : Nat} {q : Int} (h : Wd w q) : 2 ≤ q ∧ q ≤ 16384 := by
  have h1 : (2 : Nat) ^ 1 ≤ 2 ^ (w - 2) := Nat.pow_le_pow_right (by decide) (by have := h.hw; omega)
  have h2 : (2 : Nat) ^ (w - 2) ≤ 2 ^ 14 := Nat.pow_le_pow_right (by decide) (by have := h.hw; omega)
  have e : ((2 ^ (w - 2) : Nat) : Int) = (2 : Int) ^ (w - 2) := by push_cast; rfl
  rw [h.hq]
  omega
theorem Wd.q2 {w : Nat} {q : Int} (h : Wd w q) : (2 : Int) ^ ((w : Int) - 2).toNat = q := by
  have : ((w : Int) - 2).toNat = w - 2 := by omega
  rw [this, h.hq]
theorem Wd.q1 {w : Nat} {q : Int} (h : Wd w q) : (2 : Int) ^ ((w : Int) - 1).toNat = 2 * q := by
  have hw := h.hw
  have : ((w : Int) - 1).toNat = (w - 2) + 1 := by omega
  rw [this, Int.pow_succ, h.hq, Int.mul_comm]
theorem Wd.q0 {w : Nat} {q : Int} (h : Wd w q) : (2 : Int) ^ w = 4 * q := by
  have hw := h.hw
  have : w = (w - 2) + 1 + 1 := by omega
  rw [this, Int.pow_succ, Int.pow_succ]
  have e : w - 2 + 1 + 1 - 2 = w - 2 := by omega
  have := h.hq
  omega
/-- every whole fits the width -/
def Fit (q : Int) (m : List Stt) : Prop := ∀ s ∈ m, (s.ps.sum : Int) ≤ q + 1
theorem does_fit_ok {n : Nat} {m : List Stt} (h : Mok n m) {w : Nat} {q : Int} (hw : Wd w q) (hf : Fit q m) (hq : Q (.bl true) st) : F (k + 1) 22 [modD m, .int (w : Nat)] st Q := by
  have hb := hw.b
  have h3 := hw.hw
  refine run_step (fd := ⟨2, 7, b22⟩) rfl rfl ?_
  unfold b22
  refine seq_i fun X hX => ?_
  simp [startD]
  refine ⟨shl_ok (by omega) (by omega) (by omega), hX _ _ (seq_i fun X2 hX2 => ?_)⟩
  rw [hw.q2]
  simp [modD]
  refine for_seq (fun i ρ st' => st' = st ∧ ∃ (x3 x4 x5 x6 : Option D), ρ = [some (modD m), some (.int (w : Nat)), some (.int q), x3, x4, x5, x6]) ⟨rfl, _, _, _, _, rfl⟩ (fun i d ρ st' Y hd ⟨e1, x3, x4, x5, x6, e2⟩ hY => ?_) (fun ρ st' ⟨e1, x3, x4, x5, x6, e2⟩ => ?_)
  · subst e1 e2
    rw [List.getElem?_map] at hd
    obtain ⟨S, hS, rfl⟩ := Option.map_eq_some_iff.mp hd
    have hSo := h.st S (List.mem_of_getElem? hS)
    have hsum := hSo.s
    have hfit := hf S (List.mem_of_getElem? hS)
    simp [stD]
    refine seq_i fun X3 hX3 => ?_
    simp [tabD]
    refine for_seq (fun j ρ st'' => st'' = st' ∧ ∃ (x5 x6 : Option D), ρ = [some (modD m), some (.int (w : Nat)), some (.int q), some (tabD S.ps), some (rowD S.fs), x5, x6]) ⟨rfl, _, _, rfl⟩ (fun j d ρ st'' Z hd ⟨e1, x5, x6, e2⟩ hZ => ?_) (fun ρ st'' ⟨e1, x5, x6, e2⟩ => ?_)
    · subst e1 e2
      rw [List.getElem?_map] at hd
      obtain ⟨P, hP, rfl⟩ := Option.map_eq_some_iff.mp hd
      have hfp := fp_ok (S := S.ps.sum) (P := P) (by omega)
      have hle := hfp.le (by omega)
      have hpos := hfp.pos
      unfold fp fr
      generalize P / Nat.gcd P S.ps.sum = p at hfp
      generalize S.ps.sum / Nat.gcd P S.ps.sum = u at hfp hle hpos
      simp
      refine seq_i fun X4 hX4 => ite_i fun A B hA hB => ?_
      simp
      refine ⟨mul_okR (by omega), Br.dec (fun hp => ?_) (fun hp => hB _ (hX4 _ _ (hZ _ _ ⟨rfl, _, _, rfl⟩)))⟩
      refine Br.gf (decide_eq_false ?_) (hB _ (hX4 _ _ (hZ _ _ ⟨rfl, _, _, rfl⟩)))
      have hp1 : 1 ≤ (p : Int) := by
        by_cases hz : (p : Int) = 0
        · rw [hz, Int.zero_mul] at hp
          omega
        · omega
      have : 1 * (q + 1) ≤ (p : Int) * (q + 1) := Int.mul_le_mul_of_nonneg_right hp1 (by omega)
      omega
    · subst e1 e2
      exact hX3 _ _ (hY _ _ ⟨rfl, _, _, _, _, rfl⟩)
  · subst e1 e2
    refine hX2 _ _ ?_
    simp [wps_seq]
    exact hq
theorem first_ok {w : Nat} {q : Int} (hw : Wd w q) (hq : Q (.tup [.int 0, .int (4 * q), .int 0]) st) : F (k + 1) 25 [.int (w : Nat)] st Q := by
  have h3 := hw.hw
  refine run_step (fd := ⟨1, 1, b25⟩) rfl rfl ?_
  simp [b25, startD, wps_seq]
  refine ⟨shl_ok (by omega) (by omega) (by omega), ?_⟩
  rw [hw.q0]
  exact hq
end Cb.K59

namespace Cb.K59
open PySem PySem.Spec PyProof.Rows L2
variable {k : Nat} {st : Store} {Q : K1}
theorem pow_16 {j : Nat} {s q : Int} (h : (2 : Int) ^ j ≤ s) (hs : s ≤ 4 * q) (hq : q ≤ 16384) : j ≤ 16 := by
  rcases Nat.lt_or_ge 16 j with hj | hj
  · have h1 : (2 : Nat) ^ 17 ≤ 2 ^ j := Nat.pow_le_pow_right (by decide) hj
    have e : ((2 ^ j : Nat) : Int) = (2 : Int) ^ j := by push_cast; rfl
    omega
  · exact hj
theorem pow_up {j : Nat} {s : Int} (h : (2 : Int) ^ j ≤ s) : (2 : Int) ^ (j + 1) ≤ 2 * s := by
  rw [Int.pow_succ]
  omega
/-- list + list, list * k -/
theorem add_lst {n m : Nat} {xs ys : List D} (h1 : st[n]? = some (.lst xs)) (h2 : st[m]? = some (.lst ys)) (hl : xs.length + ys.length ≤ 10000000) (q : Q (.ref st.length) (st ++ [.lst (xs ++ ys)])) : binS .add (.ref n) (.ref m) st Q := ⟨xs, ys, h1, h2, by rw [sizeLine_eq]; omega, q⟩
theorem mul_lst {n : Nat} {x : D} {t : Nat} (h : st[n]? = some (.lst [x])) (ht : t ≤ 100000) (q : Q (.ref st.length) (st ++ [.lst (List.replicate t x)])) : binS .mul (.ref n) (.int (t : Nat)) st Q := by
  refine ⟨[x], h, ⟨by omega, by omega, by simp; omega⟩, ?_⟩
  simpa using q
theorem ext_app {a s0 x : Store} (h : ∃ more, a = s0 ++ more) : ∃ more, a ++ x = s0 ++ more := by
  obtain ⟨m, rfl⟩ := h
  exact ⟨m ++ x, List.append_assoc _ _ _⟩
theorem settled_ok {w : Nat} {q l s : Int} {t : Nat} (hw : Wd w q) (hr : Rg q l s) (ht : t ≤ 900)
    (hq : ∀ l' s' t' n bs more, Nm q l s t l' s' t' bs → t' ≤ t + 16 → (st ++ more)[n]? = some (.lst (bs.map D.int)) → bs.length ≤ 20000 → Q (.tup [.tup [.int l', .int s', .int (t' : Nat)], .ref n]) (st ++ more)) : F (k + 1) 24 [.int (w : Nat), .tup [.int l, .int s, .int (t : Nat)]] st Q := by
  have hb := hw.b
  have h3 := hw.hw
  refine run_step (fd := ⟨2, 8, b24⟩) rfl rfl ?_
  unfold b24
  refine seq_i fun X hX => ?_
  simp [startD]
  refine hX _ _ (seq_i fun X2 hX2 => ?_)
  simp
  refine ⟨shl_ok (by omega) (by omega) (by omega), shl_ok (by omega) (by omega) (by omega), ?_⟩
  have eq1 : (2 : Int) ^ (w - 1) = 2 * q := by
    have := hw.q1
    have e : ((w : Int) - 1).toNat = w - 1 := by omega
    rwa [e] at this
  rw [eq1, hw.q2]
  refine hX2 _ _ (seq_i fun X3 hX3 => ?_)
  simp only [wps_whil]
  refine while_inv (fun mm ρ st' => ∃ (l' s' : Int) (t' n j : Nat) (xs : List Int) (more : Store) (v1 : D), ρ = [some (.int (w : Nat)), some v1, some (.int l'), some (.int s'), some (.int (t' : Nat)), some (.int (2 * q)), some (.int q), some (.ref n)] ∧ st' = st ++ more ∧ st'[n]? = some (.lst (xs.map D.int)) ∧ Rg q l' s' ∧ (2 : Int) ^ j ≤ s' ∧ t' ≤ t + j ∧ xs.length ≤ 1000 * j ∧ (∀ a b c e, Nm q l' s' t' a b c e → Nm q l s t a b c (xs ++ e)) ∧ mm = (4 * q - s').toNat) (fun mm ρ st' Y ⟨l', s', t', n, j, xs, more, v1, e1, e2, hn, hr', hj, ht', hx, hnm, em⟩ hY => ?_) (m := (4 * q - s).toNat) ⟨l, s, t, st.length, 0, [], [.lst []], _, rfl, rfl, get_last, hr, by simpa using hr.2.1, by omega, by simp, fun a b c e h => h, rfl⟩
  subst e1 em
  have h16 := pow_16 hj (show s' ≤ 4 * q by unfold Rg at hr'; omega) hb.2
  have hs1 : 1 ≤ s' ∧ s' ≤ 4 * q ∧ 0 ≤ l' ∧ l' ≤ 4 * q := by unfold Rg at hr'; omega
  simp
  refine seq_i fun X4 hX4 => ite_i fun A B hA hB => ?_
  -- the turn's end
  have fin : ∀ (l2 : Int) (t2 n2 : Nat) (xs2 : List Int) (st2 : Store), (∃ more2, st2 = st ++ more2) → st2[n2]? = some (.lst (xs2.map D.int)) → Rg q (2 * l2) (2 * s') → t2 ≤ t + (j + 1) → xs2.length ≤ 1000 * (j + 1) → (∀ a b c e, Nm q (2 * l2) (2 * s') t2 a b c e → Nm q l s t a b c (xs2 ++ e)) → X4 [some (.int (w : Nat)), some v1, some (.int l2), some (.int s'), some (.int (t2 : Nat)), some (.int (2 * q)), some (.int q), some (.ref n2)] st2 := fun l2 t2 n2 xs2 st2 ⟨more2, e2⟩ hn2 hr2 ht2 hx2 hnm2 => by
    refine hX4 _ _ (seq_i fun X5 hX5 => ?_)
    simp
    refine ⟨mul_okL (by omega), mul_okL (by omega), hX5 _ _ (hY (4 * q - 2 * s').toNat _ _ ?_ ⟨2 * l2, 2 * s', t2, n2, j + 1, xs2, more2, v1, rfl, e2, hn2, hr2, pow_up hj, ht2, hx2, hnm2, rfl⟩)⟩
    unfold Rg at hr2
    omega
  simp
  refine Br.dec (fun c1 => hA _ ?_) (fun c1 => hB _ (seq_i fun X5 hX5 => ite_i fun A2 B2 hA2 hB2 => ?_))
  · refine seq_i fun X6 hX6 => ?_
    simp
    refine add_lst (get_app hn _) get_last (by simp; omega) (mul_lst get_last (by omega) ?_)
    refine add_lst (get_app (get_app get_last _) _) get_last (by simp; omega) (hX6 _ _ ?_)
    exact fin l' 0 _ (xs ++ emL t') _ (ext_app (ext_app (ext_app (ext_app (ext_app ⟨more, e2⟩))))) (by rw [get_last]; simp [emL]) (hr'.low c1) (by omega) (by simp [emL]; omega) fun a b c e hc => by rw [List.append_assoc]; exact hnm a b c _ (.low c1 hc)
  · simp
    refine Br.dec (fun c2 => hA2 _ ?_) (fun c2 => hB2 _ (seq_i fun X6 hX6 => ite_i fun A3 B3 hA3 hB3 => ?_))
    · refine seq_i fun X6 hX6 => ?_
      simp
      refine add_lst (get_app hn _) get_last (by simp; omega) (mul_lst get_last (by omega) ?_)
      refine add_lst (get_app (get_app get_last _) _) get_last (by simp; omega) (hX6 _ _ (hX5 _ _ ?_))
      exact fin _ 0 _ (xs ++ emH t') _ (ext_app (ext_app (ext_app (ext_app (ext_app ⟨more, e2⟩))))) (by rw [get_last]; simp [emH]) (hr'.high c2) (by omega) (by simp [emH]; omega) fun a b c e hc => by rw [List.append_assoc]; exact hnm a b c _ (.high c1 c2 hc)
    · have stop : ¬ (q ≤ l' ∧ l' + s' ≤ 2 * q + q) → B3 st' := fun c3 => hB3 _ (seq_i fun X7 hX7 => by
        simp
        have := hq l' s' t' n xs more (by simpa using hnm _ _ _ _ (.stop c1 c2 c3)) (by omega) (by rw [← e2]; exact hn) (by omega)
        rw [← e2] at this
        exact this)
      simp
      refine Br.dec (fun c3 => Br.dec (fun c4 => hA3 _ (seq_i fun X7 hX7 => ?_)) (fun c4 => stop fun z => c4 z.2)) (fun c3 => stop fun z => c3 z.1)
      simp
      refine hX7 _ _ (hX6 _ _ (hX5 _ _ ?_))
      exact fin (l' - q) (t' + 1) n xs st' ⟨more, e2⟩ hn (hr'.mid ⟨c3, c4⟩) (by omega) (by omega) fun a b c e hc => hnm a b c e (.mid c1 c2 ⟨c3, c4⟩ hc)

end Cb.K59

namespace Cb.K59
open PySem PySem.Spec PyProof.Rows L2
variable {k : Nat} {st : Store} {Q : K1}
/-- where an outcome's part begins and ends -/
def cA (ps : List Nat) (o : Nat) (s : Int) : Int := (s * ((ps.take o).sum : Nat)) / (ps.sum : Nat)
def cB (ps : List Nat) (o P : Nat) (s : Int) : Int := (s * (((ps.take o).sum + P : Nat) : Int)) / (ps.sum : Nat)
theorem take_le {ps : List Nat} {o P : Nat} (h : ps[o]? = some P) : (ps.take o).sum + P ≤ ps.sum := by
  have h1 := take_succ h
  have h2 : (ps.take (o + 1)).sum + (ps.drop (o + 1)).sum = ps.sum := by rw [← List.sum_append, List.take_append_drop]
  rw [h1, List.sum_append] at h2
  simp at h2
  omega
/-- the part lies within, one or more wide -/
theorem cut_rg {q l s : Int} {ps : List Nat} {o P : Nat} (hr : Rg q l s) (hs : q < s) (hf : (ps.sum : Int) ≤ q + 1) (h1 : 1 ≤ ps.sum) (hP : ps[o]? = some P) (hp : 0 < P) : Rg q (l + cA ps o s) (cB ps o P s - cA ps o s) := by
  have hle := take_le hP
  have hS : 0 < (ps.sum : Int) := by omega
  unfold Rg at hr
  have a1 := cut_nn (s := s) (P := ((ps.take o).sum : Nat)) hS (by omega) (by omega)
  have a2 := cut_pos (s := s) (P := ((ps.take o).sum : Nat)) (p := (P : Int)) hS (by omega) (by omega)
  have a3 := cut_le (s := s) (P := ((ps.take o).sum : Nat)) (p := (P : Int)) hS (by omega) (by omega)
  have e : (((ps.take o).sum + P : Nat) : Int) = ((ps.take o).sum : Int) + (P : Int) := by push_cast; rfl
  unfold Rg cA cB
  rw [e]
  omega
theorem stepped_ok {w : Nat} {q l s : Int} {t : Nat} {ps : List Nat} {o P : Nat} (hw : Wd w q) (hr : Rg q l s) (hs : q < s) (ht : t ≤ 900) (hf : (ps.sum : Int) ≤ q + 1) (h1 : 1 ≤ ps.sum ∧ ps.sum ≤ 100) (hP : ps[o]? = some P) (hp : 0 < P)
    (hq : ∀ l' s' t' n bs more, Nm q (l + cA ps o s) (cB ps o P s - cA ps o s) t l' s' t' bs → t' ≤ t + 16 → (st ++ more)[n]? = some (.lst (bs.map D.int)) → bs.length ≤ 20000 → Q (.tup [.tup [.int l', .int s', .int (t' : Nat)], .ref n]) (st ++ more)) : F (k + 6) 26 [.int (w : Nat), tabD ps, .tup [.int l, .int s, .int (t : Nat)], .int (o : Nat)] st Q := by
  have hb := hw.b
  have hr' := hr
  unfold Rg at hr'
  refine run_step (fd := ⟨4, 9, b26⟩) rfl rfl ?_
  unfold b26
  refine seq_i fun X hX => ?_
  simp [startD]
  refine hX _ _ (seq_i fun X2 hX2 => ?_)
  simp [permN, permL]
  refine cut_ok (k := k) (by omega) hP (by omega) ?_
  simp
  refine hX2 _ _ ?_
  simp [wps_seq, permN, permL]
  exact settled_ok (k := k + 4) hw (cut_rg hr hs hf h1.1 hP hp) ht hq
end Cb.K59

namespace Cb.K59
open PySem PySem.Spec PyProof.Rows L2
/-- the register behind a way, what it has told -/
inductive Gn (m : List Stt) (q : Int) : Nat → Int → Int → Nat → List Nat → Int → Int → Nat → List Int → Prop
  | nil {s : Nat} {l z : Int} {t : Nat} : Gn m q s l z t [] l z t []
  | cons {s o P s' : Nat} {S : Stt} {os : List Nat} {l z l1 z1 l2 z2 : Int} {t t1 t2 : Nat} {bs bs2 : List Int} : m[s]? = some S → S.ps[o]? = some P → S.fs[o]? = some s' → Nm q (l + cA S.ps o z) (cB S.ps o P z - cA S.ps o z) t l1 z1 t1 bs → Gn m q s' l1 z1 t1 os l2 z2 t2 bs2 → Gn m q s l z t (o :: os) l2 z2 t2 (bs ++ bs2)
theorem Gn.fn {m : List Stt} {q : Int} {s : Nat} {os : List Nat} {l z l2 z2 l3 z3 : Int} {t t2 t3 : Nat} {bs bs' : List Int} (h : Gn m q s l z t os l2 z2 t2 bs) : Gn m q s l z t os l3 z3 t3 bs' → l2 = l3 ∧ z2 = z3 ∧ t2 = t3 ∧ bs = bs' := by
  induction h generalizing bs' with
  | nil =>
    intro g
    cases g
    exact ⟨rfl, rfl, rfl, rfl⟩
  | cons a b c d _ ih =>
    intro g
    cases g with
    | cons a' b' c' d' e' =>
      rw [a] at a'
      cases a'
      rw [b] at b'
      cases b'
      rw [c] at c'
      cases c'
      obtain ⟨rfl, rfl, rfl, rfl⟩ := d.fn d'
      obtain ⟨h1, h2, h3, rfl⟩ := ih e'
      exact ⟨h1, h2, h3, rfl⟩
theorem Gn.facts {m : List Stt} {q : Int} {n s : Nat} {os : List Nat} {l z l2 z2 : Int} {t t2 : Nat} {bs : List Int} (hm : Mok n m) (hf : Fit q m) (hq : q ≤ 16384) (h : Gn m q s l z t os l2 z2 t2 bs) : Wy m s os → Rg q l z → q < z → Rg q l2 z2 ∧ q < z2 ∧ t2 ≤ t + 16 * os.length := by
  induction h with
  | nil => exact fun _ a b => ⟨a, b, by omega⟩
  | cons a b c d _ ih =>
    intro hw hr hz
    cases hw with
    | cons a' b' p' c' w' =>
      rw [a] at a'
      cases a'
      rw [b] at b'
      cases b'
      rw [c] at c'
      cases c'
      have hS := hm.st _ (List.mem_of_getElem? a)
      have hc := cut_rg hr hz (hf _ (List.mem_of_getElem? a)) hS.s.1 b p'
      have h2 := d.facts hc
      have h3 := d.t16 hc hq
      obtain ⟨i1, i2, i3⟩ := ih w' h2.1 h2.2
      exact ⟨i1, i2, by simp; omega⟩
theorem Gn.bit {m : List Stt} {q : Int} {s : Nat} {os : List Nat} {l z l2 z2 : Int} {t t2 : Nat} {bs : List Int} (h : Gn m q s l z t os l2 z2 t2 bs) : ∀ b ∈ bs, b = 0 ∨ b = 1 := by
  induction h with
  | nil => simp
  | cons a b c d _ ih => exact fun x hx => (List.mem_append.mp hx).elim (d.bit x) (ih x)
/-- the last state is settled, or the first one -/
theorem Gn.done {m : List Stt} {q : Int} {s : Nat} {os : List Nat} {l z l2 z2 : Int} {t t2 : Nat} {bs : List Int} (h : Gn m q s l z t os l2 z2 t2 bs) : (os = [] ∧ l2 = l ∧ z2 = z ∧ t2 = t ∧ bs = []) ∨ (¬ l2 + z2 ≤ 2 * q ∧ ¬ 2 * q ≤ l2 ∧ ¬ (q ≤ l2 ∧ l2 + z2 ≤ 2 * q + q)) := by
  induction h with
  | nil => exact .inl ⟨rfl, rfl, rfl, rfl, rfl⟩
  | cons a b c d _ ih =>
    rcases ih with ⟨_, rfl, rfl, rfl, _⟩ | ih
    · exact .inr d.done
    · exact .inr ih
end Cb.K59

namespace Cb.K59
open PySem PySem.Spec PyProof.Rows L2
variable {k : Nat} {st : Store} {Q : K1}
theorem set_new {s0 more : Store} {n : Nat} {x : Cell} (h : s0.length ≤ n) : ∃ more', (s0 ++ more).set n x = s0 ++ more' := ⟨more.set (n - s0.length) x, by rw [List.set_append_right _ _ h]⟩
theorem gone_ok {n w : Nat} {q : Int} {m : List Stt} (hm : Mok n m) (hw : Wd w q) (hf : Fit q m) {way : List Nat} (hy : Wy m 0 way) (hl : way.length ≤ 50)
    (hq : ∀ l z t s' n' bs more, Gn m q 0 0 (4 * q) 0 way l z t bs → (st ++ more)[n']? = some (.lst (bs.map D.int)) → bs.length ≤ 20000 * way.length → Q (.tup [.int (s' : Nat), .tup [.int l, .int z, .int (t : Nat)], .ref n']) (st ++ more)) : F (k + 7) 27 [modD m, .int (w : Nat), rowD way] st Q := by
  have hb := hw.b
  refine run_step (fd := ⟨3, 8, b27⟩) rfl rfl ?_
  unfold b27
  refine seq_i fun X hX => ?_
  simp [startD, permN, permL]
  refine first_ok hw ?_
  refine hX _ _ (seq_i fun X2 hX2 => ?_)
  simp [rowD, ti]
  refine for_seq (fun i ρ st' => ∃ (cur t f : Nat) (l z : Int) (xs : List Int) (more : Store) (x6 x7 : Option D), ρ = [some (modD m), some (.int (w : Nat)), some (rowD way), some (.int (cur : Nat)), some (.tup [.int l, .int z, .int (t : Nat)]), some (.ref f), x6, x7] ∧ st' = st ++ more ∧ st.length ≤ f ∧ st'[f]? = some (.lst (xs.map D.int)) ∧ xs.length ≤ 20000 * i ∧ t ≤ 16 * i ∧ Wy m cur (way.drop i) ∧ Rg q l z ∧ q < z ∧ ∀ a b c e, Gn m q cur l z t (way.drop i) a b c e → Gn m q 0 0 (4 * q) 0 way a b c (xs ++ e)) ⟨0, 0, st.length, 0, 4 * q, [], [.lst []], none, none, by simp [rowD, ti], rfl, Nat.le_refl _, get_last, by simp, by omega, hy, by unfold Rg; omega, by omega, fun a b c e h => h⟩ (fun i d ρ st' Y hd ⟨cur, t, f, l, z, xs, more, x6, x7, e1, e2, hfl, hxs, hxl, ht, hwy, hr, hz, hg⟩ hY => ?_) (fun ρ st' ⟨cur, t, f, l, z, xs, more, x6, x7, e1, e2, hfl, hxs, hxl, ht, hwy, hr, hz, hg⟩ => ?_)
  · subst e1
    rw [List.getElem?_map] at hd
    obtain ⟨o, ho, rfl⟩ := Option.map_eq_some_iff.mp hd
    have hi := (List.getElem?_eq_some_iff.mp ho).1
    rw [drop_cons ho] at hwy hg
    cases hwy with
    | @cons _ _ P s' S _ g1 g2 g3 g4 g5 =>
      have hS := hm.st S (List.mem_of_getElem? g1)
      refine ⟨_, rfl, seq_i fun X3 hX3 => ?_⟩
      simp [permN, permL, modD]
      refine ⟨_, at_map g1, ?_⟩
      simp [stD]
      refine stepped_ok (k := k) hw hr hz (by omega) (hf S (List.mem_of_getElem? g1)) hS.s g2 g3 fun l1 z1 t1 f1 ys more1 hnm ht1 hf1 hys => ?_
      have hfacts := hnm.facts (cut_rg hr hz (hf S (List.mem_of_getElem? g1)) hS.s.1 g2 g3)
      simp
      refine hX3 _ _ (seq_i fun X4 hX4 => ?_)
      have hxs1 := get_app hxs more1
      simp
      refine ⟨_, by simp only [listS, hxs1]; rfl, f, _, f1, _, rfl, rfl, hxs1, hf1, by rw [sizeLine_eq]; simp; omega, hX4 _ _ (seq_i fun X5 hX5 => ?_)⟩
      simp [modD]
      refine ⟨_, at_map g1, ?_⟩
      simp [stD, rowD, ti]
      refine ⟨_, at_row g4, hX5 _ _ ?_⟩
      obtain ⟨more2, em⟩ : ∃ more2, (st' ++ more1).set f (.lst (xs.map D.int ++ ys.map D.int)) = st ++ more2 := by
        rw [e2, List.append_assoc]
        exact set_new hfl
      refine hY _ _ ⟨s', t1, f, l1, z1, xs ++ ys, more2, some (.int (o : Nat)), some (.ref f1), by simp [modD, rowD, ti], em, hfl, by rw [get_set hxs1]; simp, by simp; omega, by omega, g5, hfacts.1, hfacts.2, fun a b c e hc => by rw [List.append_assoc]; exact hg a b c _ (.cons g1 g2 g4 hnm hc)⟩
  · subst e1 e2
    have e : (List.map (D.int ∘ fun i : Nat => (i : Int)) way).length = way.length := by simp
    rw [e] at hg hxl
    rw [List.drop_length] at hg
    refine hX2 _ _ ?_
    simp [wps_seq]
    exact hq l z t cur f xs more (by simpa using hg _ _ _ _ .nil) hxs hxl
end Cb.K59

namespace Cb.K59
open PySem PySem.Spec PyProof.Rows L2
variable {k : Nat} {st : Store} {Q : K1}
theorem need_width_ok {n w : Nat} {q : Int} {m : List Stt} (hm : Mok n m) (hw : Wd w q) (hf : Fit q m) (hq : ∀ l, Q .non (st ++ l)) : F (k + 9) 31 [modD m, .int (w : Nat)] st Q := by
  have h3 := hw.hw
  refine run_step (fd := ⟨2, 2, b31⟩) rfl rfl ?_
  unfold b31
  refine seq_i fun X hX => ?_
  simp [startD, permN, permL]
  refine need_model_ok hm fun l => hX _ _ (seq_i fun X2 hX2 => ite_i fun A B hA hB => ?_)
  simp [permN, permL]
  refine is_between_ok (k := k + 6) (by omega) ?_
  simp
  refine does_fit_ok (k := k + 7) hm hw hf ?_
  simp
  exact hB _ (hX2 _ _ (hq l))
def tri (l z : Int) (t : Nat) : D := .tup [.int l, .int z, .int (t : Nat)]
theorem sm_tri {l z : Int} {t : Nat} (h1 : 0 ≤ l ∧ l ≤ 1000000) (h2 : 0 ≤ z ∧ z ≤ 1000000) (h3 : t ≤ 1000000) : Sm (tri l z t) ∧ pl (tri l z t) = true := by
  refine ⟨⟨?_, ?_, ?_⟩, ?_⟩
  · simp [tri, sm, smAll]; omega
  · simp [tri, dep, depAll]
  · simp [tri, cnt, cntAll]
  · simp [tri, pl, plAll]; omega
/-- what is written in the end -/
def wrt (q l z : Int) (t : Nat) (bs : List Int) : List Int := if l = 0 ∧ z = 4 * q ∧ t = 0 then bs else if l < q then bs ++ emL (t + 1) else bs ++ emH (t + 1)
theorem tri_eq {l z l' z' : Int} {t t' : Nat} : tri l z t = tri l' z' t' ↔ l = l' ∧ z = z' ∧ t = t' := by
  constructor
  · intro h
    unfold tri at h
    injection h with h
    simp at h
    omega
  · rintro ⟨rfl, rfl, rfl⟩
    rfl
theorem bl_tupB {n : Nat} {bs : List Int} (h : st[n]? = some (.lst (bs.map D.int))) (q : Q (ti bs) st) : bltS .tuple [.ref n] st Q := by
  rw [bl_tupL h]
  exact q
theorem raw_written_ok {n w : Nat} {q : Int} {m : List Stt} (hm : Mok n m) (hw : Wd w q) (hf : Fit q m) {way : List Nat} (hy : Wy m 0 way) (hl : way.length ≤ 50)
    (hq : ∀ l z t bs more, Gn m q 0 0 (4 * q) 0 way l z t bs → bs.length ≤ 20000 * way.length → Q (ti (wrt q l z t bs)) (st ++ more)) : F (k + 8) 28 [modD m, .int (w : Nat), rowD way] st Q := by
  have hb := hw.b
  have h3 := hw.hw
  refine run_step (fd := ⟨3, 9, b28⟩) rfl rfl ?_
  unfold b28
  refine seq_i fun X hX => ?_
  simp [startD, permN, permL]
  refine gone_ok (k := k) hm hw hf hy hl fun l z t s' n' bs more hg hbs hbl => ?_
  obtain ⟨hr, hz, ht⟩ := hg.facts hm hf hb.2 hy (by unfold Rg; omega) (by omega)
  unfold Rg at hr
  have hsm := sm_tri (l := l) (z := z) (t := t) (by omega) (by omega) (by omega)
  have hsm0 := sm_tri (l := 0) (z := 4 * q) (t := 0) (by omega) (by omega) (by omega)
  have hQ : ∀ x, Q (ti (wrt q l z t bs)) ((st ++ more) ++ x) := fun x => by
    rw [List.append_assoc]
    exact hq l z t bs (more ++ x) hg hbl
  have hQ0 := hq l z t bs more hg hbl
  generalize st ++ more = st2 at hbs hQ hQ0 ⊢
  simp
  refine hX _ _ (seq_i fun X2 hX2 => ?_)
  simp
  refine hX2 _ _ (seq_i fun X3 hX3 => ite_i fun A B hA hB => ?_)
  simp [permN, permL]
  refine first_ok hw ?_
  unfold wrt at hQ hQ0
  refine c_eqP (x := tri l z t) (y := tri 0 (4 * q) 0) ⟨_, rfl⟩ hsm.1 hsm0.1 hsm.2 hsm0.2 ⟨fun he => ?_, fun he => ?_⟩
  · rw [tri_eq] at he
    refine Br.gt rfl (hA _ ?_)
    simp [wps_seq]
    refine bl_tupB hbs ?_
    rw [if_pos he] at hQ0
    exact hQ0
  · rw [ne_eq, tri_eq] at he
    refine Br.gf rfl (hB _ (hX3 _ _ (seq_i fun X4 hX4 => ite_i fun A2 B2 hA2 hB2 => ?_)))
    simp
    refine ⟨shl_ok (by omega) (by omega) (by omega), ?_⟩
    rw [hw.q2]
    have e1 : (t : Int) + 1 = ((t + 1 : Nat) : Int) := by push_cast; rfl
    rw [if_neg he] at hQ
    refine Br.dec (fun hlt => hA2 _ ?_) (fun hlt => hB2 _ (hX4 _ _ ?_))
    · rw [if_pos hlt] at hQ
      simp [wps_seq]
      rw [e1]
      refine add_lst (get_app hbs _) get_last (by simp; omega) (mul_lst get_last (by omega) ?_)
      refine add_lst (get_app (get_app get_last _) _) get_last (by simp; omega) ?_
      refine bl_tupB (bs := bs ++ emL (t + 1)) (by rw [get_last]; simp [emL]) ?_
      simpa using hQ _
    · rw [if_neg hlt] at hQ
      simp [wps_seq]
      rw [e1]
      refine add_lst (get_app hbs _) get_last (by simp; omega) (mul_lst get_last (by omega) ?_)
      refine add_lst (get_app (get_app get_last _) _) get_last (by simp; omega) ?_
      refine bl_tupB (bs := bs ++ emH (t + 1)) (by rw [get_last]; simp [emH]) ?_
      simpa using hQ _
theorem written_ok {n w : Nat} {q : Int} {m : List Stt} (hm : Mok n m) (hw : Wd w q) (hf : Fit q m) {way : List Nat} (hy : Wy m 0 way) (hl : way.length ≤ 50)
    (hq : ∀ l z t bs more, Gn m q 0 0 (4 * q) 0 way l z t bs → bs.length ≤ 20000 * way.length → Q (ti (wrt q l z t bs)) (st ++ more)) : F (k + 10) 32 [modD m, .int (w : Nat), rowD way] st Q := by
  refine run_step (fd := ⟨3, 3, b32⟩) rfl rfl ?_
  unfold b32
  refine seq_i fun X hX => ?_
  simp [startD, permN, permL]
  refine need_width_ok (k := k) hm hw hf fun l1 => hX _ _ (seq_i fun X2 hX2 => ?_)
  simp [permN, permL]
  refine need_way_ok (k := k + 5) hm hy (hX2 _ _ ?_)
  simp [wps_seq, permN, permL]
  refine raw_written_ok (k := k + 1) hm hw hf hy hl fun l z t bs more hg hb => ?_
  have := hq l z t bs (l1 ++ more) hg hb
  simpa using this
end Cb.K59

namespace Cb.K59
open PySem PySem.Spec PyProof.Rows L2
variable {k : Nat} {st : Store} {Q : K1}
theorem common_ok {a b : Nat} (hb : b ≤ 2000) (q : Q (.int (Nat.gcd a b : Nat)) st) : F (k + 1) 39 [.int (a : Nat), .int (b : Nat)] st Q := by
  refine run_step (fd := ⟨2, 3, b39⟩) rfl rfl ?_
  unfold b39
  refine seq_i fun X hX => ?_
  simp [startD]
  rw [if_pos (small62_of (by omega))]
  simp
  have fin : ∀ (x : Nat) (y2 y3 : Option D), x = Nat.gcd a b → X [some (.int (x : Nat)), y2, y3] st := fun x y2 y3 e => by
    refine hX _ _ ?_
    subst e
    simp [wps_seq]
    exact q
  refine for_rng (fun i ρ st' => st' = st ∧ ∃ (x y : Nat) (x2 : Option D), ρ = [some (.int (x : Nat)), some (.int (y : Nat)), x2] ∧ Nat.gcd x y = Nat.gcd a b ∧ y + i ≤ b) ⟨rfl, a, b, none, rfl, rfl, by omega⟩ (fun i ρ st' Y hi ⟨e1, x, y, x2, e2, h1, h2⟩ hY => ?_) (fun ρ st' ⟨e1, x, y, x2, e2, h1, h2⟩ => ?_)
  · subst e1 e2
    refine ⟨_, rfl, seq_i fun X2 hX2 => ite_i fun A B hA hB => ?_⟩
    simp
    refine Br.dec (fun hy => hA _ ?_) (fun hy => hB _ (hX2 _ _ ?_))
    · subst hy
      rw [Nat.gcd_zero_right] at h1
      simp [wps_seq]
      exact fin x _ _ h1
    · simp [wps_seq]
      refine ⟨by omega, hY _ _ ⟨rfl, y, x % y, _, by simp; rfl, ?_, ?_⟩⟩
      · rw [← h1, Nat.gcd_comm x y, Nat.gcd_rec y x, Nat.gcd_comm]
      · have := Nat.mod_lt x (show 0 < y by omega)
        omega
  · omega
end Cb.K59

namespace Cb.K59
open PySem PySem.Spec PyProof.Rows L2
variable {k : Nat} {st : Store} {Q : K1}
theorem law_fraction_ok {P S : Nat} (hS : 0 < S) (hS2 : S ≤ 2000) (q : Q (fp S P) st) : F (k + 2) 40 [.int (P : Nat), .int (S : Nat)] st Q := by
  have hg : 0 < Nat.gcd P S := Nat.gcd_pos_of_pos_right _ hS
  have hg2 : Nat.gcd P S ≤ S := Nat.gcd_le_right _ hS
  refine run_step (fd := ⟨2, 3, b40⟩) rfl rfl ?_
  unfold b40
  refine seq_i fun X hX => ?_
  simp [startD, permN, permL]
  refine common_ok hS2 (hX _ _ ?_)
  simp [wps_seq]
  refine ⟨div_ok (by omega) (by omega), div_ok (by omega) (by omega), ?_⟩
  have e1 : ((P : Nat) : Int) / ((Nat.gcd P S : Nat) : Int) = (P / Nat.gcd P S : Nat) := (Int.natCast_ediv _ _).symm
  have e2 : ((S : Nat) : Int) / ((Nat.gcd P S : Nat) : Int) = (S / Nat.gcd P S : Nat) := (Int.natCast_ediv _ _).symm
  first
    | (rw [e1, e2]; exact q)
    | exact q
end Cb.K59

namespace Cb.K59
open PySem PySem.Spec PyProof.Rows L2
variable {k : Nat} {st : Store} {Q : K1}
theorem FrN.dvd {S P p q : Nat} (h : FrN S P p q) : q ∣ S := by
  have : q ∣ p * S := by rw [h.val]; exact Nat.dvd_mul_left _ _
  exact Nat.Coprime.dvd_of_dvd_mul_left (show Nat.Coprime q p by unfold Nat.Coprime; rw [Nat.gcd_comm]; exact h.co) this
/-- a part by a common whole -/
theorem FrN.over {S P p q c : Nat} (h : FrN S P p q) (hc : q ∣ c) : p * c / q * S = P * c := by
  obtain ⟨d, rfl⟩ := hc
  have hq := h.pos
  have e : p * (q * d) / q = p * d := by rw [Nat.mul_left_comm, Nat.mul_div_cancel_left _ hq]
  rw [e, Nat.mul_right_comm, h.val, Nat.mul_assoc]
theorem lcm_step {S c u : Nat} (hS : 0 < S) (h1 : c ∣ S) (h2 : u ∣ S) (hc : 0 < c) (hu : 0 < u) : c * u / Nat.gcd c u ∣ S ∧ 0 < c * u / Nat.gcd c u ∧ c ∣ c * u / Nat.gcd c u ∧ u ∣ c * u / Nat.gcd c u := by
  have e : c * u / Nat.gcd c u = Nat.lcm c u := rfl
  rw [e]
  exact ⟨Nat.lcm_dvd h1 h2, Nat.lcm_pos hc hu, Nat.dvd_lcm_left _ _, Nat.dvd_lcm_right _ _⟩
end Cb.K59

namespace Cb.K59
open PySem PySem.Spec PyProof.Rows L2
variable {k : Nat} {st : Store} {Q : K1}
theorem sum_cast : ∀ ns : List Nat, (ns.map fun x : Nat => (x : Int)).sum = ((ns.sum : Nat) : Int)
  | [] => rfl
  | n :: ns => by
    rw [List.map_cons, List.sum_cons, List.sum_cons, sum_cast ns]
    push_cast
    rfl
theorem law_part_ok {ps : List Nat} {o P : Nat} {s : Int} (hS : 0 < ps.sum ∧ ps.sum ≤ 100) (hl : ps.length ≤ 8) (hP : ps[o]? = some P) (hs : 0 ≤ s ∧ s < 2 ^ 32)
    (hq : ∀ x, Q (.tup [.int (cA ps o s), .int (cB ps o P s)]) (st ++ [x])) : F (k + 2) 43 [tabD ps, .int s, .int (o : Nat)] st Q := by
  refine run_step (fd := ⟨3, 8, b43⟩) rfl rfl ?_
  unfold b43
  refine seq_i fun X hX => ?_
  simp [startD]
  refine hX _ _ (seq_i fun X2 hX2 => ?_)
  simp [tabD]
  refine for_seq (fun i ρ st' => st' = st ∧ ∃ (c : Nat) (x4 x5 x6 x7 : Option D), ρ = [some (tabD ps), some (.int s), some (.int (o : Nat)), some (.int (c : Nat)), x4, x5, x6, x7] ∧ 0 < c ∧ c ∣ ps.sum ∧ ∀ j R, j < i → ps[j]? = some R → ps.sum / Nat.gcd R ps.sum ∣ c) ⟨rfl, 1, none, none, none, none, rfl, by decide, Nat.one_dvd _, fun j R hj => by omega⟩ (fun i d ρ st' Y hd ⟨e1, c, x4, x5, x6, x7, e2, hc, hcS, hdv⟩ hY => ?_) (fun ρ st' ⟨e1, c, x4, x5, x6, x7, e2, hc, hcS, hdv⟩ => ?_)
  · subst e1 e2
    rw [List.getElem?_map] at hd
    obtain ⟨R, hR, rfl⟩ := Option.map_eq_some_iff.mp hd
    have hf := fp_ok (S := ps.sum) (P := R) hS.1
    have hle := Nat.le_of_dvd hS.1 hcS
    have hul := hf.le hS.1
    obtain ⟨g1, g2, g3, g4⟩ := lcm_step hS.1 hcS hf.dvd hc hf.pos
    unfold fp fr
    generalize R / Nat.gcd R ps.sum = p at hf
    generalize hu : ps.sum / Nat.gcd R ps.sum = u at hf hul g1 g2 g3 g4
    have hgp : 0 < Nat.gcd c u := Nat.gcd_pos_of_pos_left _ hc
    have hgl : Nat.gcd c u ≤ c := Nat.gcd_le_left _ hc
    have hup := hf.pos
    refine ⟨_, rfl, ?_⟩
    simp [wps_seq, permN, permL]
    refine ⟨mul_okR (by omega), common_ok (by omega) ?_⟩
    simp
    refine ⟨div_ok (by omega) (by omega), ?_⟩
    have ec : ((c : Int) * (u : Int)) / ((Nat.gcd c u : Nat) : Int) = ((c * u / Nat.gcd c u : Nat) : Int) := by
      rw [← Int.natCast_mul]
      exact (Int.natCast_ediv _ _).symm
    rw [ec]
    refine hY _ _ ⟨rfl, c * u / Nat.gcd c u, _, _, x6, x7, rfl, g2, g1, fun j R' hj hR' => ?_⟩
    rcases Nat.lt_succ_iff_lt_or_eq.mp hj with z | z
    · exact Nat.dvd_trans (hdv j R' z hR') g3
    · subst z
      rw [hR] at hR'
      cases hR'
      rw [hu]
      exact g4
  · subst e1 e2
    rw [List.length_map] at hdv
    refine hX2 _ _ (seq_i fun X3 hX3 => ?_)
    simp [tabD]
    rw [cut_to, ← List.map_take]
    have hcl := Nat.le_of_dvd hS.1 hcS
    refine lc_seq (fun i acc st'' => st'' = st' ∧ ∃ ns : List Nat, acc = (ns.map fun x : Nat => (x : Int)).map D.int ∧ ns.length = i ∧ ns.sum * ps.sum = ((ps.take o).take i).sum * c) ⟨rfl, [], rfl, rfl, by simp⟩ (fun i d acc st'' Z hd ⟨e1, ns, e2, g1, g2⟩ hZ => ?_) (fun acc st'' ⟨e1, ns, e2, g1, g2⟩ => ?_)
    · rw [List.getElem?_map] at hd
      obtain ⟨R, hR, rfl⟩ := Option.map_eq_some_iff.mp hd
      have hio := (List.getElem?_eq_some_iff.mp hR).1
      rw [List.length_take] at hio
      have hR2 : ps[i]? = some R := by rw [← List.getElem?_take_of_lt (by omega : i < o)]; exact hR
      have hf := fp_ok (S := ps.sum) (P := R) hS.1
      have hud := hdv i R (by omega) hR2
      have hov := hf.over hud
      have hul := hf.le hS.1
      have hpl := hf.ple hS.1
      have hRl := part_le (List.mem_of_getElem? hR2)
      have hup := hf.pos
      subst e1 e2
      unfold fp fr
      generalize R / Nat.gcd R ps.sum = p at hf hov hpl
      generalize ps.sum / Nat.gcd R ps.sum = u at hf hud hov hul hup
      refine ⟨_, rfl, ?_⟩
      simp [wipeD]
      refine ⟨mul_okR (by omega), div_ok (by omega) (by omega), by omega, hZ _ _ ⟨rfl, ns ++ [p * c / u], ?_, by simp; omega, ?_⟩⟩
      · simp
      · rw [List.sum_append, take_succ hR, List.sum_append, Nat.add_mul, Nat.add_mul, g2]
        simp [hov]
    · subst e1 e2
      rw [List.length_map, List.take_length] at g2
      refine bl_sum get_last ?_
      rw [sum_cast]
      refine hX3 _ _ (seq_i fun X4 hX4 => ?_)
      simp [tabD]
      refine ⟨_, at_map hP, ?_⟩
      have hol := (List.getElem?_eq_some_iff.mp hP).1
      have hf := fp_ok (S := ps.sum) (P := P) hS.1
      have hud := hdv o P hol hP
      have hov := hf.over hud
      have hul := hf.le hS.1
      have hpl := hf.ple hS.1
      have hPl := part_le (List.mem_of_getElem? hP)
      have hup := hf.pos
      have hat := at_map (f := fp ps.sum) hP
      have hfp : fp ps.sum P = fr (P / Nat.gcd P ps.sum) (ps.sum / Nat.gcd P ps.sum) := rfl
      generalize P / Nat.gcd P ps.sum = p at hf hov hpl hfp
      generalize ps.sum / Nat.gcd P ps.sum = u at hf hud hov hul hup hfp
      rw [hfp] at hat ⊢
      refine Exists.intro (.int (p : Nat)) ⟨by simp [idxS, fr], ?_⟩
      simp
      refine ⟨mul_okR (by omega), _, hat, ?_⟩
      simp [fr]
      refine ⟨div_ok (by omega) (by omega), hX4 _ _ ?_⟩
      simp [wps_seq]
      have v1 : (ns.sum : Int) * (ps.sum : Nat) = ((ps.take o).sum : Nat) * (c : Int) := by exact_mod_cast g2
      have v2 : ((ns.sum : Int) + (p : Int) * (c : Int) / (u : Int)) * (ps.sum : Nat) = (((ps.take o).sum + P : Nat) : Int) * (c : Int) := by
        have e : (p : Int) * (c : Int) / (u : Int) = ((p * c / u : Nat) : Int) := by
          rw [← Int.natCast_mul]
          exact (Int.natCast_ediv _ _).symm
        rw [e, Int.add_mul, v1]
        have : ((p * c / u : Nat) : Int) * (ps.sum : Nat) = (P : Int) * (c : Int) := by exact_mod_cast hov
        rw [this]
        push_cast
        rw [Int.add_mul]
      have hq' := hq (Cell.lst (List.map (D.int ∘ fun x : Nat => (x : Int)) ns))
      unfold cA cB at hq'
      rw [← floor_same (s := s) (by omega : 0 < (c : Int)) (by omega) v1, ← floor_same (s := s) (by omega : 0 < (c : Int)) (by omega) v2] at hq'
      exact ⟨mul_okL (by omega), div_ok (by omega) (by omega), mul_okL (by omega), div_ok (by omega) (by omega), hq'⟩
end Cb.K59

namespace Cb.K59
open PySem PySem.Spec PyProof.Rows L2
variable {k : Nat} {st : Store} {Q : K1}
theorem widened_ok {w : Nat} {q l s : Int} {t : Nat} {xs : List D} (hw : Wd w q) (hr : Rg q l s) (ht : t ≤ 900) (hxl : xs.length ≤ 10000000)
    (hq : ∀ l' s' t' bs, Nm q l s t l' s' t' bs → t' ≤ t + 16 → bs.length ≤ 20000 → Q (.tup [.tup [.int l', .int s', .int (t' : Nat)], .tup (xs ++ bs.map D.int)]) st) : F (k + 1) 44 [.int (w : Nat), .int l, .int s, .int (t : Nat), .tup xs] st Q := by
  have hb := hw.b
  have h3 := hw.hw
  refine run_step (fd := ⟨5, 8, b44⟩) rfl rfl ?_
  unfold b44
  refine seq_i fun X hX => ?_
  simp [startD]
  have eq1 : (2 : Int) ^ (w - 1) = 2 * q := by
    have := hw.q1
    have e : ((w : Int) - 1).toNat = w - 1 := by omega
    rwa [e] at this
  refine ⟨shl_ok (by omega) (by omega) (by omega), shl_ok (by omega) (by omega) (by omega), hX _ _ (seq_i fun X2 hX2 => ?_)⟩
  rw [eq1, hw.q2]
  simp
  rw [if_pos (small62_of (by omega))]
  simp
  refine for_rng (fun i ρ st' => st' = st ∧ ∃ (l' s' : Int) (t' : Nat) (xs' : List Int) (x7 : Option D), ρ = [some (.int (w : Nat)), some (.int l'), some (.int s'), some (.int (t' : Nat)), some (.tup (xs ++ xs'.map D.int)), some (.int (2 * q)), some (.int q), x7] ∧ Rg q l' s' ∧ (2 : Int) ^ i ≤ s' ∧ t' ≤ t + i ∧ xs'.length ≤ 1000 * i ∧ ∀ a b c e, Nm q l' s' t' a b c e → Nm q l s t a b c (xs' ++ e)) ⟨rfl, l, s, t, [], none, by simp, hr, by simpa using hr.2.1, by omega, by simp, fun a b c e h => h⟩ (fun i ρ st' Y hi ⟨e1, l', s', t', xs', x7, e2, hr', hj, ht', hx', hnm⟩ hY => ?_) (fun ρ st' ⟨e1, l', s', t', xs', x7, e2, hr', hj, ht', hx', hnm⟩ => ?_)
  · subst e1 e2
    have h16 := pow_16 hj (show s' ≤ 4 * q by unfold Rg at hr'; omega) hb.2
    have hs1 : 1 ≤ s' ∧ s' ≤ 4 * q ∧ 0 ≤ l' ∧ l' ≤ 4 * q := by unfold Rg at hr'; omega
    refine ⟨_, rfl, seq_i fun X4 hX4 => ite_i fun A B hA hB => ?_⟩
    have fin : ∀ (l2 : Int) (t2 : Nat) (xs2 : List Int) (x7 : Option D), Rg q l2 (2 * s') → t2 ≤ t + (i + 1) → xs2.length ≤ 1000 * (i + 1) → (∀ a b c e, Nm q l2 (2 * s') t2 a b c e → Nm q l s t a b c (xs2 ++ e)) → X4 [some (.int (w : Nat)), some (.int l2), some (.int s'), some (.int (t2 : Nat)), some (.tup (xs ++ xs2.map D.int)), some (.int (2 * q)), some (.int q), x7] st' := fun l2 t2 xs2 x7 hr2 ht2 hx2 hnm2 => by
      refine hX4 _ _ (seq_i fun X5 hX5 => ?_)
      simp
      exact ⟨mul_okL (by omega), hX5 _ _ (hY _ _ ⟨rfl, l2, 2 * s', t2, xs2, x7, rfl, hr2, pow_up hj, ht2, hx2, hnm2⟩)⟩
    simp
    refine Br.dec (fun c1 => hA _ ?_) (fun c1 => hB _ (seq_i fun X5 hX5 => ite_i fun A2 B2 hA2 hB2 => ?_))
    · refine seq_i fun X6 hX6 => ?_
      simp
      refine ⟨by omega, by omega, by omega, mul_okL (by omega), hX6 _ _ ?_⟩
      have := fin _ 0 (xs' ++ emL t') (some (.int (i : Nat))) (hr'.low c1) (by omega) (by simp [emL]; omega) fun a b c e hc => by rw [List.append_assoc]; exact hnm a b c _ (.low c1 hc)
      simpa [emL] using this
    · simp
      refine Br.dec (fun c2 => hA2 _ ?_) (fun c2 => hB2 _ (seq_i fun X6 hX6 => ite_i fun A3 B3 hA3 hB3 => ?_))
      · refine seq_i fun X6 hX6 => ?_
        simp
        refine ⟨by omega, by omega, by omega, mul_okL (by omega), hX6 _ _ (hX5 _ _ ?_)⟩
        have := fin _ 0 (xs' ++ emH t') (some (.int (i : Nat))) (hr'.high c2) (by omega) (by simp [emH]; omega) fun a b c e hc => by rw [List.append_assoc]; exact hnm a b c _ (.high c1 c2 hc)
        simpa [emH] using this
      · have stop : ¬ (q ≤ l' ∧ l' + s' ≤ 2 * q + q) → B3 st' := fun c3 => hB3 _ (seq_i fun X7 hX7 => by
          simp
          refine hX2 _ _ ?_
          simp [wps_seq]
          exact hq l' s' t' xs' (by simpa using hnm _ _ _ _ (.stop c1 c2 c3)) (by omega) (by omega))
        simp
        refine Br.dec (fun c3 => Br.dec (fun c4 => hA3 _ (seq_i fun X7 hX7 => ?_)) (fun c4 => stop fun z => c4 z.2)) (fun c3 => stop fun z => c3 z.1)
        simp
        refine ⟨mul_okL (by omega), hX7 _ _ (hX6 _ _ (hX5 _ _ ?_))⟩
        exact fin _ (t' + 1) xs' _ (hr'.mid ⟨c3, c4⟩) (by omega) (by omega) fun a b c e hc => hnm a b c e (.mid c1 c2 ⟨c3, c4⟩ hc)
  · have := pow_16 hj (show s' ≤ 4 * q by unfold Rg at hr'; omega) hb.2
    omega
end Cb.K59

namespace Cb.K59
open PySem PySem.Spec PyProof.Rows L2
variable {k : Nat} {st : Store} {Q : K1} {r c : Nat}
theorem drawK : DrawK "turn" 42043 2147483549 40014 2147483587 58391 2147483563 69621 2147483579 := ⟨by decide +kernel, by decide +kernel, by decide, by decide, by decide, by decide, by decide, by decide, by decide, by decide⟩
abbrev Dk (st : Store) (r c : Nat) : Prop := Deck "turn" st r c
theorem draw_ok {many : Int} (hD : Dk st r c) (hm : 0 < many) (hm2 : many ≤ 2 ^ 64) (q : ∀ v st', 0 ≤ v → v < many → Dk st' r c → Fr r c st st' → Q (.int v) st') : F (k + 1) 37 [.ref r, .int many] st Q :=
  run_step (fd := ⟨2, 4, b37⟩) rfl rfl (draw_wps drawK hD hm hm2 q)
/-- a number drawn -/
theorem drawN_ok {many : Int} (hD : Dk st r c) (hm : 0 < many) (hm2 : many ≤ 2 ^ 64) (q : ∀ (v : Nat) st', (v : Int) < many → Dk st' r c → Fr r c st st' → Q (.int (v : Int)) st') : F (k + 1) 37 [.ref r, .int many] st Q :=
  draw_ok hD hm hm2 fun v st' v0 v1 d f => by
    obtain ⟨n, rfl⟩ := Int.eq_ofNat_of_zero_le v0
    exact q n st' v1 d f
theorem at_lst {n : Nat} {xs : List D} {i : Nat} {x : D} {P : D → Prop} (h : st[n]? = some (.lst xs)) (hx : xs[i]? = some x) (p : P x) : som (idxS st (.ref n) (.int (i : Int))) P := ⟨x, by simp only [idxS, h]; exact at_get hx, p⟩
theorem pick_ok {n : Nat} {xs : List D} (hD : Dk st r c) (hn : st[n]? = some (.lst xs)) (n1 : n ≠ r) (n2 : n ≠ c) (hl : 0 < xs.length) (hl2 : xs.length ≤ 1000) (q : ∀ x st', x ∈ xs → Dk st' r c → Fr r c st st' → Q x st') : F (k + 2) 38 [.ref r, .ref n] st Q := by
  refine run_step (fd := ⟨2, 2, b38⟩) rfl rfl ?_
  simp [b38, startD, permN, permL, wps_seq]
  rw [bl_lenL hn]
  refine drawN_ok hD (by omega) (by omega) fun v st' hv d f => ?_
  have hlt : v < xs.length := by omega
  exact at_lst (f.keep hn n1 n2) (List.getElem?_eq_getElem hlt) (q _ st' (List.getElem_mem hlt) d f)
theorem Deck.set {kd : Str} {n : Nat} {x : Cell} (h : Deck kd st r c) (n1 : n ≠ r) (n2 : n ≠ c) : Deck kd (st.set n x) r c := by
  obtain ⟨ns, m, d, h0, h1, h2, h3⟩ := h
  exact ⟨ns, m, d, h0, h1, by rw [List.getElem?_set_ne n1]; exact h2, by rw [List.getElem?_set_ne n2]; exact h3⟩
theorem fr_setNew {st0 : Store} {n : Nat} {x : Cell} (f : Fr r c st0 st) (h : st0.length ≤ n) : Fr r c st0 (st.set n x) := ⟨by simp; exact f.1, fun i hi h1 h2 => by rw [List.getElem?_set_ne (by omega)]; exact f.2 i hi h1 h2⟩
def nd (x : Nat) : D := .int (x : Nat)
theorem nd_int (ns : List Nat) : ns.map nd = (ns.map fun x : Nat => (x : Int)).map D.int := by simp [nd, Function.comp_def]
theorem bl_sumN {n : Nat} {ns : List Nat} (h : st[n]? = some (.lst (ns.map nd))) (q : Q (.int (ns.sum : Nat)) st) : bltS .sum [.ref n] st Q := by
  rw [nd_int] at h
  refine bl_sum h ?_
  rw [sum_cast]
  exact q
/-- the parts, and the list they lie in -/
structure PS (st0 st : Store) (r c pn n : Nat) (ps : List Nat) : Prop where
  d : Dk st r c
  f : Fr r c st0 st
  h : st[pn]? = some (.lst (ps.map nd))
  g : st0.length ≤ pn
  l : ps.length = n
  b : ∀ p ∈ ps, p ≤ 8
theorem PS.fr {st0 st' : Store} {pn n : Nat} {ps : List Nat} (hr : r < st0.length ∧ c < st0.length) (h : PS st0 st r c pn n ps) (d : Dk st' r c) (f : Fr r c st st') : PS st0 st' r c pn n ps := by
  have := h.g
  exact ⟨d, h.f.trans f, f.keep h.h (by omega) (by omega), h.g, h.l, h.b⟩
theorem PS.new {st0 st' : Store} {n : Nat} {ps : List Nat} (d : Dk st' r c) (f : Fr r c st0 st') (h : ps.length = n) (hb : ∀ p ∈ ps, p ≤ 8) : PS st0 (st' ++ [Cell.lst (ps.map nd)]) r c st'.length n ps := ⟨d.app _, f.app _, get_last, f.1, h, hb⟩
theorem sum_set : ∀ {ps : List Nat} {i : Nat}, i < ps.length → ps.sum = 0 → (ps.set i 1).sum = 1
  | p :: ps, 0, h, z => by
    rw [List.sum_cons] at z
    simp
    omega
  | p :: ps, i + 1, h, z => by
    rw [List.sum_cons] at z
    have := sum_set (ps := ps) (i := i) (by simpa using h) (by omega)
    simp [this]
    omega
theorem sum_ge : ∀ {ps : List Nat}, (∀ p ∈ ps, 1 ≤ p) → ps.length ≤ ps.sum
  | [], _ => by simp
  | p :: ps, h => by
    have := sum_ge (ps := ps) fun p hp => h p (List.mem_cons_of_mem _ hp)
    have := h p List.mem_cons_self
    simp
    omega
theorem sum_le : ∀ {ps : List Nat} {b : Nat}, (∀ p ∈ ps, p ≤ b) → ps.sum ≤ ps.length * b
  | [], _, _ => by simp
  | p :: ps, b, h => by
    have := sum_le (ps := ps) (b := b) fun p hp => h p (List.mem_cons_of_mem _ hp)
    have := h p List.mem_cons_self
    simp [Nat.add_mul]
    omega
theorem sum_min : ∀ {ps : List Nat}, 1 ≤ ps.sum → 1 ≤ (ps.map (min 1)).sum
  | [], h => by simp at h
  | p :: ps, h => by
    rw [List.map_cons, List.sum_cons]
    rw [List.sum_cons] at h
    by_cases hp : p = 0
    · have := sum_min (ps := ps) (by omega)
      omega
    · omega
theorem ixN_nat {i n : Nat} (h : i < n) : ixN n (i : Int) = some i := by
  unfold ixN
  rw [if_pos (by omega), if_pos (by omega)]
  simp
theorem map_setN {ps : List Nat} {i v : Nat} : (ps.map nd).set i (nd v) = (ps.set i v).map nd := List.map_set.symm
theorem PS.set {st0 : Store} {pn n i : Nat} {ps : List Nat} (hr : r < st0.length ∧ c < st0.length) (h : PS st0 st r c pn n ps) : PS st0 (st.set pn (.lst ((ps.set i 1).map nd))) r c pn n (ps.set i 1) := by
  have := h.g
  refine ⟨Deck.set h.d (by omega) (by omega), fr_setNew h.f h.g, get_set h.h, h.g, by simp [h.l], fun p hp => ?_⟩
  rcases List.mem_or_eq_of_mem_set hp with hp | hp
  · exact h.b p hp
  · omega
theorem get_at0 {x y : Cell} : (st ++ [x, y])[st.length]? = some x := by simp
theorem get_at1 {x y : Cell} : (st ++ [x, y])[st.length + 1]? = some y := by
  rw [List.getElem?_append_right (by omega)]
  simp
theorem table_ok {n least : Nat} (hD : Dk st r c) (hn : 1 ≤ n ∧ n ≤ 8) (hl : 1 ≤ least ∧ least ≤ 100) (q : ∀ ps st', ps.length = n → (1 ≤ ps.sum ∧ ps.sum ≤ least) → Dk st' r c → Fr r c st st' → Q (tabD ps) st') : F (k + 3) 41 [.ref r, .int (n : Nat), .int (least : Nat)] st Q := by
  have hr := hD.lt
  refine run_step (fd := ⟨3, 6, b41⟩) rfl rfl ?_
  unfold b41
  refine seq_i fun X hX => ?_
  simp [startD]
  rw [if_pos (small62_of (by omega))]
  simp
  refine lc_rng (fun i acc st' => ∃ ps : List Nat, acc = ps.map nd ∧ ps.length = i ∧ (∀ p ∈ ps, p ≤ 8) ∧ Dk st' r c ∧ Fr r c st st') ⟨[], rfl, rfl, by simp, hD, .refl _ _ _⟩ (fun i acc st' Z hi ⟨ps, e1, h1, h2, d1, f1⟩ hZ => ?_) (fun acc st' ⟨ps, e1, h1, h2, d1, f1⟩ => ?_)
  · subst e1
    refine ⟨_, rfl, ?_⟩
    simp [wipeD, permN, permL]
    have lt1 := d1.lt
    refine pick_ok (k := k) (xs := [.int 1, .int 1, .int 2, .int 3, .int 0, .int 5, .int 4, .int 8]) (d1.app _) get_last (by omega) (by omega) (by simp) (by simp) fun x st2 hx d2 f2 => ?_
    obtain ⟨m, rfl, hm⟩ : ∃ m : Nat, x = nd m ∧ m ≤ 8 := by
      simp at hx
      rcases hx with rfl | rfl | rfl | rfl | rfl | rfl | rfl
      · exact ⟨1, rfl, by omega⟩
      · exact ⟨2, rfl, by omega⟩
      · exact ⟨3, rfl, by omega⟩
      · exact ⟨0, rfl, by omega⟩
      · exact ⟨5, rfl, by omega⟩
      · exact ⟨4, rfl, by omega⟩
      · exact ⟨8, rfl, by omega⟩
    refine ⟨by first | omega | (simp; omega) | (rw [sizeLine_eq]; simp; omega), hZ _ _ ⟨ps ++ [m], by simp, by simp [h1], fun p hp => ?_, d2, (f1.app _).trans f2⟩⟩
    rcases List.mem_append.mp hp with hp | hp
    · exact h2 p hp
    · simp at hp
      omega
  subst e1
  have S1 := PS.new d1 f1 h1 h2
  generalize st' ++ [Cell.lst (ps.map nd)] = st1 at S1 ⊢
  generalize st'.length = pn at S1 ⊢
  refine hX _ _ (seq_i fun X2 hX2 => ite_i fun A B hA hB => ?_)
  clear hX X d1 f1 h1 h2
  have go2 : ∀ (pn : Nat) (ps : List Nat) (x4 x5 : Option D) (st' : Store), PS st st' r c pn n ps → 1 ≤ ps.sum → X2 [some (.ref r), some (.int (n : Nat)), some (.int (least : Nat)), some (.ref pn), x4, x5] st' := fun pn ps x4 x5 st' S1 hs => by
    refine hX2 _ _ (seq_i fun X3 hX3 => ite_i fun A B hA hB => ?_)
    have go3 : ∀ (pn : Nat) (ps : List Nat) (x4 x5 : Option D) (st' : Store), PS st st' r c pn n ps → 1 ≤ ps.sum → X3 [some (.ref r), some (.int (n : Nat)), some (.int (least : Nat)), some (.ref pn), x4, x5] st' := fun pn ps x4 x5 st' S1 hs => by
      refine hX3 _ _ (seq_i fun X4 hX4 => ite_i fun A B hA hB => ?_)
      have go4 : ∀ (pn : Nat) (ps : List Nat) (x4 x5 : Option D) (st' : Store), PS st st' r c pn n ps → 1 ≤ ps.sum → X4 [some (.ref r), some (.int (n : Nat)), some (.int (least : Nat)), some (.ref pn), x4, x5] st' := fun pn ps x4 x5 st' S1 hs => by
        refine hX4 _ _ (seq_i fun X5 hX5 => ite_i fun A B hA hB => ?_)
        have go5 : ∀ (pn : Nat) (ps : List Nat) (x4 x5 : Option D) (st' : Store), PS st st' r c pn n ps → 1 ≤ ps.sum → ps.sum ≤ least → X5 [some (.ref r), some (.int (n : Nat)), some (.int (least : Nat)), some (.ref pn), x4, x5] st' := fun pn ps x4 x5 st' S1 hs hs2 => by
          refine hX5 _ _ ?_
          simp [wps_seq, srcOf, S1.h]
          refine lc_live (n := pn) (xs := ps.map nd) (fun i acc st'' => st'' = st' ∧ acc = (ps.take i).map (fp ps.sum)) ⟨rfl, by simp⟩ (fun i acc st'' ⟨e1, _⟩ => by subst e1; simp [Src.at, S1.h]) (fun i d acc st'' Z hd ⟨e1, e2⟩ hZ => ?_) (fun acc st'' ⟨e1, e2⟩ => ?_)
          · rw [List.getElem?_map] at hd
            obtain ⟨P, hP, rfl⟩ := Option.map_eq_some_iff.mp hd
            have hi := (List.getElem?_eq_some_iff.mp hP).1
            have hl8 := S1.l
            subst e1 e2
            refine ⟨_, rfl, ?_⟩
            simp [wipeD, permN, permL]
            refine bl_sumN S1.h ?_
            refine law_fraction_ok (by omega) (by omega) ?_
            refine ⟨by first | omega | (simp; omega) | (rw [sizeLine_eq]; simp; omega), hZ _ _ ⟨rfl, ?_⟩⟩
            rw [take_succ hP]
            simp
          · subst e1 e2
            rw [List.length_map, List.take_length]
            rw [bl_tupL get_last]
            exact q ps _ S1.l ⟨hs, hs2⟩ (S1.d.app _) (S1.f.app _)
        simp
        refine bl_sumN S1.h ?_
        simp
        refine Br.dec (fun hz => hA _ ?_) (fun hz => hB _ (go5 _ _ _ _ _ S1 hs (by omega)))
        refine seq_i fun X6 hX6 => ?_
        simp
        refine ⟨[D.int 0], get_at1, ⟨by omega, by omega, by first | omega | (simp; omega) | (rw [sizeLine_eq]; simp; omega)⟩, ?_⟩
        have e1 : ((List.replicate ((n : Int) - 1).toNat [D.int 0]).flatten) = (List.replicate (n - 1) 0).map nd := by
          have : ((n : Int) - 1).toNat = n - 1 := by omega
          rw [this]
          simp [nd]
        have e2 : D.int 1 = nd 1 := rfl
        rw [e1, e2]
        refine ⟨[nd 1], _, get_app get_at0 _, get_last, by first | omega | (simp; omega) | (rw [sizeLine_eq]; simp; omega), ?_⟩
        have e3 : [nd 1] ++ (List.replicate (n - 1) 0).map nd = (1 :: List.replicate (n - 1) 0).map nd := rfl
        rw [e3]
        refine hX6 _ _ (go5 _ _ _ _ _ (PS.new ((S1.d.app _).app _) ((S1.f.app _).app _) (by simp; omega) fun p hp => ?_) (by simp) (by simp; omega))
        rcases List.mem_cons.mp hp with rfl | hp
        · omega
        · have := List.eq_of_mem_replicate hp
          omega
      simp
      refine bl_sumN S1.h ?_
      simp
      refine Br.dec (fun hz => hA _ ?_) (fun hz => hB _ (go4 _ _ _ _ _ S1 hs))
      refine seq_i fun X6 hX6 => ?_
      simp [srcOf, S1.h]
      refine lc_live (n := pn) (xs := ps.map nd) (fun i acc st'' => st'' = st' ∧ acc = ((ps.take i).map (min 1)).map nd) ⟨rfl, by simp⟩ (fun i acc st'' ⟨e1, _⟩ => by subst e1; simp [Src.at, S1.h]) (fun i d acc st'' Z hd ⟨e1, e2⟩ hZ => ?_) (fun acc st'' ⟨e1, e2⟩ => ?_)
      · rw [List.getElem?_map] at hd
        obtain ⟨P, hP, rfl⟩ := Option.map_eq_some_iff.mp hd
        have hi := (List.getElem?_eq_some_iff.mp hP).1
        have hl8 := S1.l
        subst e1 e2
        refine ⟨_, rfl, ?_⟩
        simp [wipeD, nd]
        refine ⟨by omega, hZ _ _ ⟨rfl, ?_⟩⟩
        rw [take_succ hP]
        simp [nd]
        split <;> omega
      · subst e1 e2
        rw [List.length_map, List.take_length]
        refine hX6 _ _ (go4 _ _ _ _ _ (PS.new S1.d S1.f (by simp [S1.l]) fun p hp => ?_) (sum_min hs))
        obtain ⟨x, hx, rfl⟩ := List.mem_map.mp hp
        omega
    simp [permN, permL]
    refine drawN_ok S1.d (by omega) (by omega) fun v st2 hv d2 f2 => ?_
    have S2 := S1.fr hr d2 f2
    simp
    refine Br.dec (fun hz => hA _ ?_) (fun hz => hB _ (go3 _ _ _ _ _ S2 hs))
    refine seq_i fun X6 hX6 => ?_
    simp
    rw [if_pos (small62_of (by omega))]
    simp
    refine lc_rng (fun i acc st' => ∃ ps : List Nat, acc = ps.map nd ∧ ps.length = i ∧ (∀ p ∈ ps, 1 ≤ p ∧ p ≤ 8) ∧ Dk st' r c ∧ Fr r c st st') ⟨[], rfl, rfl, by simp, S2.d, S2.f⟩ (fun i acc st' Z hi ⟨ps, e1, h1, h2, d1, f1⟩ hZ => ?_) (fun acc st' ⟨ps, e1, h1, h2, d1, f1⟩ => ?_)
    · subst e1
      refine ⟨_, rfl, ?_⟩
      simp [wipeD, permN, permL]
      refine drawN_ok (k := k + 1) d1 (by omega) (by omega) fun v st2 hv d2 f2 => ?_
      refine ⟨shl_ok (by omega) (by omega) (by omega), by omega, hZ _ _ ⟨ps ++ [2 ^ v], ?_, by simp [h1], fun p hp => ?_, d2, f1.trans f2⟩⟩
      · simp [nd]
      · rcases List.mem_append.mp hp with hp | hp
        · exact h2 p hp
        · simp at hp
          subst hp
          have h3 : 2 ^ v ≤ 2 ^ 3 := Nat.pow_le_pow_right (by decide) (by omega)
          have h4 : 0 < 2 ^ v := Nat.pow_pos (by decide)
          omega
    · subst e1
      refine hX6 _ _ (go3 _ _ _ _ _ (PS.new d1 f1 h1 fun p hp => (h2 p hp).2) ?_)
      have := sum_ge fun p hp => (h2 p hp).1
      omega
  simp
  refine bl_sumN S1.h ?_
  simp
  refine Br.dec (fun hz => hA _ ?_) (fun hz => hB _ (go2 _ _ _ _ _ S1 (by omega)))
  have hz' : ps.sum = 0 := by omega
  refine seq_i fun X3 hX3 => ?_
  simp [permN, permL]
  refine drawN_ok S1.d (by omega) (by omega) fun v st2 hv d2 f2 => ?_
  have S2 := S1.fr hr d2 f2
  have hv' : v < ps.length := by have := S1.l; omega
  refine ⟨pn, rfl, .inl ⟨_, (v : Int), v, S2.h, rfl, ?_, ?_⟩⟩
  · rw [List.length_map]
    exact ixN_nat hv'
  · have e1 : (D.int 1) = nd 1 := rfl
    rw [e1, map_setN]
    refine hX3 _ _ (go2 _ _ _ _ _ (S2.set hr) ?_)
    rw [sum_set hv' hz']
    exact Nat.le_refl _
end Cb.K59

namespace Cb.K59
open PySem PySem.Spec PyProof.Rows L2
variable {k : Nat} {st : Store} {Q : K1} {r c : Nat}
theorem listS_lst {n : Nat} {xs : List D} (h : st[n]? = some (.lst xs)) : listS st (.ref n) = some xs := by simp only [listS, h]
theorem model_ok {least : Nat} {oc sc : Int} (ho : 1 ≤ oc ∧ oc ≤ 5) (hsc : 1 ≤ sc ∧ sc ≤ 4) (hD : Dk st r c) (hl : 1 ≤ least ∧ least ≤ 100) (q : ∀ n m st', Mok n m → (∀ s ∈ m, s.ps.sum ≤ least) → Dk st' r c → Q (modD m) st') : F (k + 4) 42 [.ref r, (.int sc), .int oc, .int (least : Nat)] st Q := by
  have hr := hD.lt
  refine run_step (fd := ⟨4, 10, b42⟩) rfl rfl ?_
  unfold b42
  refine seq_i fun X hX => ?_
  simp [startD, permN, permL]
  refine drawN_ok (k := k + 2) (many := oc) hD (by omega) (by omega) fun n0 st1 hn0 d1 f1 => ?_
  simp
  refine drawN_ok (k := k + 2) (many := sc) d1 (by omega) (by omega) fun m0 st2 hm0 d2 f2 => ?_
  simp
  have e1 : (1 : Int) + (n0 : Nat) = ((1 + n0 : Nat) : Int) := by push_cast; rfl
  have e2 : (1 : Int) + (m0 : Nat) = ((1 + m0 : Nat) : Int) := by push_cast; rfl
  rw [e1, e2]
  refine hX _ _ (seq_i fun X2 hX2 => ite_i fun A B hA hB => ?_)
  have hF := f1.trans f2
  clear hX X d1 f1 f2
  have go : ∀ (n many : Nat) (st' : Store), 1 ≤ n ∧ n ≤ 5 → 1 ≤ many ∧ many ≤ 4 → Dk st' r c → X2 [some (.ref r), some (.int sc), some (.int oc), some (.int (least : Nat)), some (.int (n : Nat)), some (.int (many : Nat)), none, none, none, none] st' := fun n many st' hn hm d => by
    refine hX2 _ _ (seq_i fun X3 hX3 => ?_)
    have hr' := d.lt
    simp
    refine hX3 _ _ (seq_i fun X4 hX4 => ?_)
    clear hX3 X3
    have dn := d.app [Cell.lst []]
    have hfn : (st' ++ [Cell.lst []])[st'.length]? = some (Cell.lst (([] : List Stt).map stD)) := by simp
    have hlt : st'.length < (st' ++ [Cell.lst []]).length := by simp
    generalize hfn' : st'.length = fn at hfn hlt ⊢
    generalize st' ++ [Cell.lst []] = st0 at dn hfn hlt ⊢
    simp
    rw [if_pos (small62_of (by omega))]
    simp
    refine for_rng (fun i ρ st2 => ∃ (m : List Stt) (x7 x8 x9 : Option D), ρ = [some (.ref r), some (.int sc), some (.int oc), some (.int (least : Nat)), some (.int (n : Nat)), some (.int (many : Nat)), some (.ref fn), x7, x8, x9] ∧ m.length = i ∧ (∀ s ∈ m, Sok n many s ∧ s.ps.sum ≤ least) ∧ Dk st2 r c ∧ st2[fn]? = some (.lst (m.map stD))) ⟨[], none, none, none, rfl, rfl, by simp, dn, hfn⟩ (fun i ρ st2 Y hi ⟨m, x7, x8, x9, e1, h1, h2, d2, hf⟩ hY => ?_) (fun ρ st2 ⟨m, x7, x8, x9, e1, h1, h2, d2, hf⟩ => ?_)
    · subst e1
      refine ⟨_, rfl, seq_i fun X5 hX5 => ?_⟩
      simp
      rw [if_pos (small62_of (by omega))]
      simp
      refine lc_rng (fun i acc st3 => ∃ fs : List Nat, acc = fs.map nd ∧ fs.length = i ∧ (∀ p ∈ fs, p < many) ∧ Dk st3 r c ∧ st3[fn]? = some (.lst (m.map stD))) ⟨[], rfl, rfl, by simp, d2, hf⟩ (fun i acc st3 Z hi ⟨fs, e1, g1, g2, d3, hf3⟩ hZ => ?_) (fun acc st3 ⟨fs, e1, g1, g2, d3, hf3⟩ => ?_)
      · subst e1
        refine ⟨_, rfl, ?_⟩
        simp [wipeD, permN, permL]
        refine drawN_ok (k := k + 2) d3 (by omega) (by omega) fun v st4 hv d4 f4 => ?_
        refine ⟨by first | omega | (simp; omega) | (rw [sizeLine_eq]; simp; omega), hZ _ _ ⟨fs ++ [v], by simp [nd], by simp [g1], fun p hp => ?_, d4, f4.keep hf3 (by omega) (by omega)⟩⟩
        rcases List.mem_append.mp hp with hp | hp
        · exact g2 p hp
        · simp at hp
          omega
      · subst e1
        rw [bl_tupL get_last]
        have d4 := d3.app [Cell.lst (fs.map nd)]
        have hf4 := get_app hf3 [Cell.lst (fs.map nd)]
        generalize st3 ++ [Cell.lst (fs.map nd)] = st4 at d4 hf4
        refine hX5 _ _ ?_
        simp [wps_seq, permN, permL]
        refine ⟨_, listS_lst hf4, ?_⟩
        refine table_ok (k := k) (n := n) d4 (by omega) hl fun ps st5 p1 p2 d5 f5 => ?_
        have hf5 := f5.keep hf4 (by omega) (by omega)
        refine ⟨fn, _, _, rfl, rfl, hf5, by first | omega | (simp; omega) | (rw [sizeLine_eq]; simp; omega), hY _ _ ⟨m ++ [⟨ps, fs⟩], _, _, _, rfl, by simp [h1], fun s hs => ?_, Deck.set d5 (by omega) (by omega), ?_⟩⟩
        · rcases List.mem_append.mp hs with hs | hs
          · exact h2 s hs
          · simp at hs
            subst hs
            exact ⟨⟨p1, g1, g2, by simp; omega⟩, p2.2⟩
        · rw [get_set hf5]
          simp [stD, rowD, ti, nd, Function.comp_def]
    · subst e1
      refine hX4 _ _ ?_
      simp [wps_seq]
      rw [bl_tupL hf]
      refine q n m _ ⟨by omega, by omega, fun s hs => ?_⟩ (fun s hs => (h2 s hs).2) d2
      rw [h1]
      exact (h2 s hs).1
  simp [permN, permL]
  refine drawN_ok d2 (by omega) (by omega) fun v st3 hv d3 f3 => ?_
  simp
  refine Br.dec (fun _ => hA _ ?_) (fun _ => hB _ (go (1 + n0) (1 + m0) _ (by omega) (by omega) d3))
  simp [wps_seq]
  split
  · exact go (1 + n0) (1 + m0) _ (by omega) (by omega) d3
  · exact go 2 (1 + m0) _ (by omega) (by omega) d3
end Cb.K59

namespace Cb.K59
open PySem PySem.Spec PyProof.Rows L2
/-! ### reading: v is what the register reads, p how many bits are read, s the row of bits (0 behind its end) -/
def sAt (bits : List Int) (p : Nat) : Int := (bits[p]?).getD 0
def num (s : Nat → Int) : Nat → Int
  | 0 => 0
  | p + 1 => 2 * num s p + s p
inductive Nv (q : Int) (s : Nat → Int) : Int → Int → Int → Nat → Int → Int → Int → Nat → Prop
  | stop {l z v : Int} {p : Nat} : ¬ l + z ≤ 2 * q → ¬ 2 * q ≤ l → ¬ (q ≤ l ∧ l + z ≤ 2 * q + q) → Nv q s l z v p l z v p
  | low {l z v l' z' v' : Int} {p p' : Nat} : l + z ≤ 2 * q → Nv q s (2 * l) (2 * z) (2 * v + s p) (p + 1) l' z' v' p' → Nv q s l z v p l' z' v' p'
  | high {l z v l' z' v' : Int} {p p' : Nat} : ¬ l + z ≤ 2 * q → 2 * q ≤ l → Nv q s (2 * (l - 2 * q)) (2 * z) (2 * (v - 2 * q) + s p) (p + 1) l' z' v' p' → Nv q s l z v p l' z' v' p'
  | mid {l z v l' z' v' : Int} {p p' : Nat} : ¬ l + z ≤ 2 * q → ¬ 2 * q ≤ l → (q ≤ l ∧ l + z ≤ 2 * q + q) → Nv q s (2 * (l - q)) (2 * z) (2 * (v - q) + s p) (p + 1) l' z' v' p' → Nv q s l z v p l' z' v' p'
theorem Nv.fn {q : Int} {s : Nat → Int} {l z v l' z' v' l'' z'' v'' : Int} {p p' p'' : Nat} (h : Nv q s l z v p l' z' v' p') : Nv q s l z v p l'' z'' v'' p'' → l' = l'' ∧ z' = z'' ∧ v' = v'' ∧ p' = p'' := by
  induction h with
  | stop a b c =>
    intro g
    cases g with
    | stop => exact ⟨rfl, rfl, rfl, rfl⟩
    | low x => exact absurd x a
    | high _ x => exact absurd x b
    | mid _ _ x => exact absurd x c
  | low a _ ih =>
    intro g
    cases g with
    | stop x => exact absurd a x
    | low _ g => exact ih g
    | high x => exact absurd a x
    | mid x => exact absurd a x
  | high a b _ ih =>
    intro g
    cases g with
    | stop _ x => exact absurd b x
    | low x => exact absurd x a
    | high _ _ g => exact ih g
    | mid _ x => exact absurd b x
  | mid a b c _ ih =>
    intro g
    cases g with
    | stop _ _ x => exact absurd c x
    | low x => exact absurd x a
    | high _ x => exact absurd x b
    | mid _ _ _ g => exact ih g
/-- v lies within the register -/
def In (l z v : Int) : Prop := l ≤ v ∧ v < l + z
def Bs (s : Nat → Int) : Prop := ∀ p, s p = 0 ∨ s p = 1
theorem Nv.facts {q : Int} {s : Nat → Int} {l z v l' z' v' : Int} {p p' : Nat} (hs : Bs s) (h : Nv q s l z v p l' z' v' p') : Rg q l z → In l z v → Rg q l' z' ∧ q < z' ∧ In l' z' v' := by
  induction h with
  | stop a b c =>
    intro h i
    refine ⟨h, ?_, i⟩
    unfold Rg at h
    omega
  | @low l z v _ _ _ p _ a _ ih =>
    intro h i
    have := hs p
    exact ih (h.low a) (by unfold In at *; omega)
  | @high l z v _ _ _ p _ a b _ ih =>
    intro h i
    have := hs p
    exact ih (h.high b) (by unfold In at *; omega)
  | @mid l z v _ _ _ p _ a b c _ ih =>
    intro h i
    have := hs p
    exact ih (h.mid c) (by unfold In at *; omega)
/-- a way read: each outcome the one in whose part v lies -/
inductive Dc (m : List Stt) (q : Int) (s : Nat → Int) : Nat → Int → Int → Int → Nat → List Nat → Prop
  | nil {a : Nat} {l z v : Int} {p : Nat} : Dc m q s a l z v p []
  | cons {a o P b : Nat} {S : Stt} {os : List Nat} {l z v l1 z1 v1 : Int} {p p1 : Nat} : m[a]? = some S → S.ps[o]? = some P → cA S.ps o z ≤ v - l → v - l < cB S.ps o P z → S.fs[o]? = some b → Nv q s (l + cA S.ps o z) (cB S.ps o P z - cA S.ps o z) v p l1 z1 v1 p1 → Dc m q s b l1 z1 v1 p1 os → Dc m q s a l z v p (o :: os)
theorem take_mono {ps : List Nat} {i j : Nat} (h : i ≤ j) : (ps.take i).sum ≤ (ps.take j).sum := by
  have e : ps.take j = ps.take i ++ (ps.take j).drop i := by
    have := List.take_append_drop i (ps.take j)
    rw [List.take_take, Nat.min_eq_left h] at this
    exact this.symm
  rw [e, List.sum_append]
  omega
theorem div_mono {z a b S : Int} (hS : 0 < S) (hz : 0 ≤ z) (h : a ≤ b) : (z * a) / S ≤ (z * b) / S := Int.ediv_le_ediv hS (Int.mul_le_mul_of_nonneg_left h hz)
theorem cB_cA {ps : List Nat} {o P : Nat} {z : Int} (h : ps[o]? = some P) : cB ps o P z = cA ps (o + 1) z := by
  unfold cA cB
  rw [take_succ h, List.sum_append]
  simp
theorem cA_mono {ps : List Nat} {i j : Nat} {z : Int} (hS : 0 < ps.sum) (hz : 0 ≤ z) (h : i ≤ j) : cA ps i z ≤ cA ps j z := by
  unfold cA
  exact div_mono (by omega) hz (by have := take_mono (ps := ps) h; omega)
/-- only one outcome's part holds x -/
theorem part_one {ps : List Nat} {i j P R : Nat} {z x : Int} (hS : 0 < ps.sum) (hz : 0 ≤ z) (hi : ps[i]? = some P) (hj : ps[j]? = some R) (h1 : cA ps i z ≤ x) (h2 : x < cB ps i P z) (h3 : cA ps j z ≤ x) (h4 : x < cB ps j R z) : i = j := by
  rw [cB_cA hi] at h2
  rw [cB_cA hj] at h4
  rcases Nat.lt_trichotomy i j with h | h | h
  · have := cA_mono (z := z) hS hz (show i + 1 ≤ j from h)
    omega
  · exact h
  · have := cA_mono (z := z) hS hz (show j + 1 ≤ i from h)
    omega
theorem part_pos {ps : List Nat} {o P : Nat} {z x : Int} (h1 : cA ps o z ≤ x) (h2 : x < cB ps o P z) : 0 < P := by
  refine Nat.pos_of_ne_zero fun e => ?_
  subst e
  unfold cA at h1
  unfold cB at h2
  rw [Nat.add_zero] at h2
  omega
theorem Dc.fn {m : List Stt} {q : Int} {s : Nat → Int} {n a : Nat} {l z v : Int} {p : Nat} {os qs : List Nat} (hm : Mok n m) (hs : Bs s) (hf : Fit q m) (h : Dc m q s a l z v p os) : Dc m q s a l z v p qs → Rg q l z → q < z → os.length = qs.length → os = qs := by
  induction h generalizing qs with
  | nil =>
    intro g _ _ e
    exact (List.length_eq_zero_iff.mp e.symm).symm
  | @cons a o P b S os l z v l1 z1 v1 p p1 h1 h2 h3 h4 h5 h6 _ ih =>
    intro g hr hz e
    cases g with
    | nil => simp at e
    | @cons _ o' P' b' S' os' _ _ _ l1' z1' v1' _ p1' g1 g2 g3 g4 g5 g6 g7 =>
      rw [h1] at g1
      cases g1
      have hS := hm.st S (List.mem_of_getElem? h1)
      have hr' := hr
      unfold Rg at hr'
      have eo := part_one (by have := hS.s; omega) (by omega) h2 g2 h3 h4 g3 g4
      subst eo
      rw [h2] at g2
      cases g2
      rw [h5] at g5
      cases g5
      obtain ⟨rfl, rfl, rfl, rfl⟩ := h6.fn g6
      have hc := cut_rg hr hz (hf S (List.mem_of_getElem? h1)) hS.s.1 h2 (part_pos h3 h4)
      have hfa := h6.facts hs hc (by unfold In; omega)
      rw [ih g7 hfa.1 hfa.2.1 (by simpa using e)]
theorem Dc.wy {m : List Stt} {q : Int} {s : Nat → Int} {n a : Nat} {l z v : Int} {p : Nat} {os : List Nat} (hm : Mok n m) (h : Dc m q s a l z v p os) (ha : a < m.length) : Wy m a os := by
  induction h with
  | nil => exact .nil ha
  | cons h1 h2 h3 h4 h5 _ _ ih =>
    have hS := hm.st _ (List.mem_of_getElem? h1)
    exact .cons h1 h2 (part_pos h3 h4) h5 (ih (hS.f _ (List.mem_of_getElem? h5)))
theorem Dc.take {m : List Stt} {q : Int} {s : Nat → Int} {a : Nat} {l z v : Int} {p : Nat} {os : List Nat} (h : Dc m q s a l z v p os) : ∀ i, Dc m q s a l z v p (os.take i) := by
  induction h with
  | nil => intro i; simpa using Dc.nil
  | cons h1 h2 h3 h4 h5 h6 _ ih =>
    intro i
    cases i with
    | zero => exact .nil
    | succ i => exact .cons h1 h2 h3 h4 h5 h6 (ih i)
end Cb.K59

namespace Cb.K59
open PySem PySem.Spec PyProof.Rows L2
/-! ### a row of bits as a number -/
def valF (a : Int) : List Int → Int
  | [] => a
  | b :: bs => valF (2 * a + b) bs
def val (bs : List Int) : Int := valF 0 bs
theorem valF_app (a : Int) : ∀ (bs cs : List Int), valF a (bs ++ cs) = valF (valF a bs) cs := by
  intro bs
  induction bs generalizing a with
  | nil => intro cs; rfl
  | cons b bs ih => intro cs; exact ih (2 * a + b) cs
theorem valF_ones (a : Int) : ∀ t : Nat, valF a (List.replicate t 1) = (a + 1) * 2 ^ t - 1
  | 0 => by simp [valF]
  | t + 1 => by
    rw [List.replicate_succ]
    show valF (2 * a + 1) (List.replicate t 1) = _
    rw [valF_ones (2 * a + 1) t, Int.pow_succ]
    grind
theorem valF_zeros (a : Int) : ∀ t : Nat, valF a (List.replicate t 0) = a * 2 ^ t
  | 0 => by simp [valF]
  | t + 1 => by
    rw [List.replicate_succ]
    show valF (2 * a + 0) (List.replicate t 0) = _
    rw [valF_zeros (2 * a + 0) t, Int.pow_succ]
    grind
theorem val_emL (bs : List Int) (t : Nat) : val (bs ++ emL t) = val bs * (2 * 2 ^ t) + (2 ^ t - 1) := by
  unfold val emL
  rw [valF_app]
  show valF (2 * valF 0 bs + 0) (List.replicate t 1) = _
  rw [valF_ones]
  grind
theorem val_emH (bs : List Int) (t : Nat) : val (bs ++ emH t) = val bs * (2 * 2 ^ t) + 2 ^ t := by
  unfold val emH
  rw [valF_app]
  show valF (2 * valF 0 bs + 1) (List.replicate t 0) = _
  rw [valF_zeros]
  grind
/-- how the reader's number stands to the writer's register -/
structure Jn (q : Int) (w : Nat) (s : Nat → Int) (E : List Int) (t : Nat) (v : Int) (p : Nat) : Prop where
  hp : p = E.length + t + w
  hv : v = num s p - (val E * (2 ^ t * (4 * q)) + (2 ^ t - 1) * (2 * q))
theorem Jn.low {q : Int} {w : Nat} {s : Nat → Int} {E : List Int} {t : Nat} {v : Int} {p : Nat} (h : Jn q w s E t v p) : Jn q w s (E ++ emL t) 0 (2 * v + s p) (p + 1) := by
  obtain ⟨h1, h2⟩ := h
  refine ⟨by simp [emL]; omega, ?_⟩
  rw [h2, val_emL]
  show _ = 2 * num s p + s p - _
  generalize (2 : Int) ^ t = T
  grind
theorem Jn.high {q : Int} {w : Nat} {s : Nat → Int} {E : List Int} {t : Nat} {v : Int} {p : Nat} (h : Jn q w s E t v p) : Jn q w s (E ++ emH t) 0 (2 * (v - 2 * q) + s p) (p + 1) := by
  obtain ⟨h1, h2⟩ := h
  refine ⟨by simp [emH]; omega, ?_⟩
  rw [h2, val_emH]
  show _ = 2 * num s p + s p - _
  generalize (2 : Int) ^ t = T
  grind
theorem Jn.mid {q : Int} {w : Nat} {s : Nat → Int} {E : List Int} {t : Nat} {v : Int} {p : Nat} (h : Jn q w s E t v p) : Jn q w s E (t + 1) (2 * (v - q) + s p) (p + 1) := by
  obtain ⟨h1, h2⟩ := h
  refine ⟨by omega, ?_⟩
  rw [h2, Int.pow_succ]
  show _ = 2 * num s p + s p - _
  generalize (2 : Int) ^ t = T
  grind
theorem Nm.blind {q : Int} {w : Nat} {s : Nat → Int} (hs : Bs s) {l z l' z' : Int} {t t' : Nat} {bs : List Int} (h : Nm q l z t l' z' t' bs) : ∀ {E : List Int} {v : Int} {p : Nat}, Jn q w s E t v p → ∃ v' p', Nv q s l z v p l' z' v' p' ∧ Jn q w s (E ++ bs) t' v' p' ∧ (In l' z' v' → In l z v) := by
  induction h with
  | stop a b c => exact fun {E v p} j => ⟨v, p, .stop a b c, by rw [List.append_nil]; exact j, fun h => h⟩
  | low a _ ih =>
    intro E v p j
    obtain ⟨v', p', h1, h2, h3⟩ := ih j.low
    refine ⟨v', p', .low a h1, by rw [← List.append_assoc]; exact h2, fun h => ?_⟩
    have := h3 h
    have := hs p
    unfold In at *
    omega
  | high a b _ ih =>
    intro E v p j
    obtain ⟨v', p', h1, h2, h3⟩ := ih j.high
    refine ⟨v', p', .high a b h1, by rw [← List.append_assoc]; exact h2, fun h => ?_⟩
    have := h3 h
    have := hs p
    unfold In at *
    omega
  | mid a b c _ ih =>
    intro E v p j
    obtain ⟨v', p', h1, h2, h3⟩ := ih j.mid
    refine ⟨v', p', .mid a b c h1, h2, fun h => ?_⟩
    have := h3 h
    have := hs p
    unfold In at *
    omega
theorem cut_in {ps : List Nat} {o P : Nat} {z : Int} (hS : 0 < ps.sum) (hz : 0 ≤ z) (hP : ps[o]? = some P) : 0 ≤ cA ps o z ∧ cB ps o P z ≤ z := by
  have hle := take_le hP
  have a1 := cut_nn (s := z) (P := ((ps.take o).sum : Nat)) (S := (ps.sum : Nat)) (by omega) hz (by omega)
  have a3 := cut_le (s := z) (P := ((ps.take o).sum : Nat)) (p := (P : Int)) (S := (ps.sum : Nat)) (by omega) hz (by omega)
  have e : (((ps.take o).sum + P : Nat) : Int) = ((ps.take o).sum : Int) + (P : Int) := by push_cast; rfl
  unfold cA cB
  rw [e]
  exact ⟨a1, a3⟩
theorem Gn.blind {m : List Stt} {n : Nat} {q : Int} {w : Nat} {s : Nat → Int} (hm : Mok n m) (hf : Fit q m) (hs : Bs s) {a : Nat} {os : List Nat} {l z l2 z2 : Int} {t t2 : Nat} {bs : List Int} (h : Gn m q a l z t os l2 z2 t2 bs) : ∀ {E : List Int} {v : Int} {p : Nat}, Wy m a os → Rg q l z → q < z → Jn q w s E t v p → ∃ v2 p2, Jn q w s (E ++ bs) t2 v2 p2 ∧ (In l2 z2 v2 → Dc m q s a l z v p os ∧ In l z v) := by
  induction h with
  | nil => exact fun {E v p} _ _ _ j => ⟨v, p, by rw [List.append_nil]; exact j, fun h => ⟨.nil, h⟩⟩
  | @cons a o P b S os l z l1 z1 l2 z2 t t1 t2 bs bs2 h1 h2 h3 h4 _ ih =>
    intro E v p hw hr hz j
    cases hw with
    | cons a' b' p' c' w' =>
      rw [h1] at a'
      cases a'
      rw [h2] at b'
      cases b'
      rw [h3] at c'
      cases c'
      have hS := hm.st _ (List.mem_of_getElem? h1)
      have hc := cut_rg hr hz (hf _ (List.mem_of_getElem? h1)) hS.s.1 h2 p'
      have hfa := h4.facts hc
      obtain ⟨v1, p1, n1, n2, n3⟩ := h4.blind hs j
      obtain ⟨v2, p2, i1, i2⟩ := ih w' hfa.1 hfa.2 n2
      refine ⟨v2, p2, by rw [← List.append_assoc]; exact i1, fun h => ?_⟩
      obtain ⟨d, i⟩ := i2 h
      have i' := n3 i
      have hr' := hr
      unfold Rg at hr'
      have ci := cut_in (z := z) (by have := hS.s; omega) (by omega) h2
      unfold In at i'
      exact ⟨.cons h1 h2 (by omega) (by omega) h3 n1 d, by unfold In; omega⟩
/-- a stream that begins with bs -/
theorem num_app {bs : List Int} {s : Nat → Int} (hb : ∀ i, i < bs.length → bs[i]? = some (s i)) : num s bs.length = val bs := by
  have h : ∀ (cs ds : List Int), bs = cs ++ ds → valF (num s cs.length) ds = num s bs.length := by
    intro cs ds
    induction ds generalizing cs with
    | nil =>
      intro e
      rw [e, List.append_nil]
      rfl
    | cons d ds ih =>
      intro e
      have e2 := ih (cs ++ [d]) (by rw [e, List.append_assoc]; rfl)
      have hd : s cs.length = d := by
        have := hb cs.length (by rw [e, List.length_append, List.length_cons]; omega)
        rw [e] at this
        simpa using this.symm
      rw [List.length_append] at e2
      show valF (2 * num s cs.length + d) ds = _
      rw [← hd]
      exact e2
  exact (h [] bs rfl).symm
theorem num_more {s : Nat → Int} (hs : Bs s) (b : Nat) : ∀ j : Nat, ∃ r, num s (b + j) = num s b * 2 ^ j + r ∧ 0 ≤ r ∧ r < 2 ^ j
  | 0 => ⟨0, by simp, by omega, by simp⟩
  | j + 1 => by
    obtain ⟨r, h1, h2, h3⟩ := num_more hs b j
    have := hs (b + j)
    refine ⟨2 * r + s (b + j), ?_, by omega, by rw [Int.pow_succ]; omega⟩
    show 2 * num s (b + j) + s (b + j) = _
    rw [h1, Int.pow_succ]
    grind
theorem sAt_app {bs more : List Int} : ∀ i, i < bs.length → bs[i]? = some (sAt (bs ++ more) i) := fun i h => by
  unfold sAt
  rw [List.getElem?_append_left h, List.getElem?_eq_getElem h]
  rfl
theorem sAt_bs {bs : List Int} (h : ∀ b ∈ bs, b = 0 ∨ b = 1) : Bs (sAt bs) := fun p => by
  unfold sAt
  cases e : bs[p]? with
  | none => exact .inl rfl
  | some b => exact h b (List.mem_of_getElem? e)
/-- what is written is read -/
theorem back {m : List Stt} {n w : Nat} {q : Int} (hm : Mok n m) (hw : Wd w q) (hf : Fit q m) {way : List Nat} (hy : Wy m 0 way) {l z : Int} {t : Nat} {bs more : List Int} (h : Gn m q 0 0 (4 * q) 0 way l z t bs) (hmo : ∀ b ∈ more, b = 0 ∨ b = 1) :
    Dc m q (sAt (wrt q l z t bs ++ more)) 0 0 (4 * q) (num (sAt (wrt q l z t bs ++ more)) w) w way := by
  have hb := hw.b
  have h3 := hw.hw
  have hbit := h.bit
  have hwb : ∀ b ∈ wrt q l z t bs, b = 0 ∨ b = 1 := by
    unfold wrt
    split
    · exact hbit
    · split
      · exact fun b hb => (List.mem_append.mp hb).elim (hbit b) (emL_bit b)
      · exact fun b hb => (List.mem_append.mp hb).elim (hbit b) (emH_bit b)
  have hs : Bs (sAt (wrt q l z t bs ++ more)) := sAt_bs fun b hb => (List.mem_append.mp hb).elim (hwb b) (hmo b)
  have hpre := sAt_app (bs := wrt q l z t bs) (more := more)
  obtain ⟨hr, hz, _⟩ := h.facts hm hf hb.2 hy (by unfold Rg; omega) (by omega)
  have hdone := h.done
  generalize sAt (wrt q l z t bs ++ more) = s at hs hpre
  obtain ⟨v2, p2, j, fin⟩ := h.blind (w := w) hm hf hs (E := []) (v := num s w) (p := w) hy (by unfold Rg; omega) (by omega) ⟨by simp, by simp [val, valF]⟩
  rw [List.nil_append] at j
  refine (fin ?_).1
  obtain ⟨j1, j2⟩ := j
  have hnum := num_app hpre
  have q4 : (2 : Int) ^ w = 4 * q := hw.q0
  have q2 : (2 : Int) ^ (w - 2) = q := hw.hq.symm
  unfold Rg at hr
  unfold In
  unfold wrt at hnum
  by_cases hfull : l = 0 ∧ z = 4 * q ∧ t = 0
  · rw [if_pos hfull] at hnum
    obtain ⟨rfl, rfl, rfl⟩ := hfull
    obtain ⟨r, g1, g2, g3⟩ := num_more hs bs.length w
    rw [hnum, q4] at g1
    rw [q4] at g3
    have e : p2 = bs.length + w := by omega
    rw [e, g1] at j2
    simp at j2
    omega
  · rw [if_neg hfull] at hnum
    have hset : ¬ l + z ≤ 2 * q ∧ ¬ 2 * q ≤ l ∧ ¬ (q ≤ l ∧ l + z ≤ 2 * q + q) := by
      rcases hdone with ⟨_, rfl, rfl, rfl, _⟩ | hd
      · exact absurd ⟨rfl, rfl, rfl⟩ hfull
      · exact hd
    by_cases hlt : l < q
    · rw [if_pos hlt] at hnum
      obtain ⟨r, g1, g2, g3⟩ := num_more hs (bs ++ emL (t + 1)).length (w - 2)
      rw [hnum, q2, val_emL, Int.pow_succ] at g1
      rw [q2] at g3
      have e : p2 = (bs ++ emL (t + 1)).length + (w - 2) := by simp [emL]; omega
      rw [e, g1] at j2
      have e3 : v2 = q + r := by
        rw [j2]
        generalize (2 : Int) ^ t = T
        grind
      omega
    · rw [if_neg hlt] at hnum
      obtain ⟨r, g1, g2, g3⟩ := num_more hs (bs ++ emH (t + 1)).length (w - 2)
      rw [hnum, q2, val_emH, Int.pow_succ] at g1
      rw [q2] at g3
      have e : p2 = (bs ++ emH (t + 1)).length + (w - 2) := by simp [emH]; omega
      rw [e, g1] at j2
      have e3 : v2 = 2 * q + r := by
        rw [j2]
        generalize (2 : Int) ^ t = T
        grind
      omega
/-- zeros behind the end are nothing new -/
theorem sAt_zeros {bs : List Int} {k : Nat} : sAt (bs ++ List.replicate k 0) = sAt bs := by
  funext p
  unfold sAt
  by_cases h : p < bs.length
  · rw [List.getElem?_append_left h]
  · rw [List.getElem?_append_right (by omega), List.getElem?_eq_none (l := bs) (by omega)]
    cases e : (List.replicate k (0 : Int))[p - bs.length]? with
    | none => rfl
    | some x =>
      have := List.eq_of_mem_replicate (List.mem_of_getElem? e)
      subst this
      rfl
end Cb.K59

namespace Cb.K59
open PySem PySem.Spec PyProof.Rows L2
/-! ### spans: the numbers of so many bits that are read as a way -/
/-- n doublings of a register -/
inductive Dbl (q : Int) : Int → Int → Nat → Int → Int → Prop
  | stop {l z : Int} : ¬ l + z ≤ 2 * q → ¬ 2 * q ≤ l → ¬ (q ≤ l ∧ l + z ≤ 2 * q + q) → Dbl q l z 0 l z
  | low {l z l' z' : Int} {n : Nat} : l + z ≤ 2 * q → Dbl q (2 * l) (2 * z) n l' z' → Dbl q l z (n + 1) l' z'
  | high {l z l' z' : Int} {n : Nat} : ¬ l + z ≤ 2 * q → 2 * q ≤ l → Dbl q (2 * (l - 2 * q)) (2 * z) n l' z' → Dbl q l z (n + 1) l' z'
  | mid {l z l' z' : Int} {n : Nat} : ¬ l + z ≤ 2 * q → ¬ 2 * q ≤ l → (q ≤ l ∧ l + z ≤ 2 * q + q) → Dbl q (2 * (l - q)) (2 * z) n l' z' → Dbl q l z (n + 1) l' z'
theorem Dbl.size {q l z l' z' : Int} {n : Nat} (h : Dbl q l z n l' z') : z' = 2 ^ n * z := by
  induction h with
  | stop => simp
  | low _ _ ih => rw [ih, Int.pow_succ, Int.mul_assoc]
  | high _ _ _ ih => rw [ih, Int.pow_succ, Int.mul_assoc]
  | mid _ _ _ _ ih => rw [ih, Int.pow_succ, Int.mul_assoc]
/-- what is read while the register is doubled -/
theorem Dbl.nv {q : Int} {s : Nat → Int} {l z l' z' : Int} {n : Nat} (h : Dbl q l z n l' z') : ∀ (v : Int) (p : Nat), ∃ v', Nv q s l z v p l' z' v' (p + n) ∧ ∀ f : Int, num s p - f = v - l → num s (p + n) - 2 ^ n * f = v' - l' := by
  induction h with
  | stop a b c => exact fun v p => ⟨v, .stop a b c, fun f e => by simpa using e⟩
  | @low _ _ _ _ n a _ ih =>
    intro v p
    obtain ⟨v', h1, h2⟩ := ih (2 * v + s p) (p + 1)
    refine ⟨v', .low a (by rw [show p + (n + 1) = p + 1 + n by omega]; exact h1), fun f e => ?_⟩
    have := h2 (2 * f) (by
      show 2 * num s p + s p - 2 * f = _
      omega)
    rw [show p + (n + 1) = p + 1 + n by omega, Int.pow_succ, Int.mul_assoc]
    exact this
  | @high _ _ _ _ n a b _ ih =>
    intro v p
    obtain ⟨v', h1, h2⟩ := ih (2 * (v - 2 * q) + s p) (p + 1)
    refine ⟨v', .high a b (by rw [show p + (n + 1) = p + 1 + n by omega]; exact h1), fun f e => ?_⟩
    have := h2 (2 * f) (by
      show 2 * num s p + s p - 2 * f = _
      omega)
    rw [show p + (n + 1) = p + 1 + n by omega, Int.pow_succ, Int.mul_assoc]
    exact this
  | @mid _ _ _ _ n a b c _ ih =>
    intro v p
    obtain ⟨v', h1, h2⟩ := ih (2 * (v - q) + s p) (p + 1)
    refine ⟨v', .mid a b c (by rw [show p + (n + 1) = p + 1 + n by omega]; exact h1), fun f e => ?_⟩
    have := h2 (2 * f) (by
      show 2 * num s p + s p - 2 * f = _
      omega)
    rw [show p + (n + 1) = p + 1 + n by omega, Int.pow_succ, Int.mul_assoc]
    exact this
theorem Dbl.ex {q : Int} : ∀ (k : Nat) (l z : Int), (4 * q - z).toNat ≤ k → Rg q l z → ∃ n l' z', Dbl q l z n l' z' := by
  intro k
  induction k with
  | zero =>
    intro l z hk hr
    unfold Rg at hr
    exact ⟨0, l, z, .stop (by omega) (by omega) (by omega)⟩
  | succ k ih =>
    intro l z hk hr
    by_cases a : l + z ≤ 2 * q
    · obtain ⟨n, l', z', h⟩ := ih (2 * l) (2 * z) (by unfold Rg at hr; omega) (hr.low a)
      exact ⟨n + 1, l', z', .low a h⟩
    · by_cases b : 2 * q ≤ l
      · obtain ⟨n, l', z', h⟩ := ih (2 * (l - 2 * q)) (2 * z) (by unfold Rg at hr; omega) (hr.high b)
        exact ⟨n + 1, l', z', .high a b h⟩
      · by_cases c : q ≤ l ∧ l + z ≤ 2 * q + q
        · obtain ⟨n, l', z', h⟩ := ih (2 * (l - q)) (2 * z) (by unfold Rg at hr; omega) (hr.mid c)
          exact ⟨n + 1, l', z', .mid a b c h⟩
        · exact ⟨0, l, z, .stop a b c⟩
theorem Dbl.rg {q l z l' z' : Int} {n : Nat} (h : Dbl q l z n l' z') : Rg q l z → Rg q l' z' ∧ q < z' := by
  induction h with
  | stop a b c =>
    intro hr
    refine ⟨hr, ?_⟩
    unfold Rg at hr
    omega
  | low a _ ih => exact fun hr => ih (hr.low a)
  | high _ b _ ih => exact fun hr => ih (hr.high b)
  | mid _ _ c _ ih => exact fun hr => ih (hr.mid c)
/-- the span of a way, from a register whose numbers begin with f at b bits -/
inductive Sp (m : List Stt) (q : Int) : Nat → Int → Int → Int → Nat → List Nat → Int → Int → Nat → Nat → Int → Prop
  | nil {a : Nat} {l z f : Int} {b : Nat} : Sp m q a l z f b [] f z b a l
  | last {a o P a' : Nat} {S : Stt} {l z f : Int} {b : Nat} : m[a]? = some S → S.ps[o]? = some P → S.fs[o]? = some a' → 0 < P → Sp m q a l z f b [o] (f + cA S.ps o z) (cB S.ps o P z - cA S.ps o z) b a' (l + cA S.ps o z)
  | cons {a o P a' n e : Nat} {S : Stt} {os : List Nat} {l z f l1 z1 F N le : Int} {b B : Nat} : m[a]? = some S → S.ps[o]? = some P → S.fs[o]? = some a' → 0 < P → Dbl q (l + cA S.ps o z) (cB S.ps o P z - cA S.ps o z) n l1 z1 → os ≠ [] → Sp m q a' l1 z1 (2 ^ n * (f + cA S.ps o z)) (b + n) os F N B e le → Sp m q a l z f b (o :: os) F N B e le
/-- a span lies within its register's numbers, told by more bits -/
theorem Sp.within {m : List Stt} {q : Int} {n0 a : Nat} {l z f F N le : Int} {b B e : Nat} {os : List Nat} (hm : Mok n0 m) (hf : Fit q m) (h : Sp m q a l z f b os F N B e le) : Rg q l z → q < z → ∃ j, B = b + j ∧ 2 ^ j * f ≤ F ∧ F + N ≤ 2 ^ j * (f + z) ∧ 0 < N := by
  induction h with
  | nil =>
    intro hr hz
    unfold Rg at hr
    exact ⟨0, rfl, by simp, by simp, by omega⟩
  | @last a o P a' S l z f b h1 h2 h3 h4 =>
    intro hr hz
    have hS := hm.st _ (List.mem_of_getElem? h1)
    have hc := cut_rg hr hz (hf _ (List.mem_of_getElem? h1)) hS.s.1 h2 h4
    have hr' := hr
    unfold Rg at hr' hc
    have ci := cut_in (z := z) (by have := hS.s; omega) (by omega) h2
    exact ⟨0, rfl, by simp; omega, by simp; omega, by omega⟩
  | @cons a o P a' n e S os l z f l1 z1 F N le b B h1 h2 h3 h4 h5 h6 h7 ih =>
    intro hr hz
    have hS := hm.st _ (List.mem_of_getElem? h1)
    have hc := cut_rg hr hz (hf _ (List.mem_of_getElem? h1)) hS.s.1 h2 h4
    obtain ⟨r1, r2⟩ := h5.rg hc
    obtain ⟨j, eB, g1, g2, g3⟩ := ih r1 r2
    have ez := h5.size
    have hr' := hr
    unfold Rg at hr'
    have ci := cut_in (z := z) (by have := hS.s; omega) (by omega) h2
    refine ⟨n + j, by omega, ?_, ?_, g3⟩
    · refine Int.le_trans ?_ g1
      rw [Nat.add_comm, Int.pow_add, Int.mul_assoc]
      refine Int.mul_le_mul_of_nonneg_left (Int.mul_le_mul_of_nonneg_left (by omega) (Int.pow_nonneg (by decide))) (Int.pow_nonneg (by decide))
    · refine Int.le_trans g2 ?_
      rw [ez, ← Int.mul_add, Nat.add_comm n j, Int.pow_add, Int.mul_assoc]
      refine Int.mul_le_mul_of_nonneg_left (Int.mul_le_mul_of_nonneg_left (by omega) (Int.pow_nonneg (by decide))) (Int.pow_nonneg (by decide))
theorem pow2_pos (n : Nat) : (0 : Int) < 2 ^ n := Int.pow_pos (by decide)
/-- a number in the span of a way is read as this way -/
theorem Sp.dc {m : List Stt} {q : Int} {s : Nat → Int} {n0 a : Nat} {l z f F N le : Int} {b B e : Nat} {os : List Nat} (hm : Mok n0 m) (hf : Fit q m) (hs : Bs s) (h : Sp m q a l z f b os F N B e le) : ∀ {v : Int}, Rg q l z → q < z → num s b - f = v - l → F ≤ num s B → num s B < F + N → Dc m q s a l z v b os := by
  induction h with
  | nil => exact fun {v} _ _ _ _ _ => .nil
  | @last a o P a' S l z f b h1 h2 h3 h4 =>
    intro v hr hz hv g1 g2
    have hS := hm.st _ (List.mem_of_getElem? h1)
    have hc := cut_rg hr hz (hf _ (List.mem_of_getElem? h1)) hS.s.1 h2 h4
    obtain ⟨n, l', z', hd⟩ := Dbl.ex _ _ _ (Nat.le_refl _) hc
    obtain ⟨v', hn, _⟩ := hd.nv (s := s) v b
    exact .cons h1 h2 (by omega) (by omega) h3 hn .nil
  | @cons a o P a' n e S os l z f l1 z1 F N le b B h1 h2 h3 h4 h5 h6 h7 ih =>
    intro v hr hz hv g1 g2
    have hS := hm.st _ (List.mem_of_getElem? h1)
    have hc := cut_rg hr hz (hf _ (List.mem_of_getElem? h1)) hS.s.1 h2 h4
    obtain ⟨r1, r2⟩ := h5.rg hc
    obtain ⟨j, eB, w1, w2, w3⟩ := h7.within hm hf r1 r2
    obtain ⟨r, x1, x2, x3⟩ := num_more hs b (n + j)
    rw [show b + (n + j) = B by omega] at x1
    obtain ⟨v1, hn, hnum⟩ := h5.nv (s := s) v b
    have hv1 := hnum (f + cA S.ps o z) (by omega)
    have ez := h5.size
    rw [ez, ← Int.mul_add] at w2
    have pp := pow2_pos (n + j)
    have e1 : (2 : Int) ^ j * (2 ^ n * (f + cA S.ps o z)) = 2 ^ (n + j) * (f + cA S.ps o z) := by rw [Nat.add_comm n j, Int.pow_add, Int.mul_assoc]
    have e2 : (2 : Int) ^ j * (2 ^ n * (f + cA S.ps o z + (cB S.ps o P z - cA S.ps o z))) = 2 ^ (n + j) * (f + cB S.ps o P z) := by
      rw [Nat.add_comm n j, Int.pow_add, Int.mul_assoc]
      congr 2
      omega
    rw [e1] at w1
    rw [e2] at w2
    have k1 : f + cA S.ps o z < num s b + 1 := by
      refine Int.lt_of_mul_lt_mul_left (a := 2 ^ (n + j)) ?_ (Int.le_of_lt pp)
      have : (2 : Int) ^ (n + j) * (num s b + 1) = num s b * 2 ^ (n + j) + 2 ^ (n + j) := by rw [Int.mul_add, Int.mul_one, Int.mul_comm]
      omega
    have k2 : num s b < f + cB S.ps o P z := by
      refine Int.lt_of_mul_lt_mul_left (a := 2 ^ (n + j)) ?_ (Int.le_of_lt pp)
      have : (2 : Int) ^ (n + j) * num s b = num s b * 2 ^ (n + j) := Int.mul_comm _ _
      omega
    exact .cons h1 h2 (by omega) (by omega) h3 hn (ih r1 r2 hv1 g1 g2)
/-- a step more -/
theorem Sp.snoc {m : List Stt} {q : Int} {a : Nat} {l z f F N le : Int} {b B e : Nat} {os : List Nat} (h : Sp m q a l z f b os F N B e le) : ∀ {n : Nat} {l1 z1 : Int} {S : Stt} {o P a' : Nat}, os ≠ [] → Dbl q le N n l1 z1 → m[e]? = some S → S.ps[o]? = some P → S.fs[o]? = some a' → 0 < P →
    Sp m q a l z f b (os ++ [o]) (2 ^ n * F + cA S.ps o z1) (cB S.ps o P z1 - cA S.ps o z1) (B + n) a' (l1 + cA S.ps o z1) := by
  induction h with
  | nil => exact fun h => absurd rfl h
  | last h1 h2 h3 h4 =>
    intro n l1 z1 S o P a' _ hd g1 g2 g3 g4
    exact .cons h1 h2 h3 h4 hd (by simp) (.last g1 g2 g3 g4)
  | cons h1 h2 h3 h4 h5 h6 _ ih =>
    intro n l1 z1 S o P a' _ hd g1 g2 g3 g4
    exact .cons h1 h2 h3 h4 h5 (by simp) (ih h6 hd g1 g2 g3 g4)
/-- a way with its span, built step by step: the register is doubled ahead of each step -/
inductive Sn (m : List Stt) (q : Int) (w : Nat) : List Nat → Int → Int → Nat → Nat → Int → Prop
  | nil : Sn m q w [] 0 (4 * q) w 0 0
  | snoc {os : List Nat} {F N l l1 z1 : Int} {B a n o P a' : Nat} {S : Stt} : Sn m q w os F N B a l → Dbl q l N n l1 z1 → m[a]? = some S → S.ps[o]? = some P → S.fs[o]? = some a' → 0 < P → Sn m q w (os ++ [o]) (2 ^ n * F + cA S.ps o z1) (cB S.ps o P z1 - cA S.ps o z1) (B + n) a' (l1 + cA S.ps o z1)
theorem Sn.sp {m : List Stt} {q : Int} {w : Nat} {os : List Nat} {F N l : Int} {B a : Nat} (hq : 2 ≤ q) (h : Sn m q w os F N B a l) : Sp m q 0 0 (4 * q) 0 w os F N B a l := by
  induction h with
  | nil => exact .nil
  | @snoc os F N l l1 z1 B a n o P a' S h hd h1 h2 h3 h4 ih =>
    by_cases e : os = []
    · subst e
      cases ih with
      | nil =>
        cases hd with
        | stop =>
          have := Sp.last (q := q) (l := 0) (z := 4 * q) (f := 0) (b := w) h1 h2 h3 h4
          simpa using this
        | low x => omega
        | high _ x => omega
        | mid _ _ x => omega
    · exact ih.snoc e hd h1 h2 h3 h4
/-- the register at a way's end, in bounds -/
theorem Sn.rg {m : List Stt} {q : Int} {w n0 : Nat} {os : List Nat} {F N l : Int} {B a : Nat} (hq : 2 ≤ q) (hm : Mok n0 m) (hf : Fit q m) (h : Sn m q w os F N B a l) : Rg q l N := by
  induction h with
  | nil => unfold Rg; omega
  | snoc h hd h1 h2 h3 h4 ih =>
    have hS := hm.st _ (List.mem_of_getElem? h1)
    obtain ⟨r1, r2⟩ := hd.rg ih
    exact cut_rg r1 r2 (hf _ (List.mem_of_getElem? h1)) hS.s.1 h2 h4
end Cb.K59

namespace Cb.K59
open PySem PySem.Spec PyProof.Rows L2
variable {k : Nat} {st : Store} {Q : K1}
theorem Nm.len {q l s l' s' : Int} {t t' : Nat} {bs : List Int} (h : Nm q l s t l' s' t' bs) : Rg q l s → ∃ n : Nat, (2 : Int) ^ n * s ≤ 4 * q ∧ bs.length + t' = t + n := by
  induction h with
  | stop a b c =>
    intro h
    refine ⟨0, ?_, by simp⟩
    unfold Rg at h
    omega
  | low a _ ih =>
    intro h
    obtain ⟨n, h1, h2⟩ := ih (h.low a)
    exact ⟨n + 1, by rw [Int.pow_succ, Int.mul_assoc]; exact h1, by simp [emL]; omega⟩
  | high a b _ ih =>
    intro h
    obtain ⟨n, h1, h2⟩ := ih (h.high b)
    exact ⟨n + 1, by rw [Int.pow_succ, Int.mul_assoc]; exact h1, by simp [emH]; omega⟩
  | mid a b c _ ih =>
    intro h
    obtain ⟨n, h1, h2⟩ := ih (h.mid c)
    exact ⟨n + 1, by rw [Int.pow_succ, Int.mul_assoc]; exact h1, by omega⟩
theorem Nm.len16 {q l s l' s' : Int} {t t' : Nat} {bs : List Int} (h : Nm q l s t l' s' t' bs) (hr : Rg q l s) (hq : q ≤ 16384) : bs.length + t' ≤ t + 16 := by
  obtain ⟨n, h1, h2⟩ := h.len hr
  have h3 : (2 : Int) ^ n * 1 ≤ (2 : Int) ^ n * s := Int.mul_le_mul_of_nonneg_left hr.2.1 (Int.pow_nonneg (by omega))
  by_cases hn : n ≤ 16
  · omega
  · have h4 : (2 : Nat) ^ 17 ≤ 2 ^ n := Nat.pow_le_pow_right (by decide) (by omega)
    have e : ((2 ^ n : Nat) : Int) = (2 : Int) ^ n := by push_cast; rfl
    omega
theorem Gn.len {m : List Stt} {q : Int} {n s : Nat} {os : List Nat} {l z l2 z2 : Int} {t t2 : Nat} {bs : List Int} (hm : Mok n m) (hf : Fit q m) (hq : q ≤ 16384) (h : Gn m q s l z t os l2 z2 t2 bs) : Wy m s os → Rg q l z → q < z → bs.length + t2 ≤ t + 16 * os.length := by
  induction h with
  | nil => intros; simp
  | cons a b c d _ ih =>
    intro hw hr hz
    cases hw with
    | cons a' b' p' c' w' =>
      rw [a] at a'
      cases a'
      rw [b] at b'
      cases b'
      rw [c] at c'
      cases c'
      have hS := hm.st _ (List.mem_of_getElem? a)
      have hc := cut_rg hr hz (hf _ (List.mem_of_getElem? a)) hS.s.1 b p'
      have h2 := d.facts hc
      have h3 := d.len16 hc hq
      have := ih w' h2.1 h2.2
      simp
      omega
theorem wrt_len {q l z : Int} {t : Nat} {bs : List Int} : (wrt q l z t bs).length ≤ bs.length + t + 2 := by
  unfold wrt
  split
  · omega
  · split <;> simp [emL, emH] <;> omega
def Bits (bs : List Int) : Prop := ∀ b ∈ bs, b = 0 ∨ b = 1
theorem need_bits_ok {bs : List Int} (h : Bits bs) (hl : bs.length ≤ 1000) (q : ∀ x, Q .non (st ++ [x])) : F (k + 5) 20 [ti bs] st Q := by
  refine run_step (fd := ⟨1, 1, b20⟩) rfl rfl ?_
  simp [b20, startD, permN, permL, wps_seq, wps_ite]
  refine run_step (k := k + 3) (fd := ⟨1, 1, b4⟩) rfl rfl ?_
  simp [b4, startD, permN, permL, wps_seq]
  refine are_between_ok (k := k) (fun b hb => by have := h b hb; omega) hl fun x => ?_
  simpa using q x
theorem need_count_ok {n : Nat} (q : Q .non st) : F (k + 3) 21 [.int (n : Nat)] st Q := by
  refine run_step (fd := ⟨1, 1, b21⟩) rfl rfl ?_
  simp [b21, startD, permN, permL, wps_seq, wps_ite]
  refine run_step (k := k + 1) (fd := ⟨1, 1, b3⟩) rfl rfl ?_
  simp [b3, startD, permN, permL, wps_seq]
  refine is_integer_ok ?_
  simp
  exact q
/-- the reader's attributes -/
def rdF (m : List Stt) (w : Nat) (bits : List Int) (p a : Nat) (l z v : Int) : List (Str × D) := [("model", modD m), ("w", .int (w : Nat)), ("bits", ti bits), ("at", .int (p : Nat)), ("state", .int (a : Nat)), ("low", .int l), ("size", .int z), ("value", .int v)]
def rdC (m : List Stt) (w : Nat) (bits : List Int) (p a : Nat) (l z v : Int) : Cell := .ins kReader (rdF m w bits p a l z v)
section
variable {m : List Stt} {w p a n : Nat} {bits : List Int} {l z v : Int}
theorem fldR {f : Str} {d : D} {c : Kl} {fs : List (Str × D)} (h : st[n]? = some (.ins c fs)) (e : fs.lookup f = some d) {P : D → Prop} (q : P d) : som (fldS st (.ref n) f) P := ⟨d, by simp only [fldS, h]; exact e, q⟩
theorem sfdR {f : Str} {d : D} {c : Kl} {fs : List (Str × D)} {Q : Store → Prop} (h : st[n]? = some (.ins c fs)) (hf : f ∈ c.names) (hl : fs.length < 1000) (q : Q (st.set n (.ins c (putFD f d fs)))) : sfdS (.ref n) f d st Q := ⟨n, c, fs, rfl, h, hf, hl, q⟩
@[simp] theorem f_model : (rdF m w bits p a l z v).lookup ("model" : Str) = some (modD m) := rfl
@[simp] theorem f_w : (rdF m w bits p a l z v).lookup ("w" : Str) = some (.int (w : Nat)) := rfl
@[simp] theorem f_bits : (rdF m w bits p a l z v).lookup ("bits" : Str) = some (ti bits) := rfl
@[simp] theorem f_at : (rdF m w bits p a l z v).lookup ("at" : Str) = some (.int (p : Nat)) := rfl
@[simp] theorem f_state : (rdF m w bits p a l z v).lookup ("state" : Str) = some (.int (a : Nat)) := rfl
@[simp] theorem f_low : (rdF m w bits p a l z v).lookup ("low" : Str) = some (.int l) := rfl
@[simp] theorem f_size : (rdF m w bits p a l z v).lookup ("size" : Str) = some (.int z) := rfl
@[simp] theorem f_value : (rdF m w bits p a l z v).lookup ("value" : Str) = some (.int v) := rfl
theorem p_at {d : Nat} : putFD "at" (.int (d : Nat)) (rdF m w bits p a l z v) = rdF m w bits d a l z v := rfl
theorem p_state {d : Nat} : putFD "state" (.int (d : Nat)) (rdF m w bits p a l z v) = rdF m w bits p d l z v := rfl
theorem p_low {d : Int} : putFD "low" (.int d) (rdF m w bits p a l z v) = rdF m w bits p a d z v := rfl
theorem p_size {d : Int} : putFD "size" (.int d) (rdF m w bits p a l z v) = rdF m w bits p a l d v := rfl
theorem p_value {d : Int} : putFD "value" (.int d) (rdF m w bits p a l z v) = rdF m w bits p a l z d := rfl
theorem len_rd : (rdF m w bits p a l z v).length < 1000 := by simp [rdF]
theorem next_ok (h : st[n]? = some (rdC m w bits p a l z v)) (hl : bits.length ≤ 1000) (q : Q (.int (sAt bits p)) (st.set n (rdC m w bits (p + 1) a l z v))) : F (k + 1) 51 [.ref n] st Q := by
  refine run_step (fd := ⟨1, 1, b51⟩) rfl rfl ?_
  unfold b51
  refine seq_i fun X hX => ?_
  simp [startD]
  refine ⟨_, _, h, _, f_at, ⟨_, rfl⟩, _, h, by decide +kernel, len_rd, hX _ _ ?_⟩
  have e : (.int ((p : Nat) + 1 : Int) : D) = .int ((p + 1 : Nat) : Int) := by push_cast; rfl
  rw [e, p_at]
  have h2 := get_set (y := rdC m w bits (p + 1) a l z v) h
  change wps _ _ _ (st.set n (rdC m w bits (p + 1) a l z v)) _
  generalize st.set n (rdC m w bits (p + 1) a l z v) = st2 at h2 q ⊢
  simp [wps_seq]
  refine fldR h2 f_at (fldR h2 f_bits ?_)
  simp [ti]
  refine Br.dec (fun hle => fldR h2 f_bits (fldR h2 f_at ?_)) (fun hle => ?_)
  · have e2 : ((p + 1 : Nat) : Int) - 1 = (p : Nat) := by omega
    simp [ti]
    have hp : bits[p]? = some (sAt bits p) := by
      unfold sAt
      rw [List.getElem?_eq_getElem (by omega)]
      rfl
    exact ⟨_, at_ints hp, q⟩
  · have e2 : sAt bits p = 0 := by
      unfold sAt
      rw [List.getElem?_eq_none (by omega)]
      rfl
    rw [e2] at q
    exact q
theorem settle_ok {q0 : Int} (hw : Wd w q0) (h : st[n]? = some (rdC m w bits p a l z v)) (hl : bits.length ≤ 1000) (hr : Rg q0 l z) (hv : In l z v) (hbs : Bits bits) (q : ∀ l' z' v' p', Nv q0 (sAt bits) l z v p l' z' v' p' → Q .non (st.set n (rdC m w bits p' a l' z' v'))) : F (k + 2) 52 [.ref n] st Q := by
  have hb := hw.b
  have h3 := hw.hw
  have hs := sAt_bs hbs
  refine run_step (fd := ⟨1, 4, b52⟩) rfl rfl ?_
  unfold b52
  refine seq_i fun X hX => ?_
  simp [startD]
  refine fldR h f_w ?_
  have eq1 : (2 : Int) ^ (w - 1) = 2 * q0 := by
    have := hw.q1
    have e : ((w : Int) - 1).toNat = w - 1 := by omega
    rwa [e] at this
  simp
  refine ⟨shl_ok (by omega) (by omega) (by omega), fldR h f_w ?_⟩
  simp
  refine ⟨shl_ok (by omega) (by omega) (by omega), hX _ _ (seq_i fun X2 hX2 => ?_)⟩
  rw [eq1, hw.q2]
  simp only [wps_whil]
  refine while_inv (fun mm ρ st' => ∃ (l' z' v' : Int) (p' : Nat) (x3 : Option D), ρ = [some (.ref n), some (.int (2 * q0)), some (.int q0), x3] ∧ st' = st.set n (rdC m w bits p' a l' z' v') ∧ Rg q0 l' z' ∧ In l' z' v' ∧ (∀ A B C D', Nv q0 (sAt bits) l' z' v' p' A B C D' → Nv q0 (sAt bits) l z v p A B C D') ∧ mm = (4 * q0 - z').toNat) (fun mm ρ st' Y ⟨l', z', v', p', x3, e1, e2, hr', hv', hnm, em⟩ hY => ?_) (m := (4 * q0 - z).toNat) ⟨l, z, v, p, none, rfl, (by
    obtain ⟨hn, e⟩ := List.getElem?_eq_some_iff.mp h
    rw [← e]
    exact (List.set_getElem_self hn).symm), hr, hv, fun A B C D' h => h, rfl⟩
  have h' : st'[n]? = some (rdC m w bits p' a l' z' v') := by rw [e2]; exact get_set h
  have hset : ∀ x, st'.set n x = st.set n x := fun x => by rw [e2, List.set_set]
  subst e1 em
  have hbd := hr'
  unfold Rg at hbd
  simp [truS]
  refine seq_i fun X4 hX4 => ite_i fun A B hA hB => ?_
  -- the turn's end
  have fin : ∀ (less : Int), Rg q0 (2 * (l' - less)) (2 * z') → In (2 * (l' - less)) (2 * z') (2 * (v' - less) + sAt bits p') → (∀ A B C D', Nv q0 (sAt bits) (2 * (l' - less)) (2 * z') (2 * (v' - less) + sAt bits p') (p' + 1) A B C D' → Nv q0 (sAt bits) l z v p A B C D') → X4 [some (.ref n), some (.int (2 * q0)), some (.int q0), some (.int less)] st' := fun less hr2 hv2 hnm2 => by
    refine hX4 _ _ (seq_i fun X5 hX5 => ?_)
    simp
    refine fldR h' f_low ?_
    simp
    refine ⟨mul_okL (by omega), sfdR h' (by decide +kernel) len_rd ?_⟩
    rw [p_low]
    refine hX5 _ _ ?_
    have h2 := get_set (y := rdC m w bits p' a (2 * (l' - less)) z' v') h'
    have hs2 : ∀ x, (st'.set n (rdC m w bits p' a (2 * (l' - less)) z' v')).set n x = st.set n x := fun x => by rw [List.set_set, hset]
    change wps _ _ _ (st'.set n (rdC m w bits p' a (2 * (l' - less)) z' v')) _
    generalize st'.set n (rdC m w bits p' a (2 * (l' - less)) z' v') = st2 at h2 hs2 ⊢
    refine seq_i fun X6 hX6 => ?_
    simp
    refine fldR h2 f_size ?_
    simp
    refine ⟨mul_okL (by omega), sfdR h2 (by decide +kernel) len_rd ?_⟩
    rw [p_size]
    refine hX6 _ _ ?_
    have h3 := get_set (y := rdC m w bits p' a (2 * (l' - less)) (2 * z') v') h2
    have hs3 : ∀ x, (st2.set n (rdC m w bits p' a (2 * (l' - less)) (2 * z') v')).set n x = st.set n x := fun x => by rw [List.set_set, hs2]
    change wps _ _ _ (st2.set n (rdC m w bits p' a (2 * (l' - less)) (2 * z') v')) _
    generalize st2.set n (rdC m w bits p' a (2 * (l' - less)) (2 * z') v') = st3 at h3 hs3 ⊢
    simp [wps_seq]
    refine fldR h3 f_value ?_
    simp
    refine ⟨mul_okL (by omega), ⟨_, h3⟩, ?_⟩
    refine next_ok (k := k) h3 hl ?_
    have h4 := get_set (y := rdC m w bits (p' + 1) a (2 * (l' - less)) (2 * z') v') h3
    have hs4 : ∀ x, (st3.set n (rdC m w bits (p' + 1) a (2 * (l' - less)) (2 * z') v')).set n x = st.set n x := fun x => by rw [List.set_set, hs3]
    generalize st3.set n (rdC m w bits (p' + 1) a (2 * (l' - less)) (2 * z') v') = st4 at h4 hs4 ⊢
    simp
    refine sfdR h4 (by decide +kernel) len_rd ?_
    rw [p_value]
    have hbit := hs p'
    unfold In at hv2 hv'
    unfold Rg at hr2
    exact hY (4 * q0 - 2 * z').toNat _ _ (by omega) ⟨2 * (l' - less), 2 * z', 2 * (v' - less) + sAt bits p', p' + 1, _, rfl, hs4 _, by unfold Rg; omega, by unfold In; omega, hnm2, rfl⟩
  have hbit := hs p'
  have hv0 := hv'
  unfold In at hv0
  have e0 : l' - 0 = l' := by omega
  have e1 : v' - 0 = v' := by omega
  simp
  refine fldR h' f_low (fldR h' f_size ?_)
  simp
  refine Br.dec (fun c1 => hA _ ?_) (fun c1 => hB _ (seq_i fun X5 hX5 => ite_i fun A2 B2 hA2 hB2 => ?_))
  · simp [wps_seq]
    exact fin 0 (by rw [e0]; exact hr'.low c1) (by unfold In; omega) fun A B C D' h => hnm A B C D' (.low c1 (by rw [e0, e1] at h; exact h))
  · simp
    refine fldR h' f_low ?_
    simp
    refine Br.dec (fun c2 => hA2 _ ?_) (fun c2 => hB2 _ (seq_i fun X6 hX6 => ite_i fun A3 B3 hA3 hB3 => ?_))
    · simp [wps_seq]
      exact hX5 _ _ (fin (2 * q0) (hr'.high c2) (by unfold In; omega) fun A B C D' h => hnm A B C D' (.high c1 c2 h))
    · have stop : ¬ (q0 ≤ l' ∧ l' + z' ≤ 2 * q0 + q0) → B3 st' := fun c3 => hB3 _ (by
        simp [wps_seq]
        rw [e2]
        exact q l' z' v' p' (hnm _ _ _ _ (.stop c1 c2 c3)))
      simp
      refine fldR h' f_low ?_
      simp
      refine Br.dec (fun c3 => fldR h' f_low (fldR h' f_size ?_)) (fun c3 => stop fun z => c3 z.1)
      simp
      refine Br.dec (fun c4 => hA3 _ ?_) (fun c4 => stop fun z => c4 z.2)
      simp [wps_seq]
      exact hX6 _ _ (hX5 _ _ (fin q0 (hr'.mid ⟨c3, c4⟩) (by unfold In; omega) fun A B C D' h => hnm A B C D' (.mid c1 c2 ⟨c3, c4⟩ h)))
end
end Cb.K59

namespace Cb.K59
open PySem PySem.Spec PyProof.Rows L2
variable {k : Nat} {st : Store} {Q : K1}
theorem Sok.nxt {n many o P : Nat} {s : Stt} (h : Sok n many s) (ho : s.ps[o]? = some P) : ∃ s', s.fs[o]? = some s' ∧ s' < many := by
  have h1 := h.pl
  have h2 := h.fl
  have hlt := (List.getElem?_eq_some_iff.mp ho).1
  exact ⟨s.fs[o]'(by omega), List.getElem?_eq_getElem (by omega), h.f _ (List.getElem_mem _)⟩
theorem cA_zero {ps : List Nat} {z : Int} : cA ps 0 z = 0 := by simp [cA]
theorem cA_all {ps : List Nat} {z : Int} (hS : 0 < ps.sum) : cA ps ps.length z = z := by
  unfold cA
  rw [List.take_length]
  exact Int.mul_ediv_cancel _ (by omega)
section
variable {m : List Stt} {w p a n nn : Nat} {bits : List Int} {l z v : Int}
theorem outcome_ok {q0 : Int} (hm : Mok nn m) (hf : Fit q0 m) (hw : Wd w q0) (ha : a < m.length) (h : st[n]? = some (rdC m w bits p a l z v)) (hl : bits.length ≤ 1000) (hr : Rg q0 l z) (hz : q0 < z) (hv : In l z v) (hbs : Bits bits)
    (q : ∀ o b l' z' v' p', (∀ os, Dc m q0 (sAt bits) b l' z' v' p' os → Dc m q0 (sAt bits) a l z v p (o :: os)) → b < m.length → Rg q0 l' z' → q0 < z' → In l' z' v' → Q (.int (o : Nat)) (st.set n (rdC m w bits p' b l' z' v'))) : F (k + 6) 53 [.ref n] st Q := by
  have hb := hw.b
  have hv0 := hv
  unfold In at hv0
  have hr0 := hr
  unfold Rg at hr0
  obtain ⟨S, hS⟩ : ∃ S, m[a]? = some S := ⟨_, List.getElem?_eq_getElem ha⟩
  have hSo := hm.st S (List.mem_of_getElem? hS)
  have hSf := hf S (List.mem_of_getElem? hS)
  have hsum := hSo.s
  have hpl := hSo.pl
  have hn8 := hm.hn
  have hset : st.set n (rdC m w bits p a l z v) = st := by
    obtain ⟨hn, e⟩ := List.getElem?_eq_some_iff.mp h
    rw [← e]
    exact List.set_getElem_self hn
  refine run_step (fd := ⟨1, 6, b53⟩) rfl rfl ?_
  unfold b53
  refine seq_i fun X hX => ?_
  simp [startD]
  refine fldR h f_model (fldR h f_state ?_)
  simp [modD]
  refine ⟨_, at_map hS, ?_⟩
  simp [stD]
  refine hX _ _ (seq_i fun X2 hX2 => ?_)
  simp [tabD]
  rw [if_pos (small62_of (by omega))]
  simp
  refine for_rng (fun i ρ st' => st' = st ∧ cA S.ps i z ≤ v - l ∧ ∃ (x3 x4 x5 : Option D), ρ = [some (.ref n), some (tabD S.ps), some (rowD S.fs), x3, x4, x5]) ⟨rfl, by rw [cA_zero]; omega, none, none, none, by simp [tabD]⟩ (fun i ρ st' Y hi ⟨e1, hc, x3, x4, x5, e2⟩ hY => ?_) (fun ρ st' ⟨e1, hc, x3, x4, x5, e2⟩ => ?_)
  · subst e1 e2
    have hP : S.ps[i]? = some S.ps[i] := List.getElem?_eq_getElem hi
    generalize S.ps[i] = P at hP
    refine ⟨_, rfl, seq_i fun X3 hX3 => ?_⟩
    simp [permN, permL]
    refine fldR h f_size ?_
    refine cut_ok (k := k) hsum hP (by omega) ?_
    simp
    have eA : z * ((S.ps.take i).sum : Nat) / (S.ps.sum : Nat) = cA S.ps i z := rfl
    have eB : z * (((S.ps.take i).sum : Nat) + (P : Int)) / (S.ps.sum : Nat) = cB S.ps i P z := by unfold cB; push_cast; rfl
    rw [eA, eB]
    refine hX3 _ _ (seq_i fun X4 hX4 => ite_i fun A B hA hB => ?_)
    simp
    refine fldR h f_value (fldR h f_low ?_)
    have go : ¬ (v - l < cB S.ps i P z) → B st' := fun h2 => hB _ (hX4 _ _ (hY _ _ ⟨rfl, by rw [← cB_cA hP]; omega, _, _, _, rfl⟩))
    simp
    refine Br.gt (decide_eq_true hc) (Br.dec (fun h2 => hA _ ?_) go)
    have hp0 := part_pos hc h2
    have hcut := cut_rg hr hz hSf hsum.1 hP hp0
    obtain ⟨b, hb', hbm⟩ := hSo.nxt hP
    refine seq_i fun X5 hX5 => ?_
    simp
    refine fldR h f_low ?_
    simp
    refine sfdR h (by decide +kernel) len_rd ?_
    rw [p_low]
    refine hX5 _ _ ?_
    have h2' := get_set (y := rdC m w bits p a (l + cA S.ps i z) z v) h
    have hs2 : ∀ x, (st'.set n (rdC m w bits p a (l + cA S.ps i z) z v)).set n x = st'.set n x := fun x => List.set_set _
    change wps _ _ _ (st'.set n (rdC m w bits p a (l + cA S.ps i z) z v)) _
    generalize st'.set n (rdC m w bits p a (l + cA S.ps i z) z v) = st2 at h2' hs2 ⊢
    refine seq_i fun X6 hX6 => ?_
    simp
    refine sfdR h2' (by decide +kernel) len_rd ?_
    rw [p_size]
    refine hX6 _ _ ?_
    have h3 := get_set (y := rdC m w bits p a (l + cA S.ps i z) (cB S.ps i P z - cA S.ps i z) v) h2'
    have hs3 : ∀ x, (st2.set n (rdC m w bits p a (l + cA S.ps i z) (cB S.ps i P z - cA S.ps i z) v)).set n x = st'.set n x := fun x => by rw [List.set_set, hs2]
    change wps _ _ _ (st2.set n (rdC m w bits p a (l + cA S.ps i z) (cB S.ps i P z - cA S.ps i z) v)) _
    generalize st2.set n (rdC m w bits p a (l + cA S.ps i z) (cB S.ps i P z - cA S.ps i z) v) = st3 at h3 hs3 ⊢
    refine seq_i fun X7 hX7 => ?_
    simp [rowD, ti]
    refine ⟨_, at_row hb', ?_⟩
    refine sfdR h3 (by decide +kernel) len_rd ?_
    rw [p_state]
    refine hX7 _ _ ?_
    have h4 := get_set (y := rdC m w bits p b (l + cA S.ps i z) (cB S.ps i P z - cA S.ps i z) v) h3
    have hs4 : ∀ x, (st3.set n (rdC m w bits p b (l + cA S.ps i z) (cB S.ps i P z - cA S.ps i z) v)).set n x = st'.set n x := fun x => by rw [List.set_set, hs3]
    change wps _ _ _ (st3.set n (rdC m w bits p b (l + cA S.ps i z) (cB S.ps i P z - cA S.ps i z) v)) _
    generalize st3.set n (rdC m w bits p b (l + cA S.ps i z) (cB S.ps i P z - cA S.ps i z) v) = st4 at h4 hs4 ⊢
    refine seq_i fun X8 hX8 => ?_
    simp
    have hv2 : In (l + cA S.ps i z) (cB S.ps i P z - cA S.ps i z) v := by unfold In; omega
    refine ⟨⟨_, h4⟩, settle_ok (k := k + 3) hw h4 hl hcut hv2 hbs fun l' z' v' p' hnv => ?_⟩
    have hfa := hnv.facts (sAt_bs hbs) hcut hv2
    refine hX8 _ _ ?_
    simp [wps_seq]
    rw [hs4]
    exact q i b l' z' v' p' (fun os hd => .cons hS hP hc h2 hb' hnv hd) hbm hfa.1 hfa.2.1 hfa.2.2
  · exfalso
    rw [cA_all (by omega)] at hc
    omega
end
end Cb.K59

namespace Cb.K59
open PySem PySem.Spec PyProof.Rows L2
/-! ### spans side by side -/
/-- a way, its span, its register -/
structure Rw where
  os : List Nat
  F : Int
  N : Int
  B : Nat
  a : Nat
  l : Int
/-- where a span begins, where it ends, as x / 2 ^ b -/
def at2 (x : Int) (b : Nat) : Rat := (x : Rat) / (2 : Rat) ^ b
def Rw.lo (r : Rw) : Rat := at2 r.F r.B
def Rw.hi (r : Rw) : Rat := at2 (r.F + r.N) r.B
def Tile : Rat → List Rw → Rat → Prop
  | x, [], y => x = y
  | x, r :: rs, y => x = r.lo ∧ Tile r.hi rs y
theorem Tile.app : ∀ {rs ss : List Rw} {x y z : Rat}, Tile x rs y → Tile y ss z → Tile x (rs ++ ss) z
  | [], _, _, _, _, h, g => by
    have h' : _ = _ := h
    rw [h']
    exact g
  | r :: rs, _, _, _, _, h, g => ⟨h.1, Tile.app h.2 g⟩
/-- neighbours touch -/
theorem Tile.next : ∀ {rs : List Rw} {x y : Rat} {i : Nat} {r s : Rw}, Tile x rs y → rs[i]? = some r → rs[i + 1]? = some s → r.hi = s.lo
  | _ :: _ :: _, _, _, 0, r, s, h, h1, h2 => by
    simp at h1 h2
    subst h1 h2
    exact h.2.1
  | _ :: rs, _, _, i + 1, r, s, h, h1, h2 => Tile.next (i := i) h.2 (by simpa using h1) (by simpa using h2)
  | [_], _, _, 0, r, s, _, _, h2 => by simp at h2
  | [], _, _, 0, r, s, _, h1, _ => by simp at h1
theorem at2_eq {x y : Int} {b c : Nat} : at2 x b = at2 y c ↔ x * 2 ^ c = y * 2 ^ b := by
  unfold at2
  have p1 : (2 : Rat) ^ b ≠ 0 := by
    have : (0 : Rat) < 2 ^ b := Rat.pow_pos (by decide +kernel)
    exact Rat.ne_of_gt this
  have p2 : (2 : Rat) ^ c ≠ 0 := by
    have : (0 : Rat) < 2 ^ c := Rat.pow_pos (by decide +kernel)
    exact Rat.ne_of_gt this
  have e : ((x : Rat) * 2 ^ c = y * 2 ^ b) ↔ x * 2 ^ c = y * 2 ^ b := by exact_mod_cast Iff.rfl
  rw [← e]
  constructor
  · intro h
    grind
  · intro h
    grind
/-- the steps on from a way: the outcomes below i that have a part -/
def kid (S : Stt) (n : Nat) (l1 z1 : Int) (r : Rw) (o : Nat) : Rw := ⟨r.os ++ [o], 2 ^ n * r.F + cA S.ps o z1, cB S.ps o (S.ps[o]?.getD 0) z1 - cA S.ps o z1, r.B + n, S.fs[o]?.getD 0, l1 + cA S.ps o z1⟩
def kids (S : Stt) (n : Nat) (l1 z1 : Int) (r : Rw) (i : Nat) : List Rw := ((List.range i).filter fun o => decide (0 < S.ps[o]?.getD 0)).map (kid S n l1 z1 r)
theorem kids_s {S : Stt} {n i : Nat} {l1 z1 : Int} {r : Rw} : kids S n l1 z1 r (i + 1) = if 0 < S.ps[i]?.getD 0 then kids S n l1 z1 r i ++ [kid S n l1 z1 r i] else kids S n l1 z1 r i := by
  unfold kids
  rw [List.range_succ, List.filter_append]
  split
  · rename_i h
    simp [h]
  · rename_i h
    simp [h]
theorem kids_tile {S : Stt} {n : Nat} {l1 z1 : Int} {r : Rw} : ∀ {i : Nat}, i ≤ S.ps.length → Tile r.lo (kids S n l1 z1 r i) (at2 (2 ^ n * r.F + cA S.ps i z1) (r.B + n))
  | 0, _ => by
    show r.lo = _
    unfold Rw.lo
    rw [at2_eq, cA_zero, Int.add_zero, Int.pow_add]
    grind
  | i + 1, hi => by
    have ih := kids_tile (S := S) (n := n) (l1 := l1) (z1 := z1) (r := r) (i := i) (by omega)
    have hP : S.ps[i]? = some S.ps[i] := List.getElem?_eq_getElem (by omega)
    rw [kids_s]
    by_cases h : 0 < S.ps[i]?.getD 0
    · rw [if_pos h]
      refine ih.app ⟨rfl, ?_⟩
      show (kid S n l1 z1 r i).hi = _
      unfold Rw.hi kid
      dsimp only
      rw [hP, Option.getD_some, cB_cA hP]
      congr 1
      omega
    · rw [if_neg h]
      have e : cA S.ps (i + 1) z1 = cA S.ps i z1 := by
        rw [hP, Option.getD_some] at h
        have h0 : S.ps[i] = 0 := by omega
        rw [← cB_cA hP, h0]
        simp [cB, cA]
      rw [e]
      exact ih
theorem kids_all {S : Stt} {n : Nat} {l1 z1 : Int} {r : Rw} (hS : 0 < S.ps.sum) (hz : z1 = 2 ^ n * r.N) : Tile r.lo (kids S n l1 z1 r S.ps.length) r.hi := by
  have h := kids_tile (S := S) (n := n) (l1 := l1) (z1 := z1) (r := r) (Nat.le_refl _)
  have e : at2 (2 ^ n * r.F + cA S.ps S.ps.length z1) (r.B + n) = r.hi := by
    unfold Rw.hi
    rw [at2_eq, cA_all hS, hz, Int.pow_add]
    grind
  rw [e] at h
  exact h
/-- what the law keeps of a way is right -/
def Rok (m : List Stt) (q : Int) (w : Nat) (r : Rw) : Prop := Sn m q w r.os r.F r.N r.B r.a r.l
theorem kid_ok {m : List Stt} {q : Int} {w n o P n0 : Nat} {S : Stt} {l1 z1 : Int} {r : Rw} (hm : Mok n0 m) (h : Rok m q w r) (hd : Dbl q r.l r.N n l1 z1) (h1 : m[r.a]? = some S) (h2 : S.ps[o]? = some P) (hp : 0 < P) : Rok m q w (kid S n l1 z1 r o) := by
  obtain ⟨a', h3, _⟩ := (hm.st _ (List.mem_of_getElem? h1)).nxt h2
  unfold Rok kid
  rw [h2, h3]
  exact .snoc h hd h1 h2 h3 hp
theorem kids_ok {m : List Stt} {q : Int} {w n n0 : Nat} {S : Stt} {l1 z1 : Int} {r : Rw} (hm : Mok n0 m) (h : Rok m q w r) (hd : Dbl q r.l r.N n l1 z1) (h1 : m[r.a]? = some S) {i : Nat} (hi : i ≤ S.ps.length) : ∀ x ∈ kids S n l1 z1 r i, Rok m q w x := by
  intro x hx
  unfold kids at hx
  obtain ⟨o, ho, rfl⟩ := List.mem_map.mp hx
  obtain ⟨ho1, ho2⟩ := List.mem_filter.mp ho
  have hlt := List.mem_range.mp ho1
  have hP : S.ps[o]? = some S.ps[o] := List.getElem?_eq_getElem (by omega)
  rw [decide_eq_true_eq, hP, Option.getD_some] at ho2
  exact kid_ok hm h hd h1 hP ho2
/-- the numbers of a span -/
theorem Rok.pos {m : List Stt} {q : Int} {w n0 : Nat} {r : Rw} (hq : 2 ≤ q) (hm : Mok n0 m) (hf : Fit q m) (h : Rok m q w r) : 0 < r.N := by
  have := Sn.rg hq hm hf h
  unfold Rg at this
  omega
/-- a row of bits whose first ones are a number in the span is read as the way -/
theorem Rok.read {m : List Stt} {q : Int} {w n0 : Nat} {r : Rw} {s : Nat → Int} (hq : 2 ≤ q) (hm : Mok n0 m) (hf : Fit q m) (hs : Bs s) (h : Rok m q w r) (g1 : r.F ≤ num s r.B) (g2 : num s r.B < r.F + r.N) : Dc m q s 0 0 (4 * q) (num s w) w r.os :=
  (Sn.sp hq h).dc hm hf hs (by unfold Rg; omega) (by omega) (by omega) g1 g2
theorem num_zeros {s : Nat → Int} {b : Nat} (h : ∀ p, b ≤ p → s p = 0) : ∀ j, num s (b + j) = num s b * 2 ^ j
  | 0 => by simp
  | j + 1 => by
    show 2 * num s (b + j) + s (b + j) = _
    rw [num_zeros h j, h _ (by omega), Int.pow_succ]
    grind
theorem num_ones {s : Nat → Int} {b k : Nat} (h : ∀ p, b ≤ p → p < b + k → s p = 1) : ∀ j, j ≤ k → num s (b + j) = (num s b + 1) * 2 ^ j - 1
  | 0, _ => by simp
  | j + 1, hj => by
    show 2 * num s (b + j) + s (b + j) = _
    rw [num_ones h j (by omega), h _ (by omega) (by omega), Int.pow_succ]
    grind
theorem cancel2 {x y : Int} {b c d : Nat} (e : c = b + d) (h : x * 2 ^ c = y * 2 ^ b) : y = x * 2 ^ d := by
  subst e
  have pp := pow2_pos b
  rw [Int.pow_add] at h
  have : (x * 2 ^ d) * 2 ^ b = y * 2 ^ b := by
    rw [← h]
    grind
  exact (Int.eq_of_mul_eq_mul_right (by omega) this).symm
theorem floor2 {x y r : Int} {d : Nat} (h : x * 2 ^ d + r = y * 2 ^ d) (h0 : 0 ≤ r) (h1 : r < 2 ^ d) : x = y := by
  have pp := pow2_pos d
  have a1 : x ≤ y := by
    refine Int.le_of_mul_le_mul_right ?_ pp
    omega
  have a2 : y < x + 1 := by
    refine Int.lt_of_mul_lt_mul_right (a := 2 ^ d) ?_ (Int.le_of_lt pp)
    rw [Int.add_mul, Int.one_mul]
    omega
  omega
/-- the first number behind a span begins the next one -/
theorem next_read {m : List Stt} {q : Int} {w n0 : Nat} {r t : Rw} {s : Nat → Int} (hq : 2 ≤ q) (hm : Mok n0 m) (hf : Fit q m) (hs : Bs s) (ht : Rok m q w t) (hrt : r.hi = t.lo) (h0 : ∀ p, r.B ≤ p → s p = 0) (hn : num s r.B = r.F + r.N) : Dc m q s 0 0 (4 * q) (num s w) w t.os := by
  have hp := ht.pos hq hm hf
  have e := at2_eq.mp hrt
  have k : num s t.B = t.F := by
    by_cases c : r.B ≤ t.B
    · obtain ⟨d, hd⟩ : ∃ d, t.B = r.B + d := ⟨t.B - r.B, by omega⟩
      rw [hd, num_zeros h0, hn]
      exact (cancel2 hd e).symm
    · obtain ⟨d, hd⟩ : ∃ d, r.B = t.B + d := ⟨r.B - t.B, by omega⟩
      obtain ⟨x, x1, x2, x3⟩ := num_more hs t.B d
      rw [← hd, hn] at x1
      have := cancel2 hd e.symm
      exact floor2 (by omega) x2 x3
  exact ht.read hq hm hf hs (by omega) (by omega)
/-- the last number ahead of a span, ones behind it, ends the one before -/
theorem prev_read {m : List Stt} {q : Int} {w n0 k : Nat} {r t : Rw} {s : Nat → Int} (hq : 2 ≤ q) (hm : Mok n0 m) (hf : Fit q m) (hs : Bs s) (hr : Rok m q w r) (hrt : r.hi = t.lo) (hB : r.B ≤ t.B + k) (h1 : ∀ p, t.B ≤ p → p < t.B + k → s p = 1) (hn : num s t.B = t.F - 1) : Dc m q s 0 0 (4 * q) (num s w) w r.os := by
  have hp := hr.pos hq hm hf
  have e := at2_eq.mp hrt
  have kk : num s r.B = r.F + r.N - 1 := by
    by_cases c : t.B ≤ r.B
    · obtain ⟨d, hd⟩ : ∃ d, r.B = t.B + d := ⟨r.B - t.B, by omega⟩
      rw [hd, num_ones h1 d (by omega), hn]
      have := cancel2 hd e.symm
      rw [this]
      congr 2
      omega
    · obtain ⟨d, hd⟩ : ∃ d, t.B = r.B + d := ⟨t.B - r.B, by omega⟩
      obtain ⟨x, x1, x2, x3⟩ := num_more hs r.B d
      rw [← hd, hn] at x1
      have := cancel2 hd e
      have pp := pow2_pos d
      refine Classical.byContradiction fun z => ?_
      have b1 : num s r.B < r.F + r.N := by
        refine Int.lt_of_mul_lt_mul_right (a := 2 ^ d) ?_ (Int.le_of_lt pp)
        omega
      have b2 : r.F + r.N - 1 < num s r.B + 1 := by
        refine Int.lt_of_mul_lt_mul_right (a := 2 ^ d) ?_ (Int.le_of_lt pp)
        have c1 : (r.F + r.N - 1) * 2 ^ d = (r.F + r.N) * 2 ^ d - 2 ^ d := by rw [Int.sub_mul, Int.one_mul]
        have c2 : (num s r.B + 1) * 2 ^ d = num s r.B * 2 ^ d + 2 ^ d := by rw [Int.add_mul, Int.one_mul]
        omega
      omega
  exact hr.read hq hm hf hs (by omega) (by omega)
end Cb.K59

namespace Cb.Big
open PySem PySem.Spec PyProof.Rows L2
/-! ### data with great numbers (below 2 ^ 1900): shown, compared -/
mutual
def sm : D → Bool
  | .non => true
  | .bl _ => true
  | .int i => decide (i.natAbs.log2 < 1900)
  | .str _ => false
  | .tup xs => smAll xs
  | .ref _ => false
  | .ktp _ => false
def smAll : List D → Bool
  | [] => true
  | x :: xs => sm x && smAll xs
end
mutual
theorem toPy_sm (st : Store) : ∀ (d : D) (n : Nat), sm d = true → dep d ≤ n → toPy st n d = some (py d)
  | .non, n, _, _ => by cases n <;> rfl
  | .bl b, n, _, _ => by cases n <;> rfl
  | .int i, n, _, _ => by cases n <;> rfl
  | .str s, n, h, _ => by simp [sm] at h
  | .tup xs, n, h, hd => by
    cases n with
    | zero => simp [dep] at hd
    | succ n =>
      have h1 := toPyAll_sm st xs n (by simpa only [sm] using h) (by simp only [dep] at hd; omega)
      show (mapO (toPy st n) xs).map PyData.tuple = _
      rw [h1]
      simp only [py, Option.map_some]
  | .ref r, n, h, _ => by simp [sm] at h
  | .ktp r, n, h, _ => by simp [sm] at h
theorem toPyAll_sm (st : Store) : ∀ (ds : List D) (n : Nat), smAll ds = true → depAll ds ≤ n → mapO (toPy st n) ds = some (pyAll ds)
  | [], n, _, _ => by simp only [mapO, pyAll]
  | d :: ds, n, h, hd => by
    simp only [smAll, Bool.and_eq_true] at h
    simp only [depAll] at hd
    simp only [mapO, pyAll]
    rw [toPy_sm st d n h.1 (by omega), toPyAll_sm st ds n h.2 (by omega)]
end
mutual
theorem canLay_sm : ∀ d : D, sm d = true → (py d).canLay0 = true
  | .non, _ => by simp only [py, PyData.canLay0]
  | .bl _, _ => by simp only [py, PyData.canLay0]
  | .int _, _ => by simp only [py, PyData.canLay0]
  | .str _, h => by simp [sm] at h
  | .tup xs, h => by
    simp only [py, PyData.canLay0]
    exact canLayAll_sm xs (by simpa only [sm] using h)
  | .ref _, h => by simp [sm] at h
  | .ktp _, h => by simp [sm] at h
theorem canLayAll_sm : ∀ ds : List D, smAll ds = true → PyData.canLayAll0 (pyAll ds) = true
  | [], _ => by simp only [pyAll, PyData.canLayAll0]
  | d :: ds, h => by
    simp only [smAll, Bool.and_eq_true] at h
    simp only [pyAll, PyData.canLayAll0, Bool.and_eq_true]
    exact ⟨canLay_sm d h.1, canLayAll_sm ds h.2⟩
end
mutual
theorem dep_py : ∀ d : D, sm d = true → (py d).depth = dep d
  | .non, _ => by simp only [py, PyData.depth, dep]
  | .bl _, _ => by simp only [py, PyData.depth, dep]
  | .int _, _ => by simp only [py, PyData.depth, dep]
  | .str _, h => by simp [sm] at h
  | .tup xs, h => by
    simp only [py, PyData.depth, dep]
    rw [depAll_py xs (by simpa only [sm] using h)]
  | .ref _, h => by simp [sm] at h
  | .ktp _, h => by simp [sm] at h
theorem depAll_py : ∀ ds : List D, smAll ds = true → PyData.depthAll (pyAll ds) = depAll ds
  | [], _ => by simp only [pyAll, PyData.depthAll, depAll]
  | d :: ds, h => by
    simp only [smAll, Bool.and_eq_true] at h
    simp only [pyAll, PyData.depthAll, depAll]
    rw [dep_py d h.1, depAll_py ds h.2]
end
mutual
theorem show_sm : ∀ d : D, sm d = true → (py d).showable = true
  | .non, _ => by simp only [py, PyData.showable]
  | .bl _, _ => by simp only [py, PyData.showable]
  | .int i, h => by
    simp only [sm, decide_eq_true_eq] at h
    simp only [py, PyData.showable, decide_eq_true_eq]
    omega
  | .str _, h => by simp [sm] at h
  | .tup xs, h => by
    simp only [py, PyData.showable]
    exact showAll_sm xs (by simpa only [sm] using h)
  | .ref _, h => by simp [sm] at h
  | .ktp _, h => by simp [sm] at h
theorem showAll_sm : ∀ ds : List D, smAll ds = true → PyData.showableAll (pyAll ds) = true
  | [], _ => by simp only [pyAll, PyData.showableAll]
  | d :: ds, h => by
    simp only [smAll, Bool.and_eq_true] at h
    simp only [pyAll, PyData.showableAll, Bool.and_eq_true]
    exact ⟨show_sm d h.1, showAll_sm ds h.2⟩
end
theorem log_pow {i : Int} (h : i.natAbs.log2 < 1900) : i.natAbs < 10 ^ 573 := by
  by_cases h0 : i.natAbs = 0
  · rw [h0]; exact Nat.pow_pos (by decide)
  · exact Nat.lt_of_lt_of_le ((Nat.log2_lt h0).mp h) (by decide +kernel)
mutual
theorem short_sm : ∀ d : D, sm d = true → (py d).leavesShort 574 = true
  | .non, _ => by simp only [py, PyData.leavesShort]
  | .bl _, _ => by simp only [py, PyData.leavesShort]
  | .int i, h => by
    simp only [sm, decide_eq_true_eq] at h
    simp only [py, PyData.leavesShort, decide_eq_true_eq]
    have e := int_text_length_le10 (k := 573) (by decide) (log_pow h)
    show (Str.ofString (toString i)).length ≤ 574
    rw [PySem.ofString_length]; exact e
  | .str _, h => by simp [sm] at h
  | .tup xs, h => by
    simp only [py, PyData.leavesShort]
    exact shortAll_sm xs (by simpa only [sm] using h)
  | .ref _, h => by simp [sm] at h
  | .ktp _, h => by simp [sm] at h
theorem shortAll_sm : ∀ ds : List D, smAll ds = true → PyData.leavesShortAll 574 (pyAll ds) = true
  | [], _ => by simp only [pyAll, PyData.leavesShortAll]
  | d :: ds, h => by
    simp only [smAll, Bool.and_eq_true] at h
    simp only [pyAll, PyData.leavesShortAll, Bool.and_eq_true]
    exact ⟨short_sm d h.1, shortAll_sm ds h.2⟩
end
mutual
theorem bulk_sm : ∀ d : D, sm d = true → (py d).bulk ≤ cnt d
  | .non, _ => by simp only [py, PyData.bulk]; omega
  | .bl _, _ => by simp only [py, PyData.bulk]; omega
  | .int i, h => by simp only [py, PyData.bulk]; omega
  | .str _, h => by simp [sm] at h
  | .tup xs, h => by
    simp only [py, PyData.bulk, cnt]
    exact bulkAll_sm xs (by simpa only [sm] using h)
  | .ref _, h => by simp [sm] at h
  | .ktp _, h => by simp [sm] at h
theorem bulkAll_sm : ∀ ds : List D, smAll ds = true → PyData.bulkAll (pyAll ds) ≤ cntAll ds
  | [], _ => by simp only [pyAll, PyData.bulkAll]; omega
  | d :: ds, h => by
    simp only [smAll, Bool.and_eq_true] at h
    simp only [pyAll, PyData.bulkAll, cntAll]
    have h1 := bulk_sm d h.1
    have h2 := bulkAll_sm ds h.2
    omega
end
/-- small enough to be shown -/
def Sm (d : D) : Prop := sm d = true ∧ dep d ≤ 32 ∧ cnt d ≤ 20000
theorem Sm.repr {d : D} (h : Sm d) : ReprOk (py d) := by
  obtain ⟨h1, h2, h3⟩ := h
  have hw := bulk_sm d h1
  have hs := PyData.shown_le_bulk 574 (by decide) (py d) (short_sm d h1)
  refine ⟨show_sm d h1, PyData.hasDict_of_canLay _ (canLay_sm d h1), by rw [dep_py d h1]; exact h2, ?_⟩
  rw [sizeLine_eq]
  omega
theorem Sm.toPy {d : D} (h : Sm d) (st : Store) : Cb.toPy st 32 d = some (py d) := toPy_sm st d 32 h.1 h.2.1
theorem Sm.shaped {d : D} (h : Sm d) : SeqAt.shaped (py d) = true := by
  unfold SeqAt.shaped
  rw [canLay_sm d h.1, dep_py d h.1, Bool.true_and, decide_eq_true_eq]
  have := h.2.1
  omega
theorem bl_repr {d : D} {st : Store} {Q : K1} (h : Sm d) (q : Q (.str (rep d)) st) : bltS .repr [d] st Q := ⟨d, _, rfl, h.toPy st, h.repr, q⟩
theorem Sm.int {i : Int} (h : i.natAbs.log2 < 1900) : Sm (.int i) := ⟨by simpa [sm] using h, by simp [dep], by simp [cnt]⟩
mutual
/-- whole numbers and tuples of such -/
def pl : D → Bool
  | .int i => true
  | .tup xs => plAll xs
  | .non => false
  | .bl _ => false
  | .str _ => false
  | .ref _ => false
  | .ktp _ => false
def plAll : List D → Bool
  | [] => true
  | x :: xs => pl x && plAll xs
end
mutual
theorem toPy_pl (st : Store) : ∀ (d : D) (n : Nat), pl d = true → dep d ≤ n → Cb.toPy st n d = some (py d)
  | .int i, n, _, _ => by cases n <;> rfl
  | .tup xs, n, h, hd => by
    simp only [dep] at hd
    match n, hd with
    | n + 1, hd =>
      show (mapO (Cb.toPy st n) xs).map _ = _
      rw [toPyAll_pl st xs n (by simpa only [pl] using h) (by omega)]
      simp only [py, Option.map_some]
  | .non, _, h, _ => by simp [pl] at h
  | .bl _, _, h, _ => by simp [pl] at h
  | .str _, _, h, _ => by simp [pl] at h
  | .ref _, _, h, _ => by simp [pl] at h
  | .ktp _, _, h, _ => by simp [pl] at h
theorem toPyAll_pl (st : Store) : ∀ (ds : List D) (n : Nat), plAll ds = true → depAll ds ≤ n → mapO (Cb.toPy st n) ds = some (pyAll ds)
  | [], _, _, _ => by simp only [mapO, pyAll]
  | d :: ds, n, h, hd => by
    simp only [plAll, Bool.and_eq_true] at h
    simp only [depAll] at hd
    simp only [mapO, toPy_pl st d n h.1 (by omega), toPyAll_pl st ds n h.2 (by omega), pyAll]
end
mutual
theorem canLay_pl : ∀ d : D, pl d = true → PyData.canLay0 (py d) = true
  | .int _, _ => by simp only [py, PyData.canLay0]
  | .tup xs, h => by
    simp only [py, PyData.canLay0]
    exact canLayAll_pl xs (by simpa only [pl] using h)
  | .non, h => by simp [pl] at h
  | .bl _, h => by simp [pl] at h
  | .str _, h => by simp [pl] at h
  | .ref _, h => by simp [pl] at h
  | .ktp _, h => by simp [pl] at h
theorem canLayAll_pl : ∀ ds : List D, plAll ds = true → PyData.canLayAll0 (pyAll ds) = true
  | [], _ => by simp only [pyAll, PyData.canLayAll0]
  | d :: ds, h => by
    simp only [plAll, Bool.and_eq_true] at h
    simp only [pyAll, PyData.canLayAll0, Bool.and_eq_true]
    exact ⟨canLay_pl d h.1, canLayAll_pl ds h.2⟩
end
mutual
theorem dep_pl : ∀ d : D, pl d = true → (py d).depth = dep d
  | .int _, _ => by simp only [py, PyData.depth, dep]
  | .tup xs, h => by
    simp only [py, PyData.depth, dep]
    rw [depAll_pl xs (by simpa only [pl] using h)]
  | .non, h => by simp [pl] at h
  | .bl _, h => by simp [pl] at h
  | .str _, h => by simp [pl] at h
  | .ref _, h => by simp [pl] at h
  | .ktp _, h => by simp [pl] at h
theorem depAll_pl : ∀ ds : List D, plAll ds = true → PyData.depthAll (pyAll ds) = depAll ds
  | [], _ => by simp only [pyAll, PyData.depthAll, depAll]
  | d :: ds, h => by
    simp only [plAll, Bool.and_eq_true] at h
    simp only [pyAll, PyData.depthAll, depAll]
    rw [dep_pl d h.1, depAll_pl ds h.2]
end
theorem shaped_pl {d : D} (h : pl d = true) (hd : dep d ≤ 32) : SeqAt.shaped (py d) = true := by
  unfold SeqAt.shaped
  rw [canLay_pl d h, dep_pl d h, Bool.true_and, decide_eq_true_eq]
  omega
mutual
theorem eqv_pl : ∀ x y : D, pl x = true → pl y = true → (PyData.eqv (py x) (py y) = true ↔ x = y)
  | .int i, .int j, _, _ => by simp [py, PyData.eqv]
  | .int i, .tup ys, _, _ => by simp [py, PyData.eqv]
  | .tup xs, .int j, _, _ => by simp [py, PyData.eqv]
  | .tup xs, .tup ys, h1, h2 => by
    simp only [py, PyData.eqv, D.tup.injEq]
    exact eqvAll_pl xs ys (by simpa only [pl] using h1) (by simpa only [pl] using h2)
  | .non, _, h, _ => by simp [pl] at h
  | .bl _, _, h, _ => by simp [pl] at h
  | .str _, _, h, _ => by simp [pl] at h
  | .ref _, _, h, _ => by simp [pl] at h
  | .ktp _, _, h, _ => by simp [pl] at h
  | .int _, .non, _, h => by simp [pl] at h
  | .int _, .bl _, _, h => by simp [pl] at h
  | .int _, .str _, _, h => by simp [pl] at h
  | .int _, .ref _, _, h => by simp [pl] at h
  | .tup _, .non, _, h => by simp [pl] at h
  | .tup _, .bl _, _, h => by simp [pl] at h
  | .tup _, .str _, _, h => by simp [pl] at h
  | .tup _, .ref _, _, h => by simp [pl] at h
theorem eqvAll_pl : ∀ xs ys : List D, plAll xs = true → plAll ys = true → (PyData.eqvAll (pyAll xs) (pyAll ys) = true ↔ xs = ys)
  | [], [], _, _ => by simp [pyAll, PyData.eqvAll]
  | [], y :: ys, _, _ => by simp [pyAll, PyData.eqvAll]
  | x :: xs, [], _, _ => by simp [pyAll, PyData.eqvAll]
  | x :: xs, y :: ys, h1, h2 => by
    simp only [plAll, Bool.and_eq_true] at h1 h2
    simp only [pyAll, PyData.eqvAll, Bool.and_eq_true, List.cons.injEq]
    rw [eqv_pl x y h1.1 h2.1, eqvAll_pl xs ys h1.2 h2.2]
end
theorem plAll_map {α : Type} {f : α → D} : ∀ {xs : List α}, (∀ x ∈ xs, pl (f x) = true) → plAll (xs.map f) = true
  | [], _ => by simp only [List.map_nil, plAll]
  | x :: xs, h => by
    simp only [List.map_cons, plAll, Bool.and_eq_true]
    exact ⟨h x (by simp), plAll_map fun y hy => h y (by simp [hy])⟩
theorem c_eqP {x y : D} {st : Store} {Q : K1} (ht : ∃ xs, x = .tup xs) (px : pl x = true) (py' : pl y = true) (dx : dep x ≤ 32) (dy : dep y ≤ 32) (h : (x = y → Q (.bl true) st) ∧ (x ≠ y → Q (.bl false) st)) : cmpS .eq x y st Q := by
  obtain ⟨xs, rfl⟩ := ht
  refine ⟨_, c_eqU (by cases y <;> trivial) (toPy_pl st _ _ px dx) (toPy_pl st _ _ py' dy) (by rw [shaped_pl px dx, shaped_pl py' dy]; rfl), ?_⟩
  by_cases e : D.tup xs = y
  · rw [(eqv_pl _ _ px py').mpr e]
    exact h.1 e
  · rw [Bool.eq_false_iff.mpr fun z => e ((eqv_pl _ _ px py').mp z)]
    exact h.2 e
theorem c_neP {x y : D} {st : Store} {Q : K1} (ht : ∃ xs, x = .tup xs) (px : pl x = true) (py' : pl y = true) (dx : dep x ≤ 32) (dy : dep y ≤ 32) (h : (x = y → Q (.bl false) st) ∧ (x ≠ y → Q (.bl true) st)) : cmpS .ne x y st Q := by
  obtain ⟨xs, rfl⟩ := ht
  refine ⟨_, c_eqU (by cases y <;> trivial) (toPy_pl st _ _ px dx) (toPy_pl st _ _ py' dy) (by rw [shaped_pl px dx, shaped_pl py' dy]; rfl), ?_⟩
  by_cases e : D.tup xs = y
  · rw [(eqv_pl _ _ px py').mpr e]
    exact h.1 e
  · rw [Bool.eq_false_iff.mpr fun z => e ((eqv_pl _ _ px py').mp z)]
    exact h.2 e
end Cb.Big

namespace Cb
open PySem PySem.Spec PyProof.Rows L2
/-! ### fractions as rational numbers -/
theorem log2_mono {a b : Nat} (h : a ≤ b) : a.log2 ≤ b.log2 := by
  by_cases ha : a = 0
  · subst ha
    exact Nat.zero_le _
  · have h1 : b < 2 ^ (b.log2 + 1) := (Nat.log2_lt (by omega)).mp (Nat.lt_succ_self _)
    have h2 := (Nat.log2_lt ha).mpr (Nat.lt_of_le_of_lt h h1)
    omega
theorem log2_mul (a b : Nat) : (a * b).log2 ≤ a.log2 + b.log2 + 1 := by
  by_cases ha : a = 0
  · subst ha
    simp
  by_cases hb : b = 0
  · subst hb
    simp
  have h1 : a < 2 ^ (a.log2 + 1) := (Nat.log2_lt ha).mp (Nat.lt_succ_self _)
  have h2 : b < 2 ^ (b.log2 + 1) := (Nat.log2_lt hb).mp (Nat.lt_succ_self _)
  have h3 : a * b < 2 ^ (a.log2 + 1 + (b.log2 + 1)) := by
    rw [Nat.pow_add]
    exact Nat.mul_lt_mul'' h1 h2
  have := (Nat.log2_lt (Nat.mul_ne_zero ha hb)).mpr h3
  omega
theorem log2_add (a b : Nat) : (a + b).log2 ≤ max a.log2 b.log2 + 1 := by
  have h1 : a + b ≤ max a b * 2 := by omega
  have h2 := log2_mono h1
  have h3 := log2_mul (max a b) 2
  have e : (2 : Nat).log2 = 1 := by decide
  by_cases ha : max a b = 0
  · have : a + b = 0 := by omega
    rw [this]
    simp
  have h4 : max a b < 2 ^ ((max a b).log2 + 1) := (Nat.log2_lt ha).mp (Nat.lt_succ_self _)
  have h5 : a + b < 2 ^ ((max a b).log2 + 1 + 1) := by
    rw [Nat.pow_succ]
    omega
  by_cases h0 : a + b = 0
  · rw [h0]
    simp
  have h6 := (Nat.log2_lt h0).mpr h5
  have h7 : (max a b).log2 = max a.log2 b.log2 := by
    rcases Nat.le_total a b with h | h
    · rw [Nat.max_eq_right h, Nat.max_eq_right (log2_mono h)]
    · rw [Nat.max_eq_left h, Nat.max_eq_left (log2_mono h)]
  omega
theorem log2_pow2 (k : Nat) : (2 ^ k).log2 = k := Nat.log2_two_pow
/-- the length of a whole number -/
def il (i : Int) : Nat := i.natAbs.log2
theorem il_mul (a b : Int) : il (a * b) ≤ il a + il b + 1 := by
  unfold il
  rw [Int.natAbs_mul]
  exact log2_mul _ _
theorem il_add (a b : Int) : il (a + b) ≤ max (il a) (il b) + 1 := by
  unfold il
  exact Nat.le_trans (log2_mono (Int.natAbs_add_le a b)) (log2_add _ _)
theorem il_nat (n : Nat) : il (n : Int) = n.log2 := by unfold il; simp
theorem il_neg (a : Int) : il (-a) = il a := by unfold il; simp
theorem div_okB {i j : Int} (h : 0 < j) (h2 : il j < 9000) : DivOk i j := ⟨h, PyProof.noPylong_of_log2 h2⟩
theorem mul_okB {a b : Int} (h1 : il a < 100000) (h2 : il b < 100000) : IntMulOk a b := by
  have e : ∀ x : Int, Builtin.Int.intBits x ≤ il x + 1 := fun x => by
    unfold Builtin.Int.intBits il
    split <;> omega
  have := e a
  have := e b
  unfold IntMulOk
  have hb : Builtin.Int.intTooBig ((Builtin.Int.intBits a + Builtin.Int.intBits b : Nat) : Int) = false := by
    unfold Builtin.Int.intTooBig
    rw [decide_eq_false]
    have : (1000000 : Int) ≤ (bitsLine : Nat) := by decide +kernel
    omega
  have hb' : Builtin.Int.intTooBig ((Builtin.Int.intBits a : Int) + (Builtin.Int.intBits b : Int)) = false := by
    rw [← Int.natCast_add]
    exact hb
  simp [hb']
/-- a rational number as the program has it -/
def frR (x : Rat) : D := .tup [.int x.num, .int (x.den : Nat)]
theorem frR_mk (a : Int) {b : Nat} (hb : 0 < b) : D.tup [.int (a / (Nat.gcd a.natAbs b : Nat)), .int (b / Nat.gcd a.natAbs b : Nat)] = frR (mkRat a b) := by
  have e : mkRat a b = Rat.normalize a b (by omega) := by
    unfold mkRat
    rw [dif_neg (by omega)]
  unfold frR
  rw [e, Rat.normalize_eq]
theorem frR_inj {x y : Rat} : frR x = frR y ↔ x = y := by
  constructor
  · intro h
    unfold frR at h
    injection h with h
    simp at h
    exact Rat.ext h.1 (by exact_mod_cast h.2)
  · rintro rfl
    rfl
/-- no more than k bits above and below -/
structure RB (k : Nat) (x : Rat) : Prop where
  n : il x.num < k
  d : x.den.log2 < k
theorem pl_frR {x : Rat} : Big.pl (frR x) = true := by simp [frR, Big.pl, Big.plAll]
theorem dep_frR {x : Rat} : dep (frR x) ≤ 1 := by simp [frR, dep, depAll]
theorem sm_frR {x : Rat} (h : RB 1900 x) : Big.Sm (frR x) := by
  refine ⟨?_, ?_, ?_⟩
  · simp [frR, Big.sm, Big.smAll]
    exact ⟨h.n, h.d⟩
  · simp [frR, dep, depAll]
  · simp [frR, cnt, cntAll]
theorem low_wpsR {F : Fm} {f : Nat} (hf : ∀ (a : Int) (b : Nat) (st : Store) (Q : K1), Q (.int (Nat.gcd a.natAbs b : Nat)) st → F f [.int a, .int b] st Q) {a : Int} {b : Nat} {st : Store} {E : EndsD} (hb : 0 < b) (hb2 : b.log2 < 9000)
    (q : E.rt (frR (mkRat a b)) st) : wps F (lowC f) [some (.int a), some (.int b), none] st E := by
  have hg : 0 < Nat.gcd a.natAbs b := Nat.gcd_pos_of_pos_right _ hb
  have hg2 : Nat.gcd a.natAbs b ≤ b := Nat.gcd_le_right _ hb
  have hg3 : il ((Nat.gcd a.natAbs b : Nat) : Int) < 9000 := by
    rw [il_nat]
    exact Nat.lt_of_le_of_lt (log2_mono hg2) hb2
  rw [← frR_mk a hb] at q
  unfold lowC
  refine seq_i fun X hX => ?_
  simp [permN, permL]
  refine hf _ _ _ _ (hX _ _ ?_)
  simp [wps_seq]
  exact ⟨div_okB (by omega) hg3, div_okB (by omega) hg3, q⟩
theorem add_mk (x y : Rat) : x + y = mkRat (x.num * y.den + y.num * x.den) (x.den * y.den) := by
  rw [Rat.add_def]
  unfold mkRat
  rw [dif_neg (Nat.mul_ne_zero x.den_nz y.den_nz)]
theorem mul_mk (x y : Rat) : x * y = mkRat (x.num * y.num) (x.den * y.den) := by
  rw [Rat.mul_def]
  unfold mkRat
  rw [dif_neg (Nat.mul_ne_zero x.den_nz y.den_nz)]
theorem den_pos (x : Rat) : 0 < x.den := Nat.pos_of_ne_zero x.den_nz
theorem plus_wpsR {F : Fm} {f : Nat} {x y : Rat} (hx : RB 4000 x) (hy : RB 4000 y) {st : Store} {E : EndsD} (q : F f [.int (x.num * y.den + y.num * x.den), .int ((x.den * y.den : Nat) : Int)] st E.rt) : wps F (plusC f) [some (frR x), some (frR y)] st E := by
  have e1 := il_nat x.den
  have e2 := il_nat y.den
  have := hx.n
  have := hx.d
  have := hy.n
  have := hy.d
  unfold plusC
  simp [wps_seq, permN, permL, frR]
  rw [Int.natCast_mul] at q
  exact ⟨mul_okB (by omega) (by omega), mul_okB (by omega) (by omega), mul_okB (by omega) (by omega), q⟩
/-- x lies on the grid of the N-th parts -/
def Grid (N : Nat) (x : Rat) : Prop := ∃ a : Int, x = mkRat a N
theorem Grid.add {N : Nat} (hN : 0 < N) {x y : Rat} (hx : Grid N x) (hy : Grid N y) : Grid N (x + y) := by
  obtain ⟨a, rfl⟩ := hx
  obtain ⟨b, rfl⟩ := hy
  refine ⟨a + b, ?_⟩
  rw [Rat.mkRat_add_mkRat _ _ (by omega) (by omega), Rat.mkRat_eq_iff (Nat.mul_ne_zero (by omega) (by omega)) (by omega)]
  rw [Int.natCast_mul]
  grind
theorem Grid.mul {N M : Nat} (hN : 0 < N) (hM : 0 < M) {x y : Rat} (hx : Grid N x) (hy : Grid M y) : Grid (N * M) (x * y) := by
  obtain ⟨a, rfl⟩ := hx
  obtain ⟨b, rfl⟩ := hy
  exact ⟨a * b, by rw [Rat.mkRat_mul_mkRat]⟩
theorem Grid.up {N M : Nat} (hN : 0 < N) (hM : 0 < M) {x : Rat} (hx : Grid N x) : Grid (N * M) x := by
  obtain ⟨a, rfl⟩ := hx
  refine ⟨a * M, ?_⟩
  rw [Rat.mkRat_eq_iff (by omega) (Nat.mul_ne_zero (by omega) (by omega)), Int.natCast_mul]
  grind
theorem Grid.zero {N : Nat} : Grid N 0 := ⟨0, by simp⟩
theorem den_dvd {N : Nat} (hN : 0 < N) {x : Rat} (hx : Grid N x) : x.den ∣ N := by
  obtain ⟨a, rfl⟩ := hx
  have h := frR_mk a hN
  unfold frR at h
  injection h with h
  simp at h
  have e : (mkRat a N).den = N / Nat.gcd a.natAbs N := by
    have := h.2
    rw [← Int.natCast_ediv] at this
    exact_mod_cast this.symm
  rw [e]
  exact Nat.div_dvd_of_dvd (Nat.gcd_dvd_right _ _)
theorem RB.grid {N k : Nat} (hN : 0 < N) {x : Rat} (h0 : 0 ≤ x) (h1 : x ≤ 1) (hx : Grid N x) (hk : N.log2 < k) : RB k x := by
  have hd := Nat.le_of_dvd hN (den_dvd hN hx)
  have h2 : x.num ≤ x.den := by
    have := (Rat.le_iff x 1).mp h1
    simpa using this
  have h3 : 0 ≤ x.num := by
    have := (Rat.le_iff 0 x).mp h0
    simpa using this
  have hl := log2_mono hd
  refine ⟨?_, by omega⟩
  unfold il
  have : x.num.natAbs ≤ x.den := by omega
  have := log2_mono this
  omega
theorem RB.mono {j k : Nat} {x : Rat} (h : RB j x) (hk : j ≤ k) : RB k x := ⟨by have := h.n; omega, by have := h.d; omega⟩
end Cb

namespace Cb.K59
open PySem PySem.Spec PyProof.Rows L2
variable {k : Nat} {st : Store} {Q : K1}
section
variable {m : List Stt} {w p a n nn : Nat} {bits : List Int} {l z v : Int}
theorem set_chain {x y : Cell} {st0 : Store} (h : ∀ c, st.set n c = st0.set n c) : ∀ c, (st.set n x).set n c = st0.set n c := fun c => by rw [List.set_set]; exact h c
theorem get_cell {x : Cell} (h : n < st.length) : (st.set n x)[n]? = some x := List.getElem?_set_self h
theorem init_ok {q0 : Int} (hw : Wd w q0) (h : st[n]? = some (.ins kReader [])) (hl : bits.length ≤ 1000) (q : Q .non (st.set n (rdC m w bits w 0 0 (4 * q0) (num (sAt bits) w)))) : F (k + 2) 50 [.ref n, modD m, .int (w : Nat), ti bits] st Q := by
  have hb := hw.b
  have h3 := hw.hw
  have hn := (List.getElem?_eq_some_iff.mp h).1
  refine run_step (fd := ⟨4, 5, b50⟩) rfl rfl ?_
  unfold b50
  let fs : List (Str × D) := rdF m w bits 0 0 0 (4 * q0) 0
  have hlen : ∀ j, (fs.take j).length < 1000 := fun j => by
    rw [List.length_take]
    have : fs.length = 8 := rfl
    omega
  -- one attribute more
  have step : ∀ (j : Nat) (f : Str) (d : D) (Q : Store → Prop) (st' : Store), (fs.take (j + 1)) = putFD f d (fs.take j) → f ∈ kReader.names → n < st'.length → st'[n]? = some (.ins kReader (fs.take j)) → (∀ c, st'.set n c = st.set n c) → (∀ st2, n < st2.length → st2[n]? = some (.ins kReader (fs.take (j + 1))) → (∀ c, st2.set n c = st.set n c) → Q st2) → sfdS (.ref n) f d st' Q := fun j f d Q st' e hf hlt hg hs hq => by
    refine sfdR hg hf (hlen j) ?_
    rw [← e]
    exact hq _ (by simpa using hlt) (get_cell hlt) fun c => by rw [List.set_set]; exact hs c
  refine seq_i fun X1 hX1 => ?_
  simp [startD]
  refine step 0 _ _ _ st rfl (by decide +kernel) hn h (fun _ => rfl) fun st1 l1 g1 s1 => ?_
  refine hX1 _ _ (seq_i fun X2 hX2 => ?_)
  simp
  refine step 1 _ _ _ st1 rfl (by decide +kernel) l1 g1 s1 fun st2 l2 g2 s2 => ?_
  refine hX2 _ _ (seq_i fun X3 hX3 => ?_)
  simp
  refine step 2 _ _ _ st2 rfl (by decide +kernel) l2 g2 s2 fun st3 l3 g3 s3 => ?_
  refine hX3 _ _ (seq_i fun X4 hX4 => ?_)
  simp
  refine step 3 _ _ _ st3 rfl (by decide +kernel) l3 g3 s3 fun st4 l4 g4 s4 => ?_
  refine hX4 _ _ (seq_i fun X5 hX5 => ?_)
  simp
  refine step 4 _ _ _ st4 rfl (by decide +kernel) l4 g4 s4 fun st5 l5 g5 s5 => ?_
  refine hX5 _ _ (seq_i fun X6 hX6 => ?_)
  simp
  refine step 5 _ _ _ st5 rfl (by decide +kernel) l5 g5 s5 fun st6 l6 g6 s6 => ?_
  refine hX6 _ _ (seq_i fun X7 hX7 => ?_)
  simp
  refine ⟨shl_ok (by omega) (by omega) (by omega), ?_⟩
  rw [hw.q0]
  refine step 6 _ _ _ st6 rfl (by decide +kernel) l6 g6 s6 fun st7 l7 g7 s7 => ?_
  refine hX7 _ _ (seq_i fun X8 hX8 => ?_)
  simp
  refine step 7 _ _ _ st7 rfl (by decide +kernel) l7 g7 s7 fun st8 l8 g8 s8 => ?_
  refine hX8 _ _ (seq_i fun X9 hX9 => ?_)
  have g8' : st8[n]? = some (rdC m w bits 0 0 0 (4 * q0) (num (sAt bits) 0)) := g8
  simp
  rw [if_pos (small62_of (by omega))]
  simp
  refine for_rng (fun i ρ st' => n < st'.length ∧ st'[n]? = some (rdC m w bits i 0 0 (4 * q0) (num (sAt bits) i)) ∧ (∀ c, st'.set n c = st.set n c) ∧ ∃ x4, ρ = [some (.ref n), some (modD m), some (.int (w : Nat)), some (ti bits), x4]) ⟨l8, g8', s8, none, rfl⟩ (fun i ρ st' Y hi ⟨hl', hg, hs, x4, e⟩ hY => ?_) (fun ρ st' ⟨hl', hg, hs, x4, e⟩ => ?_)
  · subst e
    refine ⟨_, rfl, ?_⟩
    simp [wps_seq]
    refine fldR hg f_value ?_
    simp
    refine ⟨mul_okL (by omega), ⟨_, hg⟩, ?_⟩
    refine next_ok (k := k) hg hl ?_
    have g2 := get_set (y := rdC m w bits (i + 1) 0 0 (4 * q0) (num (sAt bits) i)) hg
    have s2 : ∀ c, (st'.set n (rdC m w bits (i + 1) 0 0 (4 * q0) (num (sAt bits) i))).set n c = st.set n c := fun c => by rw [List.set_set]; exact hs c
    have l2 : n < (st'.set n (rdC m w bits (i + 1) 0 0 (4 * q0) (num (sAt bits) i))).length := by simpa using hl'
    generalize st'.set n (rdC m w bits (i + 1) 0 0 (4 * q0) (num (sAt bits) i)) = st2 at g2 s2 l2 ⊢
    simp
    refine sfdR g2 (by decide +kernel) len_rd ?_
    rw [p_value]
    exact hY _ _ ⟨by simpa using l2, get_cell l2, fun c => by rw [List.set_set]; exact s2 c, _, rfl⟩
  · subst e
    refine hX9 _ _ ?_
    simp
    have : st' = st.set n (rdC m w bits w 0 0 (4 * q0) (num (sAt bits) w)) := by
      rw [← hs]
      obtain ⟨h1, h2⟩ := List.getElem?_eq_some_iff.mp hg
      rw [← h2]
      exact (List.set_getElem_self h1).symm
    rw [this]
    exact q
theorem num_in {s : Nat → Int} (hs : Bs s) {q0 : Int} (hw : Wd w q0) : In 0 (4 * q0) (num s w) := by
  obtain ⟨r, h1, h2, h3⟩ := num_more hs 0 w
  have e : num s 0 = 0 := rfl
  rw [Nat.zero_add, e, Int.zero_mul, Int.zero_add] at h1
  rw [hw.q0] at h3
  unfold In
  omega
theorem raw_read_ok {q0 : Int} {kk : Nat} (hm : Mok nn m) (hf : Fit q0 m) (hw : Wd w q0) (hl : bits.length ≤ 1000) (hbs : Bits bits) (hk : kk ≤ 1000) (q : ∀ os more, os.length = kk → Dc m q0 (sAt bits) 0 0 (4 * q0) (num (sAt bits) w) w os → Q (rowD os) (st ++ more)) : F (k + 7) 30 [modD m, .int (w : Nat), ti bits, .int (kk : Nat)] st Q := by
  have hb := hw.b
  have h8 := hm.len
  refine run_step (fd := ⟨4, 6, b30⟩) rfl rfl ?_
  unfold b30
  refine seq_i fun X hX => ?_
  simp [startD]
  refine init_ok (k := k + 4) (n := st.length) hw (by simp) hl ?_
  rw [List.set_append_right _ _ (Nat.le_refl _), Nat.sub_self]
  show _ ∧ _
  refine ⟨rfl, hX _ _ ?_⟩
  clear hX X
  have g0 : (st ++ [rdC m w bits w 0 0 (4 * q0) (num (sAt bits) w)])[st.length]? = some (rdC m w bits w 0 0 (4 * q0) (num (sAt bits) w)) := by simp
  have x0 : ∃ c, st ++ [rdC m w bits w 0 0 (4 * q0) (num (sAt bits) w)] = st ++ [c] := ⟨_, rfl⟩
  change wps _ _ _ (st ++ [rdC m w bits w 0 0 (4 * q0) (num (sAt bits) w)]) _
  generalize st ++ [rdC m w bits w 0 0 (4 * q0) (num (sAt bits) w)] = st1 at g0 x0 ⊢
  simp [wps_seq]
  rw [if_pos (small62_of (by omega))]
  simp
  refine lc_rng (fun i acc st' => ∃ (os : List Nat) (b p' : Nat) (l' z' v' : Int), acc = os.map nd ∧ os.length = i ∧ st'[st.length]? = some (rdC m w bits p' b l' z' v') ∧ (∃ c, st' = st ++ [c]) ∧ b < m.length ∧ Rg q0 l' z' ∧ q0 < z' ∧ In l' z' v' ∧ ∀ qs, Dc m q0 (sAt bits) b l' z' v' p' qs → Dc m q0 (sAt bits) 0 0 (4 * q0) (num (sAt bits) w) w (os ++ qs)) ⟨[], 0, w, 0, 4 * q0, num (sAt bits) w, rfl, rfl, g0, x0, by omega, by unfold Rg; omega, by omega, num_in (sAt_bs hbs) hw, fun qs h => h⟩ (fun i acc st' Z hi ⟨os, b, p', l', z', v', e1, e2, hg, ⟨c, hc⟩, hbm, hr, hz, hv, hd⟩ hZ => ?_) (fun acc st' ⟨os, b, p', l', z', v', e1, e2, hg, ⟨c, hc⟩, hbm, hr, hz, hv, hd⟩ => ?_)
  · subst e1
    refine ⟨_, rfl, ?_⟩
    simp [wipeD]
    refine ⟨⟨_, hg⟩, outcome_ok (k := k) hm hf hw hbm hg hl hr hz hv hbs fun o b2 l2 z2 v2 p2 hdc hb2 hr2 hz2 hv2 => ?_⟩
    refine ⟨by omega, hZ _ _ ⟨os ++ [o], b2, p2, l2, z2, v2, by simp [nd], by simp [e2], get_set hg, ?_, hb2, hr2, hz2, hv2, fun qs h => ?_⟩⟩
    · rw [hc, List.set_append_right _ _ (Nat.le_refl _), Nat.sub_self]
      exact ⟨_, rfl⟩
    · rw [List.append_assoc]
      exact hd _ (hdc qs h)
  · subst e1
    rw [bl_tupL get_last, hc, List.append_assoc]
    have := q os ([c] ++ [Cell.lst (os.map nd)]) e2 (by simpa using hd [] .nil)
    have er : rowD os = D.tup (os.map nd) := by simp [rowD, ti, nd, Function.comp_def]
    rw [er] at this
    simpa using this
theorem way_read_ok {q0 : Int} {kk : Nat} (hm : Mok nn m) (hf : Fit q0 m) (hw : Wd w q0) (hl : bits.length ≤ 1000) (hbs : Bits bits) (hk : kk ≤ 1000) (q : ∀ os more, os.length = kk → Dc m q0 (sAt bits) 0 0 (4 * q0) (num (sAt bits) w) w os → Q (rowD os) (st ++ more)) : F (k + 10) 34 [modD m, .int (w : Nat), ti bits, .int (kk : Nat)] st Q := by
  refine run_step (fd := ⟨4, 4, b34⟩) rfl rfl ?_
  unfold b34
  refine seq_i fun X hX => ?_
  simp [startD, permN, permL]
  refine need_width_ok (k := k) hm hw hf fun l1 => hX _ _ (seq_i fun X2 hX2 => ?_)
  simp [permN, permL]
  refine need_bits_ok (k := k + 4) hbs hl fun x => hX2 _ _ (seq_i fun X3 hX3 => ?_)
  simp [permN, permL]
  refine need_count_ok (k := k + 6) (hX3 _ _ ?_)
  simp [wps_seq, permN, permL]
  refine raw_read_ok (k := k + 2) hm hf hw hl hbs hk fun os more h1 h2 => ?_
  have := q os (l1 ++ ([x] ++ more)) h1 h2
  simpa using this
theorem own_is_way_ok {way : List Nat} (hm : Mok nn m) (hy : Wy m 0 way) (q : ∀ l, Q (.bl true) (st ++ l)) : F (k + 9) 35 [modD m, rowD way] st Q := by
  refine run_step (fd := ⟨2, 2, b35⟩) rfl rfl ?_
  unfold b35
  refine seq_i fun X hX => ?_
  simp [startD, permN, permL]
  refine need_model_ok (k := k) hm fun l1 => hX _ _ ?_
  simp [wps_seq, permN, permL]
  exact is_way_ok (k := k + 5) hm hy (q l1)
end
end Cb.K59

namespace Cb.K59
open PySem PySem.Spec PyProof.Rows L2
variable {k : Nat} {st : Store} {Q : K1}
/-! ### parts of a whole as rational numbers -/
def U (S : Nat) : Rat := mkRat 1 S
theorem U_mk (a : Int) {S : Nat} (hS : 0 < S) : mkRat a S = (a : Rat) * U S := by
  unfold U
  rw [Rat.mkRat_eq_div, Rat.mkRat_eq_div]
  grind
theorem U_one {S : Nat} (hS : 0 < S) : (S : Rat) * U S = 1 := by
  unfold U
  rw [Rat.mkRat_eq_div]
  have h : (S : Rat) ≠ 0 := by
    intro e
    have : (S : Rat) = ((0 : Nat) : Rat) := e
    have := Rat.natCast_inj.mp this
    omega
  grind
theorem U_pos {S : Nat} (hS : 0 < S) : 0 < U S := by
  have h1 := U_one hS
  refine Classical.byContradiction fun hn => ?_
  have h2 : U S ≤ 0 := by grind
  have h3 : (0 : Rat) ≤ (S : Rat) := Rat.natCast_nonneg
  have h4 := Rat.mul_le_mul_of_nonneg_left h2 h3
  grind
theorem lowR_ok {a : Int} {b : Nat} (hb : 0 < b) (hb2 : b.log2 < 9000) (q : Q (frR (mkRat a b)) st) : F (k + 2) 8 [.int a, .int (b : Nat)] st Q :=
  run_step (fd := ⟨2, 3, b8⟩) rfl rfl (low_wpsR (f := 5) (fun a b st Q q => divisor_ok q) hb hb2 q)
theorem timesR_ok {x y : Rat} (hx : RB 4000 x) (hy : RB 4000 y) (q : Q (frR (x * y)) st) : F (k + 3) 10 [frR x, frR y] st Q := by
  have e1 := il_nat x.den
  have e2 := il_nat y.den
  have := hx.n
  have := hx.d
  have := hy.n
  have := hy.d
  have := log2_mul x.den y.den
  refine run_step (fd := ⟨2, 2, b10⟩) rfl rfl ?_
  simp [b10, startD, wps_seq, permN, permL, frR]
  refine ⟨mul_okB (by omega) (by omega), mul_okB (by omega) (by omega), ?_⟩
  rw [mul_mk] at q
  rw [← Int.natCast_mul]
  exact lowR_ok (Nat.mul_pos (den_pos x) (den_pos y)) (by omega) q
/-- the first one is the constant 1 -/
theorem timesK_ok {y : Rat} (hy : RB 4000 y) (q : Q (frR (1 * y)) st) : F (k + 3) 10 [.ktp [.int 1, .int 1], frR y] st Q := by
  have e2 := il_nat y.den
  have := hy.n
  have := hy.d
  have l1 : il 1 < 100 := by decide +kernel
  refine run_step (fd := ⟨2, 2, b10⟩) rfl rfl ?_
  simp [b10, startD, wps_seq, permN, permL, frR]
  refine ⟨mul_okB (by omega) (by omega), mul_okB (by omega) (by omega), ?_⟩
  rw [Rat.one_mul] at q
  have e : mkRat y.num y.den = y := Rat.mkRat_self y
  rw [← e] at q
  exact lowR_ok (den_pos y) (by omega) (by simpa using q)
/-- an outcome's part of the register -/
def rho (ps : List Nat) (o P : Nat) (z : Int) : Rat := ((cB ps o P z - cA ps o z : Int) : Rat) * U z.toNat
/-- the register behind a way, what it has told, its real chance -/
inductive Gc (m : List Stt) (q : Int) : Nat → Int → Int → Nat → List Nat → Rat → Int → Int → Nat → List Int → Rat → Prop
  | nil {s : Nat} {l z : Int} {t : Nat} {c : Rat} : Gc m q s l z t [] c l z t [] c
  | cons {s o P s' : Nat} {S : Stt} {os : List Nat} {l z l1 z1 l2 z2 : Int} {t t1 t2 : Nat} {bs bs2 : List Int} {c c2 : Rat} : m[s]? = some S → S.ps[o]? = some P → S.fs[o]? = some s' → Nm q (l + cA S.ps o z) (cB S.ps o P z - cA S.ps o z) t l1 z1 t1 bs → Gc m q s' l1 z1 t1 os (c * rho S.ps o P z) l2 z2 t2 bs2 c2 → Gc m q s l z t (o :: os) c l2 z2 t2 (bs ++ bs2) c2
theorem Gc.fn {m : List Stt} {q : Int} {s : Nat} {os : List Nat} {l z l2 z2 l3 z3 : Int} {t t2 t3 : Nat} {bs bs' : List Int} {c c2 c3 : Rat} (h : Gc m q s l z t os c l2 z2 t2 bs c2) : Gc m q s l z t os c l3 z3 t3 bs' c3 → l2 = l3 ∧ z2 = z3 ∧ t2 = t3 ∧ bs = bs' ∧ c2 = c3 := by
  induction h generalizing bs' with
  | nil =>
    intro g
    cases g
    exact ⟨rfl, rfl, rfl, rfl, rfl⟩
  | cons a b c d _ ih =>
    intro g
    cases g with
    | cons a' b' c' d' e' =>
      rw [a] at a'
      cases a'
      rw [b] at b'
      cases b'
      rw [c] at c'
      cases c'
      obtain ⟨rfl, rfl, rfl, rfl⟩ := d.fn d'
      obtain ⟨h1, h2, h3, rfl, h5⟩ := ih e'
      exact ⟨h1, h2, h3, rfl, h5⟩
theorem Gc.gn {m : List Stt} {q : Int} {s : Nat} {os : List Nat} {l z l2 z2 : Int} {t t2 : Nat} {bs : List Int} {c c2 : Rat} (h : Gc m q s l z t os c l2 z2 t2 bs c2) : Gn m q s l z t os l2 z2 t2 bs := by
  induction h with
  | nil => exact .nil
  | cons a b c d _ ih => exact .cons a b c d ih
/-- a real chance, how fine -/
structure Ch (i : Nat) (c : Rat) : Prop where
  g : ∃ N, 0 < N ∧ N.log2 ≤ 18 * i ∧ Grid N c
  c0 : 0 < c
  c1 : c ≤ 1
theorem Ch.one : Ch 0 1 := ⟨⟨1, by decide, by decide, ⟨1, by decide +kernel⟩⟩, by decide +kernel, by decide +kernel⟩
theorem rho_ok {q l z : Int} {ps : List Nat} {o P : Nat} (hr : Rg q l z) (hz : q < z) (hq : q ≤ 16384) (hf : (ps.sum : Int) ≤ q + 1) (h1 : 1 ≤ ps.sum) (hP : ps[o]? = some P) (hp : 0 < P) : 0 < rho ps o P z ∧ rho ps o P z ≤ 1 ∧ Grid z.toNat (rho ps o P z) ∧ 0 < z.toNat ∧ z.toNat.log2 ≤ 16 := by
  have hc := cut_rg hr hz hf h1 hP hp
  have hb := cut_in (z := z) (by omega) (by unfold Rg at hr; omega) hP
  unfold Rg at hr hc
  have hN : 0 < z.toNat := by omega
  have hu := U_pos hN
  have h0 := U_one hN
  have e : ((z.toNat : Nat) : Int) = z := by omega
  have e1 : ((1 : Int) : Rat) = 1 := rfl
  refine ⟨?_, ?_, ⟨_, (U_mk _ hN).symm⟩, hN, ?_⟩
  · unfold rho
    refine Rat.mul_pos ?_ hu
    have : ((0 : Int) : Rat) < ((cB ps o P z - cA ps o z : Int) : Rat) := Rat.intCast_lt_intCast.mpr (by omega)
    exact this
  · unfold rho
    have : ((cB ps o P z - cA ps o z : Int) : Rat) ≤ ((z.toNat : Int) : Rat) := Rat.intCast_le_intCast.mpr (by omega)
    have := Rat.mul_le_mul_of_nonneg_right this (Rat.le_of_lt hu)
    have e3 : (((z.toNat : Nat) : Int) : Rat) = ((z.toNat : Nat) : Rat) := rfl
    rw [e3, h0] at this
    exact this
  · have := log2_mono (show z.toNat ≤ 65536 by omega)
    have e : (65536 : Nat).log2 = 16 := by decide +kernel
    omega
theorem Ch.step {i : Nat} {c : Rat} {q l z : Int} {ps : List Nat} {o P : Nat} (h : Ch i c) (hr : Rg q l z) (hz : q < z) (hq : q ≤ 16384) (hf : (ps.sum : Int) ≤ q + 1) (h1 : 1 ≤ ps.sum) (hP : ps[o]? = some P) (hp : 0 < P) : Ch (i + 1) (c * rho ps o P z) := by
  obtain ⟨a0, a1, ag, an, al⟩ := rho_ok hr hz hq hf h1 hP hp
  obtain ⟨⟨N, n1, n2, g⟩, c0, c1⟩ := h
  have hl := log2_mul N z.toNat
  have m1 := Rat.mul_le_mul_of_nonneg_left a1 (Rat.le_of_lt c0)
  exact ⟨⟨N * z.toNat, Nat.mul_pos n1 an, by omega, g.mul n1 an ag⟩, Rat.mul_pos c0 a0, by grind⟩
theorem Ch.rb {i : Nat} {c : Rat} (h : Ch i c) (hi : i ≤ 50) : RB 1000 c := by
  obtain ⟨⟨N, n1, n2, g⟩, c0, c1⟩ := h
  exact RB.grid n1 (Rat.le_of_lt c0) c1 g (by omega)
theorem Gc.ch {m : List Stt} {q : Int} {n s i : Nat} {os : List Nat} {l z l2 z2 : Int} {t t2 : Nat} {bs : List Int} {c c2 : Rat} (hm : Mok n m) (hf : Fit q m) (hq : q ≤ 16384) (h : Gc m q s l z t os c l2 z2 t2 bs c2) : Wy m s os → Rg q l z → q < z → Ch i c → Ch (i + os.length) c2 := by
  induction h generalizing i with
  | nil => exact fun _ _ _ h => h
  | cons a b c d _ ih =>
    intro hw hr hz hc
    cases hw with
    | cons a' b' p' c' w' =>
      rw [a] at a'
      cases a'
      rw [b] at b'
      cases b'
      rw [c] at c'
      cases c'
      have hS := hm.st _ (List.mem_of_getElem? a)
      have h2 := d.facts (cut_rg hr hz (hf _ (List.mem_of_getElem? a)) hS.s.1 b p')
      have := ih w' h2.1 h2.2 (hc.step hr hz hq (hf _ (List.mem_of_getElem? a)) hS.s.1 b p')
      simpa [Nat.add_assoc, Nat.add_comm 1] using this
theorem log_z {z : Int} (hz : 0 < z ∧ z < 2 ^ 32) : 0 < z.toNat ∧ z.toNat.log2 < 9000 ∧ z = ((z.toNat : Nat) : Int) := by
  refine ⟨by omega, ?_, by omega⟩
  have := log2_mono (show z.toNat ≤ 2 ^ 32 by omega)
  rw [log2_pow2] at this
  omega
theorem lowZ_ok {a z : Int} (hz : 0 < z ∧ z < 2 ^ 32) (q : Q (frR ((a : Rat) * U z.toNat)) st) : F (k + 2) 8 [.int a, .int z] st Q := by
  obtain ⟨h1, h2, h3⟩ := log_z hz
  rw [h3]
  exact lowR_ok h1 h2 (by rw [U_mk a h1]; exact q)
theorem lowRho_ok {ps : List Nat} {o P : Nat} {z : Int} (hz : 0 < z ∧ z < 2 ^ 32) (q : Q (frR (rho ps o P z)) st) : F (k + 2) 8 [.int (cB ps o P z - cA ps o z), .int z] st Q := lowZ_ok hz q
theorem raw_real_ok {n w : Nat} {q : Int} {m : List Stt} (hm : Mok n m) (hw : Wd w q) (hf : Fit q m) {way : List Nat} (hy : Wy m 0 way) (hl : way.length ≤ 40)
    (hq : ∀ l z t bs c more fv, (fv = frR c ∨ fv = .ktp [.int 1, .int 1] ∧ c = 1) → Gc m q 0 0 (4 * q) 0 way 1 l z t bs c → Q fv (st ++ more)) : F (k + 7) 29 [modD m, .int (w : Nat), rowD way] st Q := by
  have hb := hw.b
  refine run_step (fd := ⟨3, 10, b29⟩) rfl rfl ?_
  unfold b29
  refine seq_i fun X hX => ?_
  simp [startD, permN, permL]
  refine first_ok hw ?_
  refine hX _ _ (seq_i fun X2 hX2 => ?_)
  simp [rowD, ti]
  refine for_seq (fun i ρ st' => ∃ (cur t : Nat) (l z : Int) (c : Rat) (fv : D) (more : Store) (x6 x7 x8 x9 : Option D), (fv = frR c ∨ fv = .ktp [.int 1, .int 1] ∧ c = 1) ∧ ρ = [some (modD m), some (.int (w : Nat)), some (rowD way), some (.int (cur : Nat)), some (.tup [.int l, .int z, .int (t : Nat)]), some fv, x6, x7, x8, x9] ∧ st' = st ++ more ∧ t ≤ 16 * i ∧ Wy m cur (way.drop i) ∧ Rg q l z ∧ q < z ∧ Ch i c ∧ ∀ a b d e c2, Gc m q cur l z t (way.drop i) c a b d e c2 → ∃ e2, Gc m q 0 0 (4 * q) 0 way 1 a b d e2 c2) ⟨0, 0, 0, 4 * q, 1, .ktp [.int 1, .int 1], [], none, none, none, none, .inr ⟨rfl, rfl⟩, by simp [rowD, ti], by simp, by omega, hy, by unfold Rg; omega, by omega, Ch.one, fun a b c e c2 h => ⟨_, h⟩⟩ (fun i d ρ st' Y hd ⟨cur, t, l, z, c, fv, more, x6, x7, x8, x9, hfv, e1, e2, ht, hwy, hr, hz, hc, hg⟩ hY => ?_) (fun ρ st' ⟨cur, t, l, z, c, fv, more, x6, x7, x8, x9, hfv, e1, e2, ht, hwy, hr, hz, hc, hg⟩ => ?_)
  · subst e1
    rw [List.getElem?_map] at hd
    obtain ⟨o, ho, rfl⟩ := Option.map_eq_some_iff.mp hd
    have hi := (List.getElem?_eq_some_iff.mp ho).1
    rw [drop_cons ho] at hwy hg
    cases hwy with
    | @cons _ _ P s' S _ g1 g2 g3 g4 g5 =>
      have hS := hm.st S (List.mem_of_getElem? g1)
      have hr' := hr
      unfold Rg at hr'
      refine ⟨_, rfl, seq_i fun X3 hX3 => ?_⟩
      simp [permN, permL, modD]
      refine ⟨_, at_map g1, ?_⟩
      simp [stD]
      refine cut_ok (k := k + 1) (by have := hS.s; omega) g2 (by omega) ?_
      simp
      refine hX3 _ _ (seq_i fun X4 hX4 => ?_)
      have e7 : z * ((S.ps.take o).sum : Int) / (S.ps.sum : Int) = cA S.ps o z := rfl
      have e8 : z * (((S.ps.take o).sum : Int) + (P : Int)) / (S.ps.sum : Int) = cB S.ps o P z := by unfold cB; rw [Int.natCast_add]
      rw [e7, e8]
      have hfs := hf S (List.mem_of_getElem? g1)
      obtain ⟨a0, a1, ag, an, al⟩ := rho_ok hr hz hb.2 hfs hS.s.1 g2 g3
      have hc2 := hc.step hr hz hb.2 hfs hS.s.1 g2 g3
      simp [permN, permL]
      refine lowRho_ok (k := k + 4) (by omega) ?_
      have tms : ∀ R : K1, R (frR (c * rho S.ps o P z)) st' → F (k + 6) 10 [fv, frR (rho S.ps o P z)] st' R := fun R qR => by
        rcases hfv with rfl | ⟨rfl, rfl⟩
        · exact timesR_ok (k := k + 3) ((hc.rb (by omega)).mono (by omega)) ((RB.grid an (Rat.le_of_lt a0) a1 ag (by omega) : RB 1000 (rho S.ps o P z)).mono (by omega)) qR
        · exact timesK_ok (k := k + 3) ((RB.grid an (Rat.le_of_lt a0) a1 ag (by omega) : RB 1000 (rho S.ps o P z)).mono (by omega)) qR
      refine tms _ ?_
      have hrg := cut_rg hr hz hfs hS.s.1 g2 g3
      refine hX4 _ _ (seq_i fun X5 hX5 => ?_)
      simp [permN, permL]
      refine ⟨_, at_map g1, ?_⟩
      simp [stD]
      refine stepped_ok (k := k) hw hr hz (by omega) hfs hS.s g2 g3 fun l1 z1 t1 f1 ys more1 hnm ht1 hf1 hys => ?_
      have hfacts := hnm.facts hrg
      simp
      refine hX5 _ _ ?_
      simp [wps_seq]
      refine ⟨_, at_map g1, ?_⟩
      simp [stD, rowD, ti]
      refine ⟨_, at_row g4, ?_⟩
      refine hY _ _ ⟨s', t1, l1, z1, c * rho S.ps o P z, _, more ++ more1, _, _, _, _, .inl rfl, by simp [modD, rowD, ti]; exact ⟨rfl, rfl, rfl, rfl⟩, by rw [e2, List.append_assoc], by omega, g5, hfacts.1, hfacts.2, hc2, fun a b d e c2 h => hg a b d _ c2 (.cons g1 g2 g4 hnm h)⟩
  · subst e1 e2
    have e : (List.map (D.int ∘ fun i : Nat => (i : Int)) way).length = way.length := by simp
    rw [e] at hg
    rw [List.drop_length] at hg
    refine hX2 _ _ ?_
    simp [wps_seq]
    obtain ⟨e2, he2⟩ := hg _ _ _ _ _ .nil
    exact hq l z t _ c more fv hfv he2
theorem real_ok {n w : Nat} {q : Int} {m : List Stt} (hm : Mok n m) (hw : Wd w q) (hf : Fit q m) {way : List Nat} (hy : Wy m 0 way) (hl : way.length ≤ 40)
    (hq : ∀ l z t bs c more fv, (fv = frR c ∨ fv = .ktp [.int 1, .int 1] ∧ c = 1) → Gc m q 0 0 (4 * q) 0 way 1 l z t bs c → Q fv (st ++ more)) : F (k + 10) 33 [modD m, .int (w : Nat), rowD way] st Q := by
  refine run_step (fd := ⟨3, 3, b33⟩) rfl rfl ?_
  unfold b33
  refine seq_i fun X hX => ?_
  simp [startD, permN, permL]
  refine need_width_ok (k := k) hm hw hf fun l1 => hX _ _ (seq_i fun X2 hX2 => ?_)
  simp [permN, permL]
  refine need_way_ok (k := k + 5) hm hy (hX2 _ _ ?_)
  simp [wps_seq, permN, permL]
  refine raw_real_ok (k := k + 2) hm hw hf hy hl fun l z t bs c more fv hfv hg => ?_
  have := hq l z t bs c (l1 ++ more) fv hfv hg
  simpa using this
end Cb.K59

namespace Cb.K59
open PySem PySem.Spec PyProof.Rows L2
/-! ### the real chance of a way is its span's part of all numbers -/
theorem Dbl.nm {q l z l' z' : Int} {n : Nat} (h : Dbl q l z n l' z') : ∀ {l2 z2 : Int} {t t2 : Nat} {bs : List Int}, Nm q l z t l2 z2 t2 bs → l2 = l' ∧ z2 = z' := by
  induction h with
  | stop a b c =>
    intro l2 z2 t t2 bs g
    cases g <;> first | exact ⟨rfl, rfl⟩ | contradiction
  | low a _ ih =>
    intro l2 z2 t t2 bs g
    cases g <;> first | contradiction | (rename_i g; exact ih g)
  | high a b _ ih =>
    intro l2 z2 t t2 bs g
    cases g <;> first | contradiction | (rename_i g; exact ih g)
  | mid a b c _ ih =>
    intro l2 z2 t t2 bs g
    cases g <;> first | contradiction | (rename_i g; exact ih g)
theorem two_add (b : Nat) : ∀ n : Nat, (2 : Rat) ^ (b + n) = 2 ^ b * 2 ^ n
  | 0 => by simp
  | n + 1 => by rw [← Nat.add_assoc, Rat.pow_succ, two_add b n, Rat.pow_succ, Rat.mul_assoc]
theorem U_int {z : Int} (h : 0 < z) : (z : Rat) * U z.toNat = 1 := by
  have := U_one (S := z.toNat) (by omega)
  rw [← this]
  congr 1
  have e : ((z.toNat : Nat) : Int) = z := by omega
  rw [← Rat.intCast_natCast, e]
theorem Sp.chance {m : List Stt} {q : Int} {n0 a : Nat} {l z f F N le : Int} {b B e : Nat} {os : List Nat} (hm : Mok n0 m) (hf : Fit q m) (h : Sp m q a l z f b os F N B e le) : ∀ {c c2 : Rat} {l2 z2 : Int} {t t2 : Nat} {bs : List Int}, Rg q l z → q < z → Gc m q a l z t os c l2 z2 t2 bs c2 → c2 * z * 2 ^ B = c * N * 2 ^ b := by
  induction h with
  | nil =>
    intro c c2 l2 z2 t t2 bs hr hz g
    cases g
    rfl
  | @last a o P a' S l z f b h1 h2 h3 h4 =>
    intro c c2 l2 z2 t t2 bs hr hz g
    have zz : 0 < z := by unfold Rg at hr; omega
    have hu := U_int zz
    cases g with
    | cons g1 g2 g3 g4 g5 =>
      cases g5
      rw [h1] at g1
      cases g1
      rw [h2] at g2
      cases g2
      unfold rho
      grind
  | @cons a o P a' n e S os l z f l1 z1 F N le b B h1 h2 h3 h4 h5 h6 h7 ih =>
    intro c c2 l2 z2 t t2 bs hr hz g
    have zz : 0 < z := by unfold Rg at hr; omega
    have hu := U_int zz
    have hS := hm.st _ (List.mem_of_getElem? h1)
    have hc := cut_rg hr hz (hf _ (List.mem_of_getElem? h1)) hS.s.1 h2 h4
    obtain ⟨r1, r2⟩ := h5.rg hc
    have ez := h5.size
    cases g with
    | cons g1 g2 g3 g4 g5 =>
      rw [h1] at g1
      cases g1
      rw [h2] at g2
      cases g2
      rw [h3] at g3
      cases g3
      obtain ⟨ea, eb⟩ := h5.nm g4
      rw [ea, eb] at g5
      have k := ih r1 r2 g5
      have pos : (0 : Int) < cB S.ps o P z - cA S.ps o z := by
        unfold Rg at hc
        omega
      have pr : ((cB S.ps o P z - cA S.ps o z : Int) : Rat) ≠ 0 := by
        intro h0
        have : (cB S.ps o P z - cA S.ps o z : Int) = 0 := by exact_mod_cast h0
        omega
      have pn : (2 : Rat) ^ n ≠ 0 := Rat.ne_of_gt (Rat.pow_pos (by decide +kernel))
      have ezr : (z1 : Rat) = 2 ^ n * ((cB S.ps o P z - cA S.ps o z : Int) : Rat) := by
        rw [ez]
        push_cast
        rfl
      rw [ezr] at k
      unfold rho at k
      generalize ((cB S.ps o P z - cA S.ps o z : Int) : Rat) = x at *
      have k2 : c2 * 2 ^ B = c * U z.toNat * N * 2 ^ b := by
        have e2 : (2 : Rat) ^ (b + n) = 2 ^ b * 2 ^ n := two_add b n
        rw [e2] at k
        have : (x * 2 ^ n) * (c2 * 2 ^ B - c * U z.toNat * N * 2 ^ b) = 0 := by grind
        grind
      grind
theorem Rok.chance {m : List Stt} {q : Int} {w n0 : Nat} {r : Rw} (hq : 2 ≤ q) (hm : Mok n0 m) (hf : Fit q m) (h : Rok m q w r) (hw : 4 * q = 2 ^ w) {c : Rat} {l z : Int} {t : Nat} {bs : List Int} (g : Gc m q 0 0 (4 * q) 0 r.os 1 l z t bs c) : c = at2 r.N r.B := by
  have k := (Sn.sp hq h).chance hm hf (by unfold Rg; omega) (by omega) g
  have e : ((4 * q : Int) : Rat) = 2 ^ w := by
    rw [hw]
    push_cast
    rfl
  rw [e] at k
  have p1 : (2 : Rat) ^ w ≠ 0 := Rat.ne_of_gt (Rat.pow_pos (by decide +kernel))
  have p2 : (2 : Rat) ^ r.B ≠ 0 := Rat.ne_of_gt (Rat.pow_pos (by decide +kernel))
  unfold at2
  have k2 : c * 2 ^ r.B = r.N := by
    have : 2 ^ w * (c * 2 ^ r.B - r.N) = 0 := by grind
    grind
  rw [← k2]
  grind
end Cb.K59

namespace Cb.K59
open PySem PySem.Spec PyProof.Rows L2
/-! ### how many doublings a step takes -/
theorem cut_wide {ps : List Nat} {o P : Nat} {z : Int} (hS : 1 ≤ ps.sum ∧ ps.sum ≤ 100) (hz : 0 ≤ z) (hp : 0 < P) : z / 100 ≤ cB ps o P z - cA ps o z := by
  unfold cB cA
  generalize ((ps.take o).sum : Nat) = T
  have hS' : (0 : Int) < (ps.sum : Nat) := by omega
  have e : z * ((T + P : Nat) : Int) = z * (T : Int) + z * (P : Int) := by push_cast; rw [Int.mul_add]
  rw [e]
  have h1 : z * (T : Int) / (ps.sum : Nat) + z * (P : Int) / (ps.sum : Nat) ≤ (z * (T : Int) + z * (P : Int)) / (ps.sum : Nat) := by
    refine Int.le_ediv_of_mul_le hS' ?_
    rw [Int.add_mul]
    have a1 := Int.ediv_mul_le (z * (T : Int)) (show ((ps.sum : Nat) : Int) ≠ 0 by omega)
    have a2 := Int.ediv_mul_le (z * (P : Int)) (show ((ps.sum : Nat) : Int) ≠ 0 by omega)
    omega
  have h2 : z / 100 ≤ z * (P : Int) / (ps.sum : Nat) := by
    refine Int.le_ediv_of_mul_le hS' ?_
    have a1 : z / 100 * ((ps.sum : Nat) : Int) ≤ z / 100 * 100 := Int.mul_le_mul_of_nonneg_left (by omega) (Int.ediv_nonneg hz (by decide))
    have a2 : z * 1 ≤ z * (P : Int) := Int.mul_le_mul_of_nonneg_left (by omega) hz
    omega
  omega
theorem Dbl.few {q l z l' z' : Int} {n : Nat} (hr : Rg q l z) (h : Dbl q l z n l' z') : 2 ^ n * z ≤ 4 * q := by
  have e := h.size
  have r := (h.rg hr).1
  unfold Rg at r
  omega
theorem Sn.inv {m : List Stt} {q : Int} {w : Nat} {os : List Nat} {F N l : Int} {B a : Nat} (h : Sn m q w os F N B a l) (e : os = []) : F = 0 ∧ N = 4 * q ∧ B = w ∧ a = 0 ∧ l = 0 := by
  cases h with
  | nil => exact ⟨rfl, rfl, rfl, rfl, rfl⟩
  | snoc => simp at e
theorem step_few {m : List Stt} {q : Int} {w n0 n : Nat} {r : Rw} {l' z' : Int} (hq : 2 ≤ q) (hm : Mok n0 m) (hf : Fit q m) (h : Rok m q w r) (hd : Dbl q r.l r.N n l' z') : n ≤ 10 := by
  obtain ⟨os, F, N, B, a, l⟩ := r
  have hr := Sn.rg hq hm hf h
  have hfew := hd.few hr
  have hN := h.pos hq hm hf
  dsimp only at hr hfew hN
  refine Nat.le_of_not_lt fun hn => ?_
  have p1 : (2 : Int) ^ 11 ≤ 2 ^ n := by
    have := Nat.pow_le_pow_right (n := 2) (by decide) (show 11 ≤ n from hn)
    exact_mod_cast this
  have p2 : (2 : Int) ^ 11 * N ≤ 2 ^ n * N := Int.mul_le_mul_of_nonneg_right p1 (by omega)
  have p3 : (2 : Int) ^ 11 = 2048 := by decide
  rw [p3] at p2
  have wide : N = 4 * q ∨ q / 100 ≤ N := by
    unfold Rok at h
    dsimp only at h
    cases h with
    | nil => exact .inl rfl
    | @snoc os0 F0 N0 l0 l1 z1 B0 a0 n1 o P a' S h0 hd0 h1 h2 h3 h4 =>
      right
      have hS := hm.st _ (List.mem_of_getElem? h1)
      have hr0 := Sn.rg hq hm hf h0
      obtain ⟨_, g⟩ := hd0.rg hr0
      have := cut_wide (ps := S.ps) (o := o) (P := P) (z := z1) hS.s (by omega) h4
      refine Int.le_trans ?_ this
      omega
  omega
/-- so many bits at most -/
theorem Rok.bits {m : List Stt} {q : Int} {w n0 : Nat} {r : Rw} (hq : 2 ≤ q) (hm : Mok n0 m) (hf : Fit q m) (h : Rok m q w r) : w ≤ r.B ∧ r.B ≤ w + 10 * (r.os.length - 1) := by
  obtain ⟨os, F, N, B, a, l⟩ := r
  unfold Rok at h
  dsimp only at h ⊢
  induction h with
  | nil => simp
  | @snoc os F N l l1 z1 B a n o P a' S h hd h1 h2 h3 h4 ih =>
    have hn := step_few (r := ⟨os, F, N, B, a, l⟩) hq hm hf h hd
    rw [List.length_append, List.length_singleton]
    by_cases e : os = []
    · obtain ⟨rfl, rfl, rfl, rfl, rfl⟩ := Sn.inv h e
      subst e
      cases hd with
      | stop => simp
      | low x => omega
      | high _ x => omega
      | mid _ _ x => omega
    · have : 0 < os.length := List.length_pos_iff.mpr e
      omega
end Cb.K59

namespace Cb.K59
open PySem PySem.Spec PyProof.Rows L2
/-! ### rows of many bits in a span -/
/-- a row of B + d bits begins with a number of the span iff its number lies between the ends at B + d bits -/
theorem in_span {s : Nat → Int} (hs : Bs s) {F N : Int} {B : Nat} (d : Nat) : (F ≤ num s B ∧ num s B < F + N) ↔ (F * 2 ^ d ≤ num s (B + d) ∧ num s (B + d) < (F + N) * 2 ^ d) := by
  obtain ⟨x, x1, x2, x3⟩ := num_more hs B d
  have pp := pow2_pos d
  constructor
  · intro ⟨a, b⟩
    have h1 := Int.mul_le_mul_of_nonneg_right a (Int.le_of_lt pp)
    have h2 : (num s B + 1) * 2 ^ d ≤ (F + N) * 2 ^ d := Int.mul_le_mul_of_nonneg_right (by omega) (Int.le_of_lt pp)
    rw [Int.add_mul, Int.one_mul] at h2
    omega
  · intro ⟨a, b⟩
    constructor
    · have : F < num s B + 1 := by
        refine Int.lt_of_mul_lt_mul_right (a := 2 ^ d) ?_ (Int.le_of_lt pp)
        rw [Int.add_mul (num s B), Int.one_mul]
        omega
      omega
    · refine Int.lt_of_mul_lt_mul_right (a := 2 ^ d) ?_ (Int.le_of_lt pp)
      omega
/-- so a row of many bits whose number lies there is read as the way -/
theorem Rok.read_many {m : List Stt} {q : Int} {w n0 d : Nat} {r : Rw} {s : Nat → Int} (hq : 2 ≤ q) (hm : Mok n0 m) (hf : Fit q m) (hs : Bs s) (h : Rok m q w r) (g : r.F * 2 ^ d ≤ num s (r.B + d) ∧ num s (r.B + d) < (r.F + r.N) * 2 ^ d) : Dc m q s 0 0 (4 * q) (num s w) w r.os := by
  obtain ⟨a, b⟩ := (in_span hs d).mpr g
  exact h.read hq hm hf hs a b
/-- the ends of a span at many bits -/
theorem at2_many (x : Int) (b d : Nat) : at2 x b = at2 (x * 2 ^ d) (b + d) := by
  rw [at2_eq, Int.pow_add]
  grind
/-- the parts of spans side by side add up to the whole -/
theorem Tile.sum : ∀ {rs : List Rw} {x y : Rat}, Tile x rs y → x + (rs.map fun r => at2 r.N r.B).sum = y
  | [], x, y, h => by
    have h' : x = y := h
    simp [h', Rat.add_zero]
  | r :: rs, x, y, h => by
    have ih := Tile.sum h.2
    have e : r.lo + at2 r.N r.B = r.hi := by
      unfold Rw.lo Rw.hi at2
      push_cast
      grind
    rw [List.map_cons, List.sum_cons, h.1]
    grind
end Cb.K59

namespace Cb.K59
open PySem PySem.Spec PyProof.Rows L2
/-! ### the law's own chances: top / bottom -/
/-- top / bottom is the part of a way with N numbers of B bits -/
def Tb (N : Int) (B : Nat) (top bot : Int) : Prop := top * 2 ^ B = N * bot
theorem Tb.zero {q : Int} {w : Nat} (hw : 4 * q = 2 ^ w) : Tb (4 * q) w 1 1 := by
  unfold Tb
  omega
theorem Tb.step {N z1 N' top bot : Int} {B n : Nat} (h : Tb N B top bot) (hz : z1 = 2 ^ n * N) : Tb N' (B + n) (top * N') (bot * z1) := by
  unfold Tb at h ⊢
  rw [hz, Int.pow_add]
  grind
/-- of all rows of many bits: how many are the way's -/
theorem Tb.rows {N top bot : Int} {B d : Nat} (h : Tb N B top bot) (hb : 0 < bot) : (top * 2 ^ (B + d)) / bot = N * 2 ^ d ∧ (top * 2 ^ (B + d)) % bot = 0 := by
  unfold Tb at h
  have e : top * 2 ^ (B + d) = (N * 2 ^ d) * bot := by
    rw [Int.pow_add]
    grind
  rw [e]
  exact ⟨Int.mul_ediv_cancel _ (by omega), Int.mul_emod_left _ _⟩
/-- the fraction -/
theorem Tb.at2 {N top bot : Int} {B : Nat} (h : Tb N B top bot) (hb : 0 < bot) : at2 N B = (top : Rat) / bot := by
  unfold Tb at h
  have hr : (top : Rat) * 2 ^ B = N * bot := by exact_mod_cast h
  have p1 : (2 : Rat) ^ B ≠ 0 := Rat.ne_of_gt (Rat.pow_pos (by decide +kernel))
  have p2 : (bot : Rat) ≠ 0 := by
    intro h0
    have : bot = 0 := by exact_mod_cast h0
    omega
  unfold Cb.K59.at2
  grind
end Cb.K59

namespace Cb.K59
open PySem PySem.Spec PyProof.Rows L2
variable {k : Nat} {st : Store} {Q : K1}
def rowB (x : Int) (many j : Nat) : Int := x / 2 ^ (many - 1 - j) % 2
theorem bitAnd_one {x : Int} (h : 0 ≤ x) : Builtin.bitAnd x 1 = x % 2 := by
  unfold Builtin.bitAnd
  simp [h]
  omega
theorem row_ok {x : Int} {many : Nat} (hx : 0 ≤ x ∧ x < 2 ^ 62) (hm : many ≤ 60) (hq : ∀ more, Q (.tup ((List.range many).map fun j => D.int (rowB x many j))) (st ++ more)) : F (k + 1) 47 [.int x, .int (many : Nat)] st Q := by
  refine run_step (fd := ⟨2, 3, b47⟩) rfl rfl ?_
  unfold b47
  refine seq_i fun X hX => ?_
  simp [startD]
  rw [if_pos (small62_of (by omega))]
  simp
  refine lc_rng (fun j acc st3 => acc = (List.range j).map (fun j => D.int (rowB x many j)) ∧ ∃ more2, st3 = st ++ more2) ⟨by simp, [], by simp⟩ (fun j acc st3 Z hj ⟨e4, more2, e5⟩ hZ => ?_) (fun acc st3 ⟨e4, more2, e5⟩ => ?_)
  · subst e4
    refine ⟨_, rfl, ?_⟩
    simp [wipeD, permN, permL]
    have h0 : 0 ≤ x / 2 ^ (many - 1 - j) := Int.ediv_nonneg hx.1 (Int.pow_nonneg (by decide))
    refine ⟨by omega, ?_⟩
    simp only [binS]
    rw [bitAnd_one h0]
    refine ⟨by omega, hZ _ _ ⟨?_, more2, e5⟩⟩
    rw [List.range_succ, List.map_append]
    simp [rowB]
  · subst e4 e5
    simp
    rw [bl_tupL (xs := (List.range many).map fun j => D.int (rowB x many j)) (by rw [← List.append_assoc, ← List.length_append]; exact get_last)]
    exact hq _
end Cb.K59

namespace Cb.K59
open PySem PySem.Spec PyProof.Rows L2
/-- the number of a row's first bits -/
theorem num_row {s : Nat → Int} {x : Int} {many : Nat} (hx : 0 ≤ x ∧ x < 2 ^ many) (hs : ∀ j, j < many → s j = rowB x many j) : ∀ j, j ≤ many → num s j = x / 2 ^ (many - j)
  | 0, _ => by
    rw [Nat.sub_zero, Int.ediv_eq_zero_of_lt hx.1 hx.2]
    rfl
  | j + 1, hj => by
    have ih := num_row hx hs j (by omega)
    show 2 * num s j + s j = _
    rw [ih, hs j (by omega)]
    unfold rowB
    rw [show many - j = (many - 1 - j) + 1 by omega, show many - (j + 1) = many - 1 - j by omega, Int.pow_succ, ← Int.ediv_ediv_of_nonneg (Int.pow_nonneg (by decide))]
    omega
theorem num_row_all {s : Nat → Int} {x : Int} {many : Nat} (hx : 0 ≤ x ∧ x < 2 ^ many) (hs : ∀ j, j < many → s j = rowB x many j) : num s many = x := by
  rw [num_row hx hs many (Nat.le_refl _), Nat.sub_self]
  simp
end Cb.K59

namespace Cb.K59
open PySem PySem.Spec PyProof.Rows L2
/-- the bits of _law_row, more bits behind -/
def rowL (x : Int) (many : Nat) : List Int := (List.range many).map (rowB x many)
theorem rowB_bit {x : Int} {many j : Nat} : rowB x many j = 0 ∨ rowB x many j = 1 := by
  unfold rowB
  omega
theorem rowL_len {x : Int} {many : Nat} : (rowL x many).length = many := by simp [rowL]
theorem rowL_at {x : Int} {many j : Nat} (more : List Int) (h : j < many) : sAt (rowL x many ++ more) j = rowB x many j := by
  unfold sAt rowL
  rw [List.getElem?_append_left (by simpa using h), List.getElem?_map, List.getElem?_range h]
  rfl
theorem rowL_past {x : Int} {many j : Nat} (more : List Int) (h : many ≤ j) : sAt (rowL x many ++ more) j = sAt more (j - many) := by
  unfold sAt
  rw [List.getElem?_append_right (by rw [rowL_len]; exact h), rowL_len]
/-- the number of the first bits of a row with more behind -/
theorem rowL_num {x : Int} {many : Nat} (more : List Int) (hx : 0 ≤ x ∧ x < 2 ^ many) : num (sAt (rowL x many ++ more)) many = x := num_row_all hx fun _ h => rowL_at more h
end Cb.K59

namespace Cb.K59
open PySem PySem.Spec PyProof.Rows L2
/-! ### the rows that the law looks at: within a span, next to it -/
theorem bs_row {x : Int} {many : Nat} {more : List Int} (h : ∀ b ∈ more, b = 0 ∨ b = 1) : Bs (sAt (rowL x many ++ more)) := by
  intro p
  by_cases c : p < many
  · rw [rowL_at more c]
    exact rowB_bit
  · rw [rowL_past more (by omega)]
    unfold sAt
    by_cases e : p - many < more.length
    · rw [List.getElem?_eq_getElem e]
      exact h _ (List.getElem_mem e)
    · rw [List.getElem?_eq_none (by omega)]
      exact .inl rfl
theorem Rok.row {m : List Stt} {q x : Int} {w n0 : Nat} {r : Rw} {more : List Int} (hq : 2 ≤ q) (hm : Mok n0 m) (hf : Fit q m) (h : Rok m q w r) (hb : ∀ b ∈ more, b = 0 ∨ b = 1) (hx : 0 ≤ x ∧ x < 2 ^ r.B) (g : r.F ≤ x ∧ x < r.F + r.N) : Dc m q (sAt (rowL x r.B ++ more)) 0 0 (4 * q) (num (sAt (rowL x r.B ++ more)) w) w r.os :=
  h.read hq hm hf (bs_row hb) (by rw [rowL_num more hx]; exact g.1) (by rw [rowL_num more hx]; exact g.2)
theorem Rok.row_next {m : List Stt} {q : Int} {w n0 : Nat} {r t : Rw} (hq : 2 ≤ q) (hm : Mok n0 m) (hf : Fit q m) (ht : Rok m q w t) (hrt : r.hi = t.lo) (hx : 0 ≤ r.F + r.N ∧ r.F + r.N < 2 ^ r.B) : Dc m q (sAt (rowL (r.F + r.N) r.B)) 0 0 (4 * q) (num (sAt (rowL (r.F + r.N) r.B)) w) w t.os := by
  have k := next_read (s := sAt (rowL (r.F + r.N) r.B ++ [])) hq hm hf (bs_row (by simp)) ht hrt (fun p hp => by
    rw [rowL_past [] hp]
    simp [sAt]) (rowL_num [] hx)
  simpa using k
theorem Rok.row_prev {m : List Stt} {q : Int} {w n0 k : Nat} {r t : Rw} (hq : 2 ≤ q) (hm : Mok n0 m) (hf : Fit q m) (hr : Rok m q w r) (hrt : r.hi = t.lo) (hB : r.B ≤ t.B + k) (hx : 0 ≤ t.F - 1 ∧ t.F - 1 < 2 ^ t.B) : Dc m q (sAt (rowL (t.F - 1) t.B ++ List.replicate k 1)) 0 0 (4 * q) (num (sAt (rowL (t.F - 1) t.B ++ List.replicate k 1)) w) w r.os :=
  prev_read (k := k) hq hm hf (bs_row (by simp)) hr hrt hB (fun p hp hk => by
    rw [rowL_past _ hp]
    unfold sAt
    rw [List.getElem?_replicate, if_pos (by omega)]
    rfl) (rowL_num _ hx)
end Cb.K59

namespace Cb.K59
open PySem PySem.Spec PyProof.Rows L2
/-- a span lies within the numbers of its bits -/
theorem Rok.in_all {m : List Stt} {q : Int} {w n0 : Nat} {r : Rw} (hq : 2 ≤ q) (hm : Mok n0 m) (hf : Fit q m) (hw : 4 * q = 2 ^ w) (h : Rok m q w r) : 0 ≤ r.F ∧ 0 < r.N ∧ r.F + r.N ≤ 2 ^ r.B := by
  obtain ⟨j, eB, g1, g2, g3⟩ := (Sn.sp hq h).within hm hf (by unfold Rg; omega) (by omega)
  refine ⟨by simpa using g1, g3, ?_⟩
  rw [eB, Nat.add_comm, Int.pow_add, ← hw]
  simpa using g2
end Cb.K59

namespace Cb.K59
open PySem PySem.Spec PyProof.Rows L2
/-- the law's search for the number of doublings: the steps below i that fit -/
def fits (z z1 : Int) (i : Nat) : List Nat := (List.range i).filter fun s => decide (z * 2 ^ s = z1)
theorem fits_s {z z1 : Int} {i : Nat} : fits z z1 (i + 1) = if z * 2 ^ i = z1 then fits z z1 i ++ [i] else fits z z1 i := by
  unfold fits
  rw [List.range_succ, List.filter_append]
  split
  · rename_i h
    simp [h]
  · rename_i h
    simp [h]
theorem fits_mem {z z1 : Int} {i s : Nat} : s ∈ fits z z1 i ↔ s < i ∧ z * 2 ^ s = z1 := by
  simp [fits]
theorem pow2_inj {a b : Nat} (h : (2 : Int) ^ a = 2 ^ b) : a = b := by
  have h' : (2 : Nat) ^ a = 2 ^ b := by exact_mod_cast h
  exact (Nat.pow_right_inj (by omega)).mp h'
/-- the first one is the number of doublings -/
theorem fits_one {z z1 : Int} {i n : Nat} (hz : 0 < z) (h : z1 = 2 ^ n * z) (hn : n < i) : (fits z z1 i)[0]? = some n := by
  have hm : n ∈ fits z z1 i := fits_mem.mpr ⟨hn, by rw [h, Int.mul_comm]⟩
  have hl : 0 < (fits z z1 i).length := List.length_pos_of_mem hm
  rw [List.getElem?_eq_getElem hl]
  have h0 := fits_mem.mp (List.getElem_mem hl)
  have e : (2 : Int) ^ (fits z z1 i)[0] = 2 ^ n := by
    have h2 := h0.2.trans h
    rw [Int.mul_comm] at h2
    exact Int.eq_of_mul_eq_mul_right (by omega) h2
  rw [pow2_inj e]
end Cb.K59

namespace Cb.K59
open PySem PySem.Spec PyProof.Rows L2
/-- a step more in all ways: the spans stand side by side as ahead -/
theorem Tile.bind {f : Rw → List Rw} : ∀ {rs : List Rw} {x y : Rat}, (∀ r ∈ rs, Tile r.lo (f r) r.hi) → Tile x rs y → Tile x (rs.flatMap f) y
  | [], _, _, _, h => h
  | r :: rs, x, y, hf, h => by
    rw [List.flatMap_cons, h.1]
    exact (hf r (by simp)).app (Tile.bind (fun s hs => hf s (by simp [hs])) h.2)
/-- the beginning: no outcome, all numbers of w bits -/
def root (q : Int) (w : Nat) : Rw := ⟨[], 0, 4 * q, w, 0, 0⟩
theorem root_ok {m : List Stt} {q : Int} {w : Nat} : Rok m q w (root q w) := Sn.nil
theorem root_tile {q : Int} {w : Nat} (hw : 4 * q = 2 ^ w) : Tile (at2 0 0) [root q w] (at2 1 0) := by
  refine ⟨?_, ?_⟩
  · show _ = at2 0 w
    rw [at2_eq]
    simp
  · show at2 (0 + 4 * q) w = _
    rw [at2_eq, hw]
    simp
end Cb.K59

namespace Cb
open PySem PySem.Spec PyProof.Rows L2
/-! ### lists that grow -/
theorem lst_listS {st : Store} {n : Nat} {xs : List D} (h : st[n]? = some (.lst xs)) : listS st (.ref n) = some xs := by simp only [listS, h]
theorem lst_ix {st : Store} {n i : Nat} {xs : List D} {x : D} (h : st[n]? = some (.lst xs)) (hx : xs[i]? = some x) : idxS st (.ref n) (.int (i : Nat)) = some x := by
  simp only [idxS, h]
  exact at_get hx
theorem lst_ix0 {st : Store} {n : Nat} {xs : List D} {x : D} (h : st[n]? = some (.lst xs)) (hx : xs[0]? = some x) : idxS st (.ref n) (.int 0) = some x := lst_ix (i := 0) h hx
theorem lst_append {st : Store} {n : Nat} {ys : List D} {x : D} {Q : K1} (h : st[n]? = some (.lst ys)) (hl : ys.length < 16777216) (q : Q .non (st.set n (.lst (ys ++ [x])))) : mthS .append (.ref n) [x] st Q :=
  ⟨n, ys, x, rfl, rfl, h, by rw [sizeLine_eq]; exact hl, q⟩
theorem set_app {st more : Store} {n : Nat} {c : Cell} (h : st.length ≤ n) : ∃ more2, (st ++ more).set n c = st ++ more2 := ⟨more.set (n - st.length) c, by rw [List.set_append_right _ _ h]⟩
theorem lst_live {st : Store} {n : Nat} {xs : List D} (h : st[n]? = some (.lst xs)) : (Src.live n).at st = some xs := by simp only [Src.at, h]
theorem lst_src {st : Store} {n : Nat} {xs : List D} (h : st[n]? = some (.lst xs)) : srcOf st (.ref n) = some (.live n) := by simp only [srcOf, h]
theorem lst_tru {st : Store} {n : Nat} {xs : List D} (h : st[n]? = some (.lst xs)) : truS st (.ref n) = some (!xs.isEmpty) := by simp only [truS, h]
theorem lst_ty {st : Store} {n : Nat} {xs : List D} (h : st[n]? = some (.lst xs)) : tyOf st (.ref n) = some .list := by simp only [tyOf, h]
end Cb

namespace Cb.K59
open PySem PySem.Spec PyProof.Rows L2
variable {k : Nat} {st : Store} {Q : K1}
/-- a row of _law_spans -/
def spD (r : Rw) : D := .tup [.tup (r.os.map nd), .int r.F, .int r.N, .int (r.B : Nat), .int (r.a : Nat), .int r.l, .int r.N]
/-- what it hands back of it -/
def spO (r : Rw) : D := .tup [.tup (r.os.map nd), .int r.F, .int r.N, .int (r.B : Nat)]
theorem Tile.split : ∀ {rs ss : List Rw} {x z : Rat}, Tile x (rs ++ ss) z → ∃ y, Tile x rs y ∧ Tile y ss z
  | [], _, x, _, h => ⟨x, rfl, h⟩
  | _ :: _, _, _, _, h => by
    obtain ⟨y, h1, h2⟩ := Tile.split h.2
    exact ⟨y, ⟨h.1, h1⟩, h2⟩
theorem Nm.dbl {q l s l' s' : Int} {t t' : Nat} {bs : List Int} (h : Nm q l s t l' s' t' bs) : ∃ n, Dbl q l s n l' s' := by
  induction h with
  | stop a b c => exact ⟨0, .stop a b c⟩
  | low a _ ih =>
    obtain ⟨n, h⟩ := ih
    exact ⟨n + 1, .low a h⟩
  | high a b _ ih =>
    obtain ⟨n, h⟩ := ih
    exact ⟨n + 1, .high a b h⟩
  | mid a b c _ ih =>
    obtain ⟨n, h⟩ := ih
    exact ⟨n + 1, .mid a b c h⟩
theorem Rok.lt {m : List Stt} {q : Int} {w n0 : Nat} {r : Rw} (hm : Mok n0 m) (h : Rok m q w r) : r.a < m.length := by
  obtain ⟨os, F, N, B, a, l⟩ := r
  unfold Rok at h
  dsimp only at h ⊢
  cases h with
  | nil => have := hm.len; omega
  | snoc _ _ h1 h2 h3 _ => exact (hm.st _ (List.mem_of_getElem? h1)).f _ (List.mem_of_getElem? h3)
theorem spans_ok {n w kk : Nat} {q : Int} {m : List Stt} (hm : Mok n m) (hw : Wd w q) (hf : Fit q m) (hk : kk ≤ 5)
    (hq : ∀ (rs : List Rw) (fn : Nat) (more : Store), (st ++ more)[fn]? = some (.lst (rs.map spO)) → (rs = [] ∨ Tile (at2 0 0) rs (at2 1 0)) → (∀ r ∈ rs, Rok m q w r ∧ r.os.length = kk) → rs.length ≤ 200 → Q (.ref fn) (st ++ more)) : F (k + 3) 46 [modD m, .int (w : Nat), .int (kk : Nat)] st Q := by
  have hb := hw.b
  have h3 := hw.hw
  refine run_step (fd := ⟨3, 23, b46⟩) rfl rfl ?_
  unfold b46
  refine seq_i fun X hX => ?_
  simp [startD]
  have hw2 := hw.q1
  refine ⟨shl_ok (by omega) (by omega) (by omega), ?_⟩
  have e4 : (4 : Int) * q = 2 ^ w := by
    have e : (2 : Int) ^ w = 2 ^ (w - 1) * 2 := by rw [← Int.pow_succ]; congr 1; omega
    rw [e]
    have := hw.q1
    have e' : ((w : Int) - 1).toNat = w - 1 := by omega
    rw [e'] at this
    omega
  refine hX _ _ (seq_i fun X2 hX2 => ?_)
  clear hX X
  have hfn : (st ++ [Cell.lst [D.tup [D.tup [], D.int 0, D.int (2 ^ w), D.int ↑w, D.int 0, D.int 0, D.int (2 ^ w)]]])[st.length]? = some (Cell.lst ([root q w].map spD)) := by
    rw [get_last]
    simp [spD, root, e4]
  generalize st.length = fn at hfn ⊢
  generalize hst : st ++ [Cell.lst [D.tup [D.tup [], D.int 0, D.int (2 ^ w), D.int ↑w, D.int 0, D.int 0, D.int (2 ^ w)]]] = st0 at hfn ⊢
  have hmore : ∃ more, st0 = st ++ more := ⟨_, hst.symm⟩
  clear hst
  simp
  rw [if_pos (small62_of (by omega))]
  simp
  refine for_rng (fun i ρ st' => ∃ (rs : List Rw) (fn : Nat) (more : Store) (xs : List (Option D)), xs.length = 19 ∧ ρ = some (modD m) :: some (.int (w : Nat)) :: some (.int (kk : Nat)) :: some (.ref fn) :: xs ∧ st' = st ++ more ∧ st'[fn]? = some (.lst (rs.map spD)) ∧ Tile (at2 0 0) rs (at2 1 0) ∧ (∀ r ∈ rs, Rok m q w r ∧ r.os.length = i) ∧ rs.length ≤ 200) ?_ (fun i ρ st2 Y hi h hY => ?_) (fun ρ st2 h => ?_)
  · obtain ⟨more, e⟩ := hmore
    exact ⟨[root q w], fn, more, List.replicate 19 none, rfl, rfl, e, hfn, root_tile e4, fun r hr => by
      simp at hr
      subst hr
      exact ⟨root_ok, rfl⟩, by simp⟩
  · obtain ⟨rs, fn2, more, xs, hx, e1, e2, hf2, ht, hr, hl⟩ := h
    obtain ⟨x4, x5, x6, x7, x8, x9, x10, x11, x12, x13, x14, x15, x16, x17, x18, x19, x20, x21, x22, rfl⟩ : ∃ x4 x5 x6 x7 x8 x9 x10 x11 x12 x13 x14 x15 x16 x17 x18 x19 x20 x21 x22, xs = [x4, x5, x6, x7, x8, x9, x10, x11, x12, x13, x14, x15, x16, x17, x18, x19, x20, x21, x22] := by
      match xs, hx with
      | [a, b, c, d, e, f, g, h, i, j, k, l, m, n, o, p, q, r, s], _ => exact ⟨a, b, c, d, e, f, g, h, i, j, k, l, m, n, o, p, q, r, s, rfl⟩
    subst e1
    refine ⟨_, rfl, seq_i fun X5 hX5 => ?_⟩
    simp
    refine hX5 _ _ (seq_i fun X6 hX6 => ?_)
    clear hX5 X5
    have hfl := (List.getElem?_eq_some_iff.mp hf2).1
    have hf3 := get_app hf2 [Cell.lst []]
    simp [srcOf, hf3]
    refine for_live (n := fn2) (xs := rs.map spD) (fun j ρ st3 => ∃ (ls : List Rw) (more3 : Store) (ys : List (Option D)), ys.length = 17 ∧ ρ = some (modD m) :: some (.int (w : Nat)) :: some (.int (kk : Nat)) :: some (.ref fn2) :: some (.int (i : Nat)) :: some (.ref st2.length) :: ys ∧ st3 = st2 ++ more3 ∧ st3[st2.length]? = some (.lst (ls.map spD)) ∧ (∀ t, Tile (at2 0 0) (rs.take j) t → Tile (at2 0 0) ls t) ∧ (∀ r ∈ ls, Rok m q w r ∧ r.os.length = i + 1) ∧ ls.length ≤ 8 * j) ⟨[], [Cell.lst []], [x6, x7, x8, x9, x10, x11, x12, x13, x14, x15, x16, x17, x18, x19, x20, x21, x22], rfl, rfl, rfl, by simp, fun t h => by simpa using h, by simp, by simp⟩ (fun j ρ st3 ⟨_, more3, _, _, _, e, _⟩ => by subst e; simp only [Src.at, get_app hf2 more3]) (fun j d ρ st3 Z hd ⟨ls, more3, ys, hy, e3, e5, hls, htl, hrl, hll⟩ hZ => ?_) (fun ρ st3 ⟨ls, more3, ys, hy, e3, e5, hls, htl, hrl, hll⟩ => ?_)
    · rw [List.getElem?_map] at hd
      obtain ⟨r, hp, rfl⟩ := Option.map_eq_some_iff.mp hd
      have hj := (List.getElem?_eq_some_iff.mp hp).1
      obtain ⟨hR, hos⟩ := hr r (List.mem_of_getElem? hp)
      obtain ⟨x6, x7, x8, x9, x10, x11, x12, x13, x14, x15, x16, x17, x18, x19, x20, x21, x22, rfl⟩ : ∃ x6 x7 x8 x9 x10 x11 x12 x13 x14 x15 x16 x17 x18 x19 x20 x21 x22, ys = [x6, x7, x8, x9, x10, x11, x12, x13, x14, x15, x16, x17, x18, x19, x20, x21, x22] := by
        match ys, hy with
        | [c, d, e, f, g, h, i, j, k, l, m, n, o, p, q, r, s], _ => exact ⟨c, d, e, f, g, h, i, j, k, l, m, n, o, p, q, r, s, rfl⟩
      subst e3
      simp [spD]
      refine seq_i fun X7 hX7 => ?_
      simp [modD]
      obtain ⟨S, g1⟩ : ∃ S, m[r.a]? = some S := ⟨_, List.getElem?_eq_getElem (hR.lt hm)⟩
      have hS := hm.st S (List.mem_of_getElem? g1)
      refine ⟨_, at_map g1, ?_⟩
      simp [stD]
      refine hX7 _ _ (seq_i fun X8 hX8 => ?_)
      clear hX7 X7
      simp [permN, permL]
      have hRg := Sn.rg hb.1 hm hf hR
      refine widened_ok (k := k + 1) (t := 0) (xs := []) hw hRg (by omega) (by simp) fun l1 z1 t1 bs hnm _ _ => ?_
      obtain ⟨dn, hdn⟩ := hnm.dbl
      clear hnm
      simp
      refine hX8 _ _ (seq_i fun X9 hX9 => ?_)
      clear hX8 X8
      simp
      rw [if_pos (small62_of (by omega))]
      simp
      have hpos := hR.pos hb.1 hm hf
      have hfew := step_few hb.1 hm hf hR hdn
      obtain ⟨hin0, hin1, hin2⟩ := hR.in_all hb.1 hm hf e4
      have hbits := hR.bits hb.1 hm hf
      have hFb : r.F < 2 ^ 56 := by
        have p := Nat.pow_le_pow_right (n := 2) (by decide) (show r.B ≤ 56 by omega)
        have p' : (2 : Int) ^ r.B ≤ 2 ^ 56 := by exact_mod_cast p
        omega
      have hr4 := hRg
      unfold Rg at hr4
      refine lc_rng (fun i acc st4 => acc = (fits r.N z1 i).map nd ∧ st4 = st3) ⟨by simp [fits], rfl⟩ (fun s acc st4 W hs ⟨e6, e7⟩ hW => ?_) (fun acc st4 ⟨e6, e7⟩ => ?_)
      · subst e6 e7
        have hfl : (fits r.N z1 s).length ≤ s := by
          unfold fits
          exact Nat.le_trans (List.length_filter_le _ _) (by simp)
        refine ⟨_, rfl, ?_⟩
        simp [wipeD]
        refine ⟨shl_ok (by omega) (by omega) (by omega), ?_⟩
        refine Br.dec (fun h => ⟨by omega, hW _ _ ⟨?_, rfl⟩⟩) (fun h => hW _ _ ⟨?_, rfl⟩)
        · rw [fits_s, if_pos h]
          simp [nd]
        · rw [fits_s, if_neg h]
      · subst e6 e7
        have hone := fits_one (i := 40) hpos hdn.size (by omega)
        refine ⟨nd dn, lst_ix0 get_last (by rw [List.getElem?_map, hone]; rfl), ?_⟩
        refine hX9 _ _ (seq_i fun X10 hX10 => ?_)
        clear hX9 X9
        obtain ⟨more4, em4⟩ : ∃ more4, st4 ++ [Cell.lst ((fits r.N z1 40).map nd)] = st2 ++ more4 := ⟨more3 ++ [Cell.lst ((fits r.N z1 40).map nd)], by rw [e5, List.append_assoc]⟩
        have hls4 := get_app hls [Cell.lst ((fits r.N z1 40).map nd)]
        generalize st4 ++ [Cell.lst ((fits r.N z1 40).map nd)] = st5 at em4 hls4 ⊢
        simp [tabD, nd]
        have hr5 := (hdn.rg hRg).1
        unfold Rg at hr5
        refine for_enum (fun o ρ st6 => ∃ (more6 : Store) (ys : List (Option D)), ys.length = 6 ∧ ρ = some (modD m) :: some (.int (w : Nat)) :: some (.int (kk : Nat)) :: some (.ref fn2) :: some (.int (i : Nat)) :: some (.ref st2.length) :: some (.tup (r.os.map nd)) :: some (.int r.F) :: some (.int r.N) :: some (.int (r.B : Nat)) :: some (.int (r.a : Nat)) :: some (.int r.l) :: some (.int r.N) :: some (tabD S.ps) :: some (rowD S.fs) :: some (.tup [.int l1, .int z1, .int (t1 : Nat)]) :: some (.int (dn : Nat)) :: ys ∧ st6 = st2 ++ more6 ∧ st6[st2.length]? = some (.lst ((ls ++ kids S dn l1 z1 r o).map spD))) ⟨more4, [x17, x18, x19, x20, x21, x22], rfl, by simp [modD, tabD, nd], em4, by simpa [kids] using hls4⟩ (fun o d ρ st6 W ho ⟨more6, zs, hz, e6, e7, hl6⟩ hW => ?_) (fun ρ st6 ⟨more6, zs, hz, e6, e7, hl6⟩ => ?_)
        · rw [List.getElem?_map] at ho
          obtain ⟨P, hP, rfl⟩ := Option.map_eq_some_iff.mp ho
          have hol := (List.getElem?_eq_some_iff.mp hP).1
          obtain ⟨y17, y18, y19, y20, y21, y22, rfl⟩ : ∃ y17 y18 y19 y20 y21 y22, zs = [y17, y18, y19, y20, y21, y22] := by
            match zs, hz with
            | [a, b, c, d, e, f], _ => exact ⟨a, b, c, d, e, f, rfl⟩
          subst e6
          have hks := kids_s (S := S) (n := dn) (l1 := l1) (z1 := z1) (r := r) (i := o)
          rw [hP, Option.getD_some] at hks
          refine ⟨_, rfl, seq_i fun X11 hX11 => ite_i fun A B hA hB => ?_⟩
          simp [fp, fr]
          refine Br.dec (fun h => hA _ ?_) (fun h => hB _ (hX11 _ _ ?_))
          · have hP0 : 0 < P := by
              refine Nat.pos_of_ne_zero fun z => ?_
              subst z
              simp at h
            rw [if_pos hP0] at hks
            refine seq_i fun X12 hX12 => ?_
            simp [permN, permL]
            refine law_part_ok (k := k) (by have := hS.s; omega) (by have := hS.pl; have := hm.hn; omega) hP (by omega) fun x => ?_
            simp
            refine hX12 _ _ ?_
            obtain ⟨s', hs', _⟩ := hS.nxt hP
            simp [wps_seq]
            have hl7 := get_app hl6 [x]
            refine ⟨_, lst_listS hl7, by omega, shl_ok (by omega) (by omega) (by omega), ?_⟩
            refine ⟨nd s', by simp [rowD, ti]; exact at_row hs', ?_⟩
            have hkl : (kids S dn l1 z1 r o).length ≤ o := by
              unfold kids
              rw [List.length_map]
              exact Nat.le_trans (List.length_filter_le _ _) (by simp)
            refine lst_append hl7 (by have := hS.pl; have := hm.hn; simp; omega) ?_
            obtain ⟨more7, em7⟩ : ∃ more7, (st6 ++ [x]).set st2.length (Cell.lst (List.map spD (ls ++ kids S dn l1 z1 r o) ++ [spD (kid S dn l1 z1 r o)])) = st2 ++ more7 := by
              rw [e7, List.append_assoc]
              exact set_app (Nat.le_refl _)
            have hl8 : ((st6 ++ [x]).set st2.length (Cell.lst (List.map spD (ls ++ kids S dn l1 z1 r o) ++ [spD (kid S dn l1 z1 r o)])))[st2.length]? = _ := get_set hl7
            have ek : D.tup [D.tup (List.map nd r.os ++ [D.int ↑o]), D.int (r.F * 2 ^ dn + cA S.ps o z1), D.int (cB S.ps o P z1 - cA S.ps o z1), D.int (↑r.B + ↑dn), nd s', D.int (l1 + cA S.ps o z1), D.int (cB S.ps o P z1 - cA S.ps o z1)] = spD (kid S dn l1 z1 r o) := by
              unfold kid spD
              simp [hP, hs', nd, Int.mul_comm]
            rw [ek]
            refine hX11 _ _ ?_
            show W _ _
            exact hW _ _ ⟨more7, [_, _, _, _, _, _], rfl, rfl, em7, by rw [hl8, hks, ← List.append_assoc, List.map_append, List.map_append, List.map_append]; rfl⟩
          · have hP0 : ¬ 0 < P := fun z => h (by have := fp_top (S := S.ps.sum) (P := P) (by have := hS.s; omega) z; omega)
            rw [if_neg hP0] at hks
            show W _ _
            exact hW _ _ ⟨more6, [_, _, _, _, _, _], rfl, rfl, e7, by rw [hks]; exact hl6⟩
        · obtain ⟨y17, y18, y19, y20, y21, y22, rfl⟩ : ∃ y17 y18 y19 y20 y21 y22, zs = [y17, y18, y19, y20, y21, y22] := by
            match zs, hz with
            | [a, b, c, d, e, f], _ => exact ⟨a, b, c, d, e, f, rfl⟩
          subst e6
          rw [List.length_map] at hl6
          refine hX10 _ _ ?_
          simp
          refine hZ _ _ ⟨ls ++ kids S dn l1 z1 r S.ps.length, more6, _, rfl, rfl, e7, hl6, fun t h => ?_, fun x hx => ?_, ?_⟩
          · rw [take_succ hp] at h
            obtain ⟨y, t1, t2, t3⟩ := Tile.split h
            have t3' : _ = t := t3
            subst t3' t2
            exact (htl _ t1).app (kids_all (by have := hS.s; omega) hdn.size)
          · rcases List.mem_append.mp hx with hx | hx
            · exact hrl x hx
            · refine ⟨kids_ok hm hR hdn g1 (Nat.le_refl _) x hx, ?_⟩
              unfold kids at hx
              obtain ⟨o, _, rfl⟩ := List.mem_map.mp hx
              unfold kid
              simp [hos]
          · have hkl : (kids S dn l1 z1 r S.ps.length).length ≤ S.ps.length := by
              unfold kids
              rw [List.length_map]
              exact Nat.le_trans (List.length_filter_le _ _) (by simp)
            rw [List.length_append]
            have := hS.pl
            have := hm.hn
            omega
    · subst e3
      rw [List.length_map] at htl hll
      obtain ⟨x6, x7, x8, x9, x10, x11, x12, x13, x14, x15, x16, x17, x18, x19, x20, x21, x22, rfl⟩ : ∃ x6 x7 x8 x9 x10 x11 x12 x13 x14 x15 x16 x17 x18 x19 x20 x21 x22, ys = [x6, x7, x8, x9, x10, x11, x12, x13, x14, x15, x16, x17, x18, x19, x20, x21, x22] := by
        match ys, hy with
        | [c, d, e, f, g, h, i, j, k, l, m, n, o, p, q, r, s], _ => exact ⟨c, d, e, f, g, h, i, j, k, l, m, n, o, p, q, r, s, rfl⟩
      have htl' := htl _ (by rw [List.take_length]; exact ht)
      refine hX6 _ _ (seq_i fun X7 hX7 => ?_)
      simp
      refine hX7 _ _ (seq_i fun X8 hX8 => ite_i fun A B hA hB => ?_)
      simp
      rw [bl_lenL hls, c_gt]
      refine Br.dec (fun h => hA _ ?_) (fun h => hB _ (hX8 _ _ ?_))
      · simp [wps_seq]
        have e9 : st3 ++ [Cell.lst []] = st ++ (more ++ (more3 ++ [Cell.lst []])) := by rw [e5, e2]; simp
        rw [e9]
        exact hq [] _ _ (by rw [← e9]; exact get_last) (.inl rfl) (by simp) (by simp)
      · simp
        refine hY _ _ ⟨ls, st2.length, more ++ more3, _, rfl, rfl, by rw [e5, e2, List.append_assoc], hls, htl', hrl, ?_⟩
        rw [List.length_map] at h
        omega
  · obtain ⟨rs, fn2, more, xs, hx, e1, e2, hf2, ht, hr, hl⟩ := h
    obtain ⟨x4, x5, x6, x7, x8, x9, x10, x11, x12, x13, x14, x15, x16, x17, x18, x19, x20, x21, x22, rfl⟩ : ∃ x4 x5 x6 x7 x8 x9 x10 x11 x12 x13 x14 x15 x16 x17 x18 x19 x20 x21 x22, xs = [x4, x5, x6, x7, x8, x9, x10, x11, x12, x13, x14, x15, x16, x17, x18, x19, x20, x21, x22] := by
      match xs, hx with
      | [a, b, c, d, e, f, g, h, i, j, k, l, m, n, o, p, q, r, s], _ => exact ⟨a, b, c, d, e, f, g, h, i, j, k, l, m, n, o, p, q, r, s, rfl⟩
    subst e1
    refine hX2 _ _ ?_
    simp [wps_seq]
    refine ⟨_, by rw [lst_src hf2]; rfl, ?_⟩
    refine lc_live (n := fn2) (xs := rs.map spD) (fun j acc st3 => acc = (rs.take j).map spO ∧ st3 = st2) ⟨by simp, rfl⟩ (fun j acc st3 ⟨_, e⟩ => by subst e; exact lst_live hf2) (fun j d acc st3 Z hd ⟨e3, e5⟩ hZ => ?_) (fun acc st3 ⟨e3, e5⟩ => ?_)
    · subst e3 e5
      rw [List.getElem?_map] at hd
      obtain ⟨r, hp, rfl⟩ := Option.map_eq_some_iff.mp hd
      have hj := (List.getElem?_eq_some_iff.mp hp).1
      refine ⟨_, rfl, ?_⟩
      simp [wipeD, spD]
      refine ⟨by omega, hZ _ _ ⟨?_, rfl⟩⟩
      have e4' : cut [D.tup (List.map nd r.os), D.int r.F, D.int r.N, D.int ↑r.B, D.int ↑r.a, D.int r.l, D.int r.N] none (some 4) = [D.tup (List.map nd r.os), D.int r.F, D.int r.N, D.int ↑r.B] := cut_to (n := 4)
      rw [e4', take_succ hp, List.map_append, List.map_take]
      rfl
    · subst e3 e5
      rw [List.length_map, List.take_length]
      have e9 : st3 ++ [Cell.lst (rs.map spO)] = st ++ (more ++ [Cell.lst (rs.map spO)]) := by rw [e2]; simp
      rw [e9]
      exact hq rs _ _ (by rw [← e9]; exact get_last) (.inr ht) hr hl
end Cb.K59

namespace Cb.K59
open PySem PySem.Spec PyProof.Rows L2
variable {k : Nat} {st : Store} {Q : K1}
/-! ### all ways, as a function -/
theorem Dbl.fn {q l z l' z' l2 z2 : Int} {n n2 : Nat} (h : Dbl q l z n l' z') : Dbl q l z n2 l2 z2 → n = n2 ∧ l' = l2 ∧ z' = z2 := by
  intro g
  induction h generalizing n2 with
  | stop a b c =>
    cases g with
    | stop => exact ⟨rfl, rfl, rfl⟩
    | low x => exact absurd x a
    | high _ x => exact absurd x b
    | mid _ _ x => exact absurd x c
  | low a _ ih =>
    cases g with
    | stop x => exact absurd a x
    | low _ g => obtain ⟨rfl, e⟩ := ih g; exact ⟨rfl, e⟩
    | high x => exact absurd a x
    | mid x => exact absurd a x
  | high a b _ ih =>
    cases g with
    | stop _ x => exact absurd b x
    | low x => exact absurd x a
    | high _ _ g => obtain ⟨rfl, e⟩ := ih g; exact ⟨rfl, e⟩
    | mid _ x => exact absurd b x
  | mid a b c _ ih =>
    cases g with
    | stop _ _ x => exact absurd c x
    | low x => exact absurd x a
    | high _ x => exact absurd x b
    | mid _ _ _ g => obtain ⟨rfl, e⟩ := ih g; exact ⟨rfl, e⟩
/-- the doublings of a register, where it ends, what waits -/
structure Nz where
  n : Nat
  l : Int
  z : Int
  t : Nat
def NzOk (q l z : Int) (x : Nz) : Prop := Dbl q l z x.n x.l x.z ∧ ∃ bs, Nm q l z 0 x.l x.z x.t bs
open Classical in
noncomputable def nz (q l z : Int) : Nz := if h : ∃ x, NzOk q l z x then h.choose else ⟨0, l, z, 0⟩
theorem nz_eq {q l z : Int} {x : Nz} (h : NzOk q l z x) : nz q l z = x := by
  have e : ∃ x, NzOk q l z x := ⟨x, h⟩
  unfold nz
  rw [dif_pos e]
  have g := e.choose_spec
  generalize e.choose = y at g
  obtain ⟨a, b, c, d⟩ := x
  obtain ⟨a', b', c', d'⟩ := y
  obtain ⟨h1, bs, h2⟩ := h
  obtain ⟨g1, bs', g2⟩ := g
  dsimp only at *
  obtain ⟨rfl, rfl, rfl⟩ := g1.fn h1
  obtain ⟨_, _, rfl, _⟩ := g2.fn h2
  rfl
/-- a way with its chance top / bot -/
structure Wr where
  r : Rw
  top : Int
  bot : Int
noncomputable def Wr.nz (q : Int) (x : Wr) : Nz := K59.nz q x.r.l x.r.N
noncomputable def kidW (S : Stt) (q : Int) (x : Wr) (o : Nat) : Wr := ⟨kid S (x.nz q).n (x.nz q).l (x.nz q).z x.r o, x.top * (kid S (x.nz q).n (x.nz q).l (x.nz q).z x.r o).N, x.bot * (x.nz q).z⟩
noncomputable def kidsW (S : Stt) (q : Int) (x : Wr) (i : Nat) : List Wr := ((List.range i).filter fun o => decide (0 < S.ps[o]?.getD 0)).map (kidW S q x)
theorem kidsW_s {S : Stt} {q : Int} {x : Wr} {i : Nat} : kidsW S q x (i + 1) = if 0 < S.ps[i]?.getD 0 then kidsW S q x i ++ [kidW S q x i] else kidsW S q x i := by
  unfold kidsW
  rw [List.range_succ, List.filter_append]
  split
  · rename_i h
    simp [h]
  · rename_i h
    simp [h]
theorem kidsW_r {S : Stt} {q : Int} {x : Wr} {i : Nat} : (kidsW S q x i).map Wr.r = kids S (x.nz q).n (x.nz q).l (x.nz q).z x.r i := by
  unfold kidsW kids
  rw [List.map_map]
  rfl
noncomputable def nextW (m : List Stt) (q : Int) (x : Wr) : List Wr := match m[x.r.a]? with
  | some S => kidsW S q x S.ps.length
  | none => []
noncomputable def Wk (m : List Stt) (q : Int) (w : Nat) : Nat → List Wr
  | 0 => [⟨root q w, 1, 1⟩]
  | k + 1 => (Wk m q w k).flatMap (nextW m q)
/-- what a row of all_ways keeps -/
structure Wok (m : List Stt) (q : Int) (w i : Nat) (x : Wr) : Prop where
  r : Rok m q w x.r
  len : x.r.os.length = i
  nz : NzOk q x.r.l x.r.N (x.nz q)
  tb : Tb x.r.N x.r.B x.top x.bot
  t0 : 0 < x.top ∧ x.top ≤ 2 ^ (5 * i)
  b0 : 0 < x.bot ∧ x.bot ≤ 2 ^ (5 * i)
theorem Nm.ex {q : Int} : ∀ (k : Nat) (l z : Int) (t : Nat), (4 * q - z).toNat ≤ k → Rg q l z → ∃ l' z' t' bs, Nm q l z t l' z' t' bs := by
  intro k
  induction k with
  | zero =>
    intro l z t hk hr
    unfold Rg at hr
    exact ⟨l, z, t, [], .stop (by omega) (by omega) (by omega)⟩
  | succ k ih =>
    intro l z t hk hr
    by_cases a : l + z ≤ 2 * q
    · obtain ⟨l', z', t', bs, h⟩ := ih (2 * l) (2 * z) 0 (by unfold Rg at hr; omega) (hr.low a)
      exact ⟨l', z', t', _, .low a h⟩
    · by_cases b : 2 * q ≤ l
      · obtain ⟨l', z', t', bs, h⟩ := ih (2 * (l - 2 * q)) (2 * z) 0 (by unfold Rg at hr; omega) (hr.high b)
        exact ⟨l', z', t', _, .high a b h⟩
      · by_cases c : q ≤ l ∧ l + z ≤ 2 * q + q
        · obtain ⟨l', z', t', bs, h⟩ := ih (2 * (l - q)) (2 * z) (t + 1) (by unfold Rg at hr; omega) (hr.mid c)
          exact ⟨l', z', t', _, .mid a b c h⟩
        · exact ⟨l, z, t, [], .stop a b c⟩
theorem nz_ok {q l z : Int} (hr : Rg q l z) : NzOk q l z (nz q l z) := by
  obtain ⟨l', z', t', bs, h⟩ := Nm.ex _ l z 0 (Nat.le_refl _) hr
  obtain ⟨n, hd⟩ := h.dbl
  have : NzOk q l z ⟨n, l', z', t'⟩ := ⟨hd, bs, h⟩
  rw [nz_eq this]
  exact this
theorem Wok.root {m : List Stt} {q : Int} {w : Nat} (hq : 2 ≤ q) (hw : 4 * q = 2 ^ w) : Wok m q w 0 ⟨root q w, 1, 1⟩ :=
  ⟨root_ok, rfl, nz_ok (by unfold Rg; simp [K59.root]; omega), Tb.zero hw, by simp, by simp⟩
theorem Wok.kid {m : List Stt} {q : Int} {w i n0 o : Nat} {x : Wr} {S : Stt} (hq : 2 ≤ q) (hw : 4 * q = 2 ^ w) (hw5 : w ≤ 5) (hm : Mok n0 m) (hf : Fit q m) (h : Wok m q w i x) (h1 : m[x.r.a]? = some S) (ho : o < S.ps.length) (hp : 0 < S.ps[o]) : Wok m q w (i + 1) (kidW S q x o) := by
  have hP : S.ps[o]? = some S.ps[o] := List.getElem?_eq_getElem ho
  have hk := kid_ok hm h.r h.nz.1 h1 hP hp
  have hrg := Sn.rg hq hm hf hk
  have hr0 := (h.nz.1.rg (Sn.rg hq hm hf h.r)).1
  have hw6 : 4 * q ≤ 32 := by
    rw [hw]
    have := Nat.pow_le_pow_right (n := 2) (by decide) hw5
    exact_mod_cast this
  have e5 : (2 : Int) ^ (5 * (i + 1)) = 2 ^ (5 * i) * 32 := by rw [Nat.mul_add, Int.pow_add]; rfl
  refine ⟨hk, ?_, nz_ok hrg, h.tb.step h.nz.1.size, ?_, ?_⟩
  · show ((x.r.os ++ [o]).length = i + 1)
    rw [List.length_append, h.len]
    rfl
  · have t := h.t0
    unfold Rg at hrg
    refine ⟨Int.mul_pos t.1 (by omega), ?_⟩
    rw [e5]
    exact Int.mul_le_mul t.2 (by show (K59.kid S _ _ _ _ _).N ≤ 32; omega) (by show 0 ≤ (K59.kid S _ _ _ _ _).N; omega) (by omega)
  · have t := h.b0
    unfold Rg at hr0
    refine ⟨Int.mul_pos t.1 (by omega), ?_⟩
    rw [e5]
    exact Int.mul_le_mul t.2 (by omega) (by omega) (by omega)
theorem kidsW_ok {m : List Stt} {q : Int} {w i n0 j : Nat} {x : Wr} {S : Stt} (hq : 2 ≤ q) (hw : 4 * q = 2 ^ w) (hw5 : w ≤ 5) (hm : Mok n0 m) (hf : Fit q m) (h : Wok m q w i x) (h1 : m[x.r.a]? = some S) (hj : j ≤ S.ps.length) : ∀ y ∈ kidsW S q x j, Wok m q w (i + 1) y := by
  intro y hy
  unfold kidsW at hy
  obtain ⟨o, ho, rfl⟩ := List.mem_map.mp hy
  obtain ⟨ho1, ho2⟩ := List.mem_filter.mp ho
  have hlt := List.mem_range.mp ho1
  have hP : S.ps[o]? = some S.ps[o] := List.getElem?_eq_getElem (by omega)
  rw [decide_eq_true_eq, hP, Option.getD_some] at ho2
  exact h.kid hq hw hw5 hm hf h1 (by omega) ho2
theorem Wk_ok {m : List Stt} {q : Int} {w n0 : Nat} (hq : 2 ≤ q) (hw : 4 * q = 2 ^ w) (hw5 : w ≤ 5) (hm : Mok n0 m) (hf : Fit q m) : ∀ i, ∀ x ∈ Wk m q w i, Wok m q w i x
  | 0, x, hx => by
    simp [Wk] at hx
    subst hx
    exact .root hq hw
  | i + 1, x, hx => by
    unfold Wk at hx
    obtain ⟨y, hy, hx⟩ := List.mem_flatMap.mp hx
    have hy' := Wk_ok hq hw hw5 hm hf i y hy
    unfold nextW at hx
    split at hx
    · rename_i S h1
      exact kidsW_ok hq hw hw5 hm hf hy' h1 (Nat.le_refl _) x hx
    · simp at hx
theorem Wk_tile {m : List Stt} {q : Int} {w n0 : Nat} (hq : 2 ≤ q) (hw : 4 * q = 2 ^ w) (hw5 : w ≤ 5) (hm : Mok n0 m) (hf : Fit q m) : ∀ i, Tile (at2 0 0) ((Wk m q w i).map Wr.r) (at2 1 0)
  | 0 => root_tile hw
  | i + 1 => by
    have ih := Wk_tile hq hw hw5 hm hf i
    unfold Wk
    have e : ((Wk m q w i).flatMap (nextW m q)).map Wr.r = ((Wk m q w i).map Wr.r).flatMap fun r => match m[r.a]? with
        | some S => kids S (nz q r.l r.N).n (nz q r.l r.N).l (nz q r.l r.N).z r S.ps.length
        | none => [] := by
      rw [List.map_flatMap, List.flatMap_map]
      congr 1
      funext x
      unfold nextW
      cases m[x.r.a]? with
      | none => rfl
      | some S => exact kidsW_r
    rw [e]
    refine Tile.bind (fun r hr => ?_) ih
    obtain ⟨x, hx, rfl⟩ := List.mem_map.mp hr
    have hok := Wk_ok hq hw hw5 hm hf i x hx
    have h1 : m[x.r.a]? = some _ := List.getElem?_eq_getElem (hok.r.lt hm)
    rw [h1]
    have hS := hm.st _ (List.mem_of_getElem? h1)
    exact kids_all (by have := hS.s; omega) hok.nz.1.size
/-- a way of k outcomes has as many bits as the one ahead of it and its doublings -/
theorem Wk_par {m : List Stt} {q : Int} {w i : Nat} {x : Wr} (h : x ∈ Wk m q w (i + 1)) : ∃ y ∈ Wk m q w i, x.r.B = y.r.B + (y.nz q).n := by
  unfold Wk at h
  obtain ⟨y, hy, hx⟩ := List.mem_flatMap.mp h
  refine ⟨y, hy, ?_⟩
  unfold nextW at hx
  split at hx
  · unfold kidsW at hx
    obtain ⟨o, _, rfl⟩ := List.mem_map.mp hx
    rfl
  · simp at hx
end Cb.K59

namespace Cb.K59
open PySem PySem.Spec PyProof.Rows L2
variable {k : Nat} {st : Store} {Q : K1}
/-- a row of _law_all_ways -/
noncomputable def wrD (q : Int) (x : Wr) : D := .tup [.tup (x.r.os.map nd), .int x.top, .int x.bot, .int ((x.r.B + (x.nz q).n : Nat)), .tup [.int (x.nz q).l, .int (x.nz q).z, .int ((x.nz q).t : Nat)], .int (x.r.a : Nat)]
noncomputable def wrO (q : Int) (x : Wr) : D := .tup [.tup (x.r.os.map nd), .int x.top, .int x.bot, .int ((x.r.B + (x.nz q).n : Nat))]
theorem all_ways_ok {n w kk : Nat} {q : Int} {m : List Stt} (hm : Mok n m) (hw : Wd w q) (hf : Fit q m) (hw5 : w ≤ 5) (hk : kk ≤ 4)
    (hq : ∀ (xs : List Wr) (fn : Nat) (more : Store), (st ++ more)[fn]? = some (.lst (xs.map (wrO q))) → ((xs = [] ∧ ∃ i, i < kk ∧ 60 < (Wk m q w (i + 1)).length) ∨ (xs = Wk m q w kk ∧ ∀ i, i < kk → (Wk m q w (i + 1)).length ≤ 60)) → Q (.ref fn) (st ++ more)) : F (k + 3) 45 [modD m, .int (w : Nat), .int (kk : Nat)] st Q := by
  have hb := hw.b
  have h3 := hw.hw
  refine run_step (fd := ⟨3, 22, b45⟩) rfl rfl ?_
  unfold b45
  refine seq_i fun X hX => ?_
  simp [startD]
  have hw2 := hw.q1
  refine ⟨shl_ok (by omega) (by omega) (by omega), ?_⟩
  have e4 : (4 : Int) * q = 2 ^ w := by
    have e : (2 : Int) ^ w = 2 ^ (w - 1) * 2 := by rw [← Int.pow_succ]; congr 1; omega
    rw [e]
    have := hw.q1
    have e' : ((w : Int) - 1).toNat = w - 1 := by omega
    rw [e'] at this
    omega
  have hroot : (⟨root q w, 1, 1⟩ : Wr).nz q = ⟨0, 0, 4 * q, 0⟩ := by
    show nz q 0 (4 * q) = _
    exact nz_eq ⟨.stop (by omega) (by omega) (by omega), [], .stop (by omega) (by omega) (by omega)⟩
  refine hX _ _ (seq_i fun X2 hX2 => ?_)
  clear hX X
  have hfn : (st ++ [Cell.lst [D.tup [D.tup [], D.int 1, D.int 1, D.int ↑w, D.tup [D.int 0, D.int (2 ^ w), D.int 0], D.int 0]]])[st.length]? = some (Cell.lst ((Wk m q w 0).map (wrD q))) := by
    rw [get_last]
    simp only [Wk, List.map_cons, List.map_nil, wrD, hroot]
    simp [root, e4]
  generalize st.length = fn at hfn ⊢
  generalize hst : st ++ [Cell.lst [D.tup [D.tup [], D.int 1, D.int 1, D.int ↑w, D.tup [D.int 0, D.int (2 ^ w), D.int 0], D.int 0]]] = st0 at hfn ⊢
  have hmore : ∃ more, st0 = st ++ more := ⟨_, hst.symm⟩
  clear hst
  simp
  rw [if_pos (small62_of (by omega))]
  simp
  have hWk := Wk_ok hb.1 e4 hw5 hm hf
  refine for_rng (fun i ρ st' => ∃ (fn : Nat) (more : Store) (xs : List (Option D)), xs.length = 18 ∧ ρ = some (modD m) :: some (.int (w : Nat)) :: some (.int (kk : Nat)) :: some (.ref fn) :: xs ∧ st' = st ++ more ∧ st'[fn]? = some (.lst ((Wk m q w i).map (wrD q))) ∧ (Wk m q w i).length ≤ 60 ∧ ∀ j, j < i → (Wk m q w (j + 1)).length ≤ 60) ?_ (fun i ρ st2 Y hi h hY => ?_) (fun ρ st2 h => ?_)
  · obtain ⟨more, e⟩ := hmore
    exact ⟨fn, more, List.replicate 18 none, rfl, rfl, e, hfn, by simp [Wk], fun j hj => absurd hj (by omega)⟩
  · obtain ⟨fn2, more, xs, hx, e1, e2, hf2, hl, hle⟩ := h
    obtain ⟨x4, x5, x6, x7, x8, x9, x10, x11, x12, x13, x14, x15, x16, x17, x18, x19, x20, x21, rfl⟩ : ∃ x4 x5 x6 x7 x8 x9 x10 x11 x12 x13 x14 x15 x16 x17 x18 x19 x20 x21, xs = [x4, x5, x6, x7, x8, x9, x10, x11, x12, x13, x14, x15, x16, x17, x18, x19, x20, x21] := by
      match xs, hx with
      | [a, b, c, d, e, f, g, h, i, j, k, l, m, n, o, p, q, r], _ => exact ⟨a, b, c, d, e, f, g, h, i, j, k, l, m, n, o, p, q, r, rfl⟩
    subst e1
    have hWi := hWk i
    refine ⟨_, rfl, seq_i fun X5 hX5 => ?_⟩
    simp
    refine hX5 _ _ (seq_i fun X6 hX6 => ?_)
    clear hX5 X5
    have hfl := (List.getElem?_eq_some_iff.mp hf2).1
    have hf3 := get_app hf2 [Cell.lst []]
    simp [srcOf, hf3]
    refine for_live (n := fn2) (xs := (Wk m q w i).map (wrD q)) (fun j ρ st3 => ∃ (more3 : Store) (ys : List (Option D)), ys.length = 16 ∧ ρ = some (modD m) :: some (.int (w : Nat)) :: some (.int (kk : Nat)) :: some (.ref fn2) :: some (.int (i : Nat)) :: some (.ref st2.length) :: ys ∧ st3 = st2 ++ more3 ∧ st3[st2.length]? = some (.lst ((((Wk m q w i).take j).flatMap (nextW m q)).map (wrD q))) ∧ (((Wk m q w i).take j).flatMap (nextW m q)).length ≤ 8 * j) ⟨[Cell.lst []], [x6, x7, x8, x9, x10, x11, x12, x13, x14, x15, x16, x17, x18, x19, x20, x21], rfl, rfl, rfl, by simp, by simp⟩ (fun j ρ st3 ⟨more3, _, _, _, e, _⟩ => by subst e; simp only [Src.at, get_app hf2 more3]) (fun j d ρ st3 Z hd ⟨more3, ys, hy, e3, e5, hls, hll⟩ hZ => ?_) (fun ρ st3 ⟨more3, ys, hy, e3, e5, hls, hll⟩ => ?_)
    · rw [List.getElem?_map] at hd
      obtain ⟨x, hp, rfl⟩ := Option.map_eq_some_iff.mp hd
      have hj := (List.getElem?_eq_some_iff.mp hp).1
      have hx' := hWi x (List.mem_of_getElem? hp)
      have hR := hx'.r
      have hnz := hx'.nz.1
      have hf1 : ((Wk m q w i).take (j + 1)).flatMap (nextW m q) = ((Wk m q w i).take j).flatMap (nextW m q) ++ nextW m q x := by rw [take_succ hp, List.flatMap_append]; simp
      rw [hf1] at hZ
      generalize ((Wk m q w i).take j).flatMap (nextW m q) = ls at hls hll hZ
      obtain ⟨x6, x7, x8, x9, x10, x11, x12, x13, x14, x15, x16, x17, x18, x19, x20, x21, rfl⟩ : ∃ x6 x7 x8 x9 x10 x11 x12 x13 x14 x15 x16 x17 x18 x19 x20 x21, ys = [x6, x7, x8, x9, x10, x11, x12, x13, x14, x15, x16, x17, x18, x19, x20, x21] := by
        match ys, hy with
        | [c, d, e, f, g, h, i, j, k, l, m, n, o, p, q, r], _ => exact ⟨c, d, e, f, g, h, i, j, k, l, m, n, o, p, q, r, rfl⟩
      subst e3
      simp [wrD]
      refine seq_i fun X7 hX7 => ?_
      simp [modD]
      obtain ⟨S, g1⟩ : ∃ S, m[x.r.a]? = some S := ⟨_, List.getElem?_eq_getElem (hR.lt hm)⟩
      have hS := hm.st S (List.mem_of_getElem? g1)
      have hnx : nextW m q x = kidsW S q x S.ps.length := by unfold nextW; rw [g1]
      rw [hnx] at hZ
      refine ⟨_, at_map g1, ?_⟩
      simp [stD]
      refine hX7 _ _ (seq_i fun X10 hX10 => ?_)
      clear hX7 X7
      have hRg := Sn.rg hb.1 hm hf hR
      have hr5 := (hnz.rg hRg).1
      have ht0 := hx'.t0
      have hb0 := hx'.b0
      have hkid := fun o => hx'.kid (o := o) hb.1 e4 hw5 hm hf g1
      have hp20 : (2 : Int) ^ (5 * i) ≤ 2 ^ 20 := by
        have p := Nat.pow_le_pow_right (n := 2) (by decide) (show 5 * i ≤ 20 by omega)
        exact_mod_cast p
      unfold Rg at hr5
      simp [tabD, nd]
      refine for_enum (fun o ρ st6 => ∃ (more6 : Store) (ys : List (Option D)), ys.length = 8 ∧ ρ = some (modD m) :: some (.int (w : Nat)) :: some (.int (kk : Nat)) :: some (.ref fn2) :: some (.int (i : Nat)) :: some (.ref st2.length) :: some (.tup (x.r.os.map nd)) :: some (.int x.top) :: some (.int x.bot) :: some (.int ((x.r.B + (x.nz q).n : Nat))) :: some (.tup [.int (x.nz q).l, .int (x.nz q).z, .int ((x.nz q).t : Nat)]) :: some (.int (x.r.a : Nat)) :: some (tabD S.ps) :: some (rowD S.fs) :: ys ∧ st6 = st2 ++ more6 ∧ st6[st2.length]? = some (.lst ((ls ++ kidsW S q x o).map (wrD q)))) ⟨more3, [x14, x15, x16, x17, x18, x19, x20, x21], rfl, by simp [modD, tabD, nd], e5, by simpa [kidsW] using hls⟩ (fun o d ρ st6 W ho ⟨more6, zs, hz, e6, e7, hl6⟩ hW => ?_) (fun ρ st6 ⟨more6, zs, hz, e6, e7, hl6⟩ => ?_)
      · rw [List.getElem?_map] at ho
        obtain ⟨P, hP, rfl⟩ := Option.map_eq_some_iff.mp ho
        have hol := (List.getElem?_eq_some_iff.mp hP).1
        obtain ⟨y14, y15, y16, y17, y18, y19, y20, y21, rfl⟩ : ∃ y14 y15 y16 y17 y18 y19 y20 y21, zs = [y14, y15, y16, y17, y18, y19, y20, y21] := by
          match zs, hz with
          | [a, b, c, d, e, f, g, h], _ => exact ⟨a, b, c, d, e, f, g, h, rfl⟩
        subst e6
        have hks := kidsW_s (S := S) (q := q) (x := x) (i := o)
        rw [hP, Option.getD_some] at hks
        refine ⟨_, rfl, seq_i fun X11 hX11 => ite_i fun A B hA hB => ?_⟩
        simp [fp, fr]
        refine Br.dec (fun h => hA _ ?_) (fun h => hB _ (hX11 _ _ ?_))
        · have hP0 : 0 < P := by
            refine Nat.pos_of_ne_zero fun z => ?_
            subst z
            simp at h
          rw [if_pos hP0] at hks
          obtain ⟨_, eP⟩ := List.getElem?_eq_some_iff.mp hP
          have hK := hkid o hol (by omega)
          obtain ⟨s', hs', _⟩ := hS.nxt hP
          have ekr : (kidW S q x o).r = ⟨x.r.os ++ [o], 2 ^ (x.nz q).n * x.r.F + cA S.ps o (x.nz q).z, cB S.ps o P (x.nz q).z - cA S.ps o (x.nz q).z, x.r.B + (x.nz q).n, s', (x.nz q).l + cA S.ps o (x.nz q).z⟩ := by
            unfold kidW kid
            simp [hP, hs']
          have ekt : (kidW S q x o).top = x.top * (cB S.ps o P (x.nz q).z - cA S.ps o (x.nz q).z) := by
            show x.top * (kidW S q x o).r.N = _
            rw [ekr]
          have ekb : (kidW S q x o).bot = x.bot * (x.nz q).z := rfl
          have hKr := Sn.rg hb.1 hm hf hK.r
          have hKd := hK.nz
          have hpos := hK.r.pos hb.1 hm hf
          have hfew := step_few hb.1 hm hf hK.r hK.nz.1
          refine seq_i fun X12 hX12 => ?_
          simp [permN, permL]
          refine law_part_ok (k := k) (by have := hS.s; omega) (by have := hS.pl; have := hm.hn; omega) hP (by omega) fun y => ?_
          simp
          refine hX12 _ _ (seq_i fun X13 hX13 => ?_)
          clear hX12 X12
          have hl7 := get_app hl6 [y]
          have e8 : st6 ++ [y] = st2 ++ (more6 ++ [y]) := by rw [e7, List.append_assoc]
          generalize st6 ++ [y] = st7 at hl7 e8 ⊢
          simp [permN, permL]
          rw [ekr] at hKr hKd hpos
          dsimp only at hKr hKd hpos
          refine widened_ok (k := k + 1) (t := 0) (xs := []) hw hKr (by omega) (by simp) fun l1 z1 t1 bs hnm _ _ => ?_
          obtain ⟨dn, hdn⟩ := hnm.dbl
          have enz : (kidW S q x o).nz q = ⟨dn, l1, z1, t1⟩ := nz_eq (by rw [ekr]; exact ⟨hdn, bs, hnm⟩)
          rw [enz] at hKd hfew
          dsimp only at hfew
          clear hnm
          simp
          refine hX13 _ _ (seq_i fun X14 hX14 => ?_)
          clear hX13 X13
          simp
          rw [if_pos (small62_of (by omega))]
          simp
          have hr4 := hKr
          unfold Rg at hr4
          generalize hN : cB S.ps o P (x.nz q).z - cA S.ps o (x.nz q).z = N at *
          refine lc_rng (fun i acc st4 => acc = (fits N z1 i).map nd ∧ st4 = st7) ⟨by simp [fits], rfl⟩ (fun s acc st4 V hs ⟨e6, e9⟩ hV => ?_) (fun acc st4 ⟨e6, e9⟩ => ?_)
          · subst e6 e9
            have hfl : (fits N z1 s).length ≤ s := by
              unfold fits
              exact Nat.le_trans (List.length_filter_le _ _) (by simp)
            refine ⟨_, rfl, ?_⟩
            simp [wipeD]
            rw [hN]
            refine ⟨shl_ok (by omega) (by omega) (by omega), ?_⟩
            refine Br.dec (fun h => ⟨by omega, hV _ _ ⟨?_, rfl⟩⟩) (fun h => hV _ _ ⟨?_, rfl⟩)
            · rw [fits_s, if_pos h]
              simp [nd]
            · rw [fits_s, if_neg h]
          · subst e6 e9
            have hone := fits_one (i := 40) hpos hdn.size (by omega)
            refine ⟨nd dn, lst_ix0 get_last (by rw [List.getElem?_map, hone]; rfl), ?_⟩
            refine hX14 _ _ ?_
            clear hX14 X14
            have hl8 := get_app hl7 [Cell.lst ((fits N z1 40).map nd)]
            have e9 : st4 ++ [Cell.lst ((fits N z1 40).map nd)] = st2 ++ (more6 ++ [y] ++ [Cell.lst ((fits N z1 40).map nd)]) := by rw [e8, List.append_assoc]
            generalize st4 ++ [Cell.lst ((fits N z1 40).map nd)] = st8 at hl8 e9 ⊢
            obtain ⟨more7, em7⟩ : ∃ more7, st8.set st2.length (Cell.lst (List.map (wrD q) (ls ++ kidsW S q x o) ++ [wrD q (kidW S q x o)])) = st2 ++ more7 := by
              rw [e9]
              exact set_app (Nat.le_refl _)
            have hl9 : (st8.set st2.length (Cell.lst (List.map (wrD q) (ls ++ kidsW S q x o) ++ [wrD q (kidW S q x o)])))[st2.length]? = _ := get_set hl8
            have hkl : (kidsW S q x o).length ≤ o := by
              unfold kidsW
              rw [List.length_map]
              exact Nat.le_trans (List.length_filter_le _ _) (by simp)
            have ek : wrD q (kidW S q x o) = D.tup [D.tup (List.map nd x.r.os ++ [D.int ↑o]), D.int (x.top * N), D.int (x.bot * (x.nz q).z), D.int (↑x.r.B + ↑(x.nz q).n + ↑dn), D.tup [D.int l1, D.int z1, D.int ↑t1], nd s'] := by
              unfold wrD
              rw [enz, ekr, ekt, ekb]
              simp [nd]
            have hos := hx'.len
            simp [wps_seq]
            rw [hN]
            refine ⟨_, lst_listS hl8, by omega, mul_okL (by omega), mul_okL (by omega), ?_⟩
            show som _ _
            refine ⟨nd s', by simp [rowD, ti]; exact at_row hs', ?_⟩
            rw [ek] at em7 hl9
            refine lst_append hl8 (by have := hS.pl; have := hm.hn; simp; omega) ?_
            refine hX11 _ _ ?_
            show W _ _
            exact hW _ _ ⟨more7, [_, _, _, _, _, _, _, _], rfl, rfl, em7, by rw [hl9, ← ek, hks, ← List.append_assoc, List.map_append, List.map_append, List.map_append]; rfl⟩
        · have hP0 : ¬ 0 < P := fun z => h (by have := fp_top (S := S.ps.sum) (P := P) (by have := hS.s; omega) z; omega)
          rw [if_neg hP0] at hks
          show W _ _
          exact hW _ _ ⟨more6, [_, _, _, _, _, _, _, _], rfl, rfl, e7, by rw [hks]; exact hl6⟩
      · obtain ⟨y14, y15, y16, y17, y18, y19, y20, y21, rfl⟩ : ∃ y14 y15 y16 y17 y18 y19 y20 y21, zs = [y14, y15, y16, y17, y18, y19, y20, y21] := by
          match zs, hz with
          | [a, b, c, d, e, f, g, h], _ => exact ⟨a, b, c, d, e, f, g, h, rfl⟩
        subst e6
        rw [List.length_map] at hl6
        refine hX10 _ _ ?_
        simp
        refine hZ _ _ ⟨more6, _, rfl, rfl, e7, hl6, ?_⟩
        have hkl : (kidsW S q x S.ps.length).length ≤ S.ps.length := by
          unfold kidsW
          rw [List.length_map]
          exact Nat.le_trans (List.length_filter_le _ _) (by simp)
        rw [List.length_append]
        have := hS.pl
        have := hm.hn
        omega
    · subst e3
      rw [List.length_map, List.take_length] at hll hls
      obtain ⟨x6, x7, x8, x9, x10, x11, x12, x13, x14, x15, x16, x17, x18, x19, x20, x21, rfl⟩ : ∃ x6 x7 x8 x9 x10 x11 x12 x13 x14 x15 x16 x17 x18 x19 x20 x21, ys = [x6, x7, x8, x9, x10, x11, x12, x13, x14, x15, x16, x17, x18, x19, x20, x21] := by
        match ys, hy with
        | [c, d, e, f, g, h, i, j, k, l, m, n, o, p, q, r], _ => exact ⟨c, d, e, f, g, h, i, j, k, l, m, n, o, p, q, r, rfl⟩
      have hnx : Wk m q w (i + 1) = (Wk m q w i).flatMap (nextW m q) := rfl
      rw [← hnx] at hll hls
      refine hX6 _ _ (seq_i fun X7 hX7 => ?_)
      simp
      refine hX7 _ _ (seq_i fun X8 hX8 => ite_i fun A B hA hB => ?_)
      simp
      rw [bl_lenL hls, c_gt]
      refine Br.dec (fun h => hA _ ?_) (fun h => hB _ (hX8 _ _ ?_))
      · rw [List.length_map] at h
        simp [wps_seq]
        have e9 : st3 ++ [Cell.lst []] = st ++ (more ++ (more3 ++ [Cell.lst []])) := by rw [e5, e2]; simp
        rw [e9]
        exact hq [] _ _ (by rw [← e9]; exact get_last) (.inl ⟨rfl, i, hi, by omega⟩)
      · rw [List.length_map] at h
        simp
        refine hY _ _ ⟨st2.length, more ++ more3, _, rfl, rfl, by rw [e5, e2, List.append_assoc], hls, by omega, fun j hj => ?_⟩
        rcases Nat.lt_succ_iff_lt_or_eq.mp hj with z | z
        · exact hle j z
        · subst z
          omega
  · obtain ⟨fn2, more, xs, hx, e1, e2, hf2, hl, hle⟩ := h
    obtain ⟨x4, x5, x6, x7, x8, x9, x10, x11, x12, x13, x14, x15, x16, x17, x18, x19, x20, x21, rfl⟩ : ∃ x4 x5 x6 x7 x8 x9 x10 x11 x12 x13 x14 x15 x16 x17 x18 x19 x20 x21, xs = [x4, x5, x6, x7, x8, x9, x10, x11, x12, x13, x14, x15, x16, x17, x18, x19, x20, x21] := by
      match xs, hx with
      | [a, b, c, d, e, f, g, h, i, j, k, l, m, n, o, p, q, r], _ => exact ⟨a, b, c, d, e, f, g, h, i, j, k, l, m, n, o, p, q, r, rfl⟩
    subst e1
    refine hX2 _ _ ?_
    simp [wps_seq]
    refine ⟨_, by rw [lst_src hf2]; rfl, ?_⟩
    refine lc_live (n := fn2) (xs := (Wk m q w kk).map (wrD q)) (fun j acc st3 => acc = ((Wk m q w kk).take j).map (wrO q) ∧ st3 = st2) ⟨by simp, rfl⟩ (fun j acc st3 ⟨_, e⟩ => by subst e; exact lst_live hf2) (fun j d acc st3 Z hd ⟨e3, e5⟩ hZ => ?_) (fun acc st3 ⟨e3, e5⟩ => ?_)
    · subst e3 e5
      rw [List.getElem?_map] at hd
      obtain ⟨x, hp, rfl⟩ := Option.map_eq_some_iff.mp hd
      have hj := (List.getElem?_eq_some_iff.mp hp).1
      refine ⟨_, rfl, ?_⟩
      simp [wipeD, wrD]
      refine ⟨by omega, hZ _ _ ⟨?_, rfl⟩⟩
      rw [take_succ hp, List.map_append, List.map_take]
      have e4' : cut [D.tup (List.map nd x.r.os), D.int x.top, D.int x.bot, D.int (↑x.r.B + ↑(x.nz q).n), D.tup [D.int (x.nz q).l, D.int (x.nz q).z, D.int ↑(x.nz q).t], D.int ↑x.r.a] none (some 4) = [D.tup (List.map nd x.r.os), D.int x.top, D.int x.bot, D.int (↑x.r.B + ↑(x.nz q).n)] := cut_to (n := 4)
      rw [e4']
      simp [wrO]
    · subst e3 e5
      rw [List.length_map, List.take_length]
      have e9 : st3 ++ [Cell.lst ((Wk m q w kk).map (wrO q))] = st ++ (more ++ [Cell.lst ((Wk m q w kk).map (wrO q))]) := by rw [e2]; simp
      rw [e9]
      exact hq _ _ _ (by rw [← e9]; exact get_last) (.inr ⟨rfl, hle⟩)
end Cb.K59

namespace Cb.K59
open PySem PySem.Spec PyProof.Rows L2
variable {k : Nat} {st : Store} {Q : K1}
/-! ### the law's greatest common divisor, for great numbers -/
theorem gcd_half {x y : Nat} (h : y ≤ x) : 2 * (y * (x % y)) ≤ x * y := by
  by_cases hy : y = 0
  · subst hy; simp
  · have h1 := Nat.mod_lt x (show 0 < y by omega)
    have h2 : y + x % y ≤ x := by
      have := Nat.mod_add_div x y
      have h3 : 1 ≤ x / y := (Nat.one_le_div_iff (by omega)).mpr h
      have h4 : y * 1 ≤ y * (x / y) := Nat.mul_le_mul_left _ h3
      omega
    have h5 : (2 * (x % y)) * y ≤ x * y := Nat.mul_le_mul_right _ (by omega)
    have e : 2 * (y * (x % y)) = (2 * (x % y)) * y := by rw [Nat.mul_assoc, Nat.mul_comm y]
    omega
theorem big_common_ok {a b : Nat} (hab : a * b < 2 ^ 2990) (q : Q (.int (Nat.gcd a b : Nat)) st) : F (k + 1) 39 [.int (a : Nat), .int (b : Nat)] st Q := by
  refine run_step (fd := ⟨2, 3, b39⟩) rfl rfl ?_
  unfold b39
  refine seq_i fun X hX => ?_
  simp [startD]
  rw [if_pos (small62_of (by omega))]
  simp
  have fin : ∀ (x : Nat) (y2 y3 : Option D), x = Nat.gcd a b → X [some (.int (x : Nat)), y2, y3] st := fun x y2 y3 e => by
    refine hX _ _ ?_
    subst e
    simp [wps_seq]
    exact q
  refine for_rng (fun i ρ st' => st' = st ∧ ∃ (x y : Nat) (x2 : Option D), ρ = [some (.int (x : Nat)), some (.int (y : Nat)), x2] ∧ Nat.gcd x y = Nat.gcd a b ∧ ((i = 0 ∧ x = a ∧ y = b) ∨ (0 < i ∧ y < x ∧ x * y * 2 ^ i ≤ 2 * (a * b)))) ⟨rfl, a, b, none, rfl, rfl, .inl ⟨rfl, rfl, rfl⟩⟩ (fun i ρ st' Y hi ⟨e1, x, y, x2, e2, h1, h2⟩ hY => ?_) (fun ρ st' ⟨e1, x, y, x2, e2, h1, h2⟩ => ?_)
  · subst e1 e2
    refine ⟨_, rfl, seq_i fun X2 hX2 => ite_i fun A B hA hB => ?_⟩
    simp
    refine Br.dec (fun hy => hA _ ?_) (fun hy => hB _ (hX2 _ _ ?_))
    · subst hy
      rw [Nat.gcd_zero_right] at h1
      simp [wps_seq]
      exact fin x _ _ h1
    · simp [wps_seq]
      have hm := Nat.mod_lt x (show 0 < y by omega)
      refine ⟨by omega, hY _ _ ⟨rfl, y, x % y, _, by simp; rfl, ?_, .inr ⟨by omega, hm, ?_⟩⟩⟩
      · rw [← h1, Nat.gcd_comm x y, Nat.gcd_rec y x, Nat.gcd_comm]
      · rcases h2 with ⟨rfl, rfl, rfl⟩ | ⟨h3, h4, h5⟩
        · have : y * (x % y) ≤ x * y := by
            rw [Nat.mul_comm x]
            exact Nat.mul_le_mul_left _ (Nat.mod_le _ _)
          simp
          omega
        · have g := gcd_half (Nat.le_of_lt h4)
          refine Nat.le_trans ?_ h5
          have e : y * (x % y) * 2 ^ (i + 1) = (2 * (y * (x % y))) * 2 ^ i := by rw [Nat.pow_succ]; generalize 2 ^ i = p; rw [Nat.mul_comm p 2, ← Nat.mul_assoc, Nat.mul_comm _ 2]
          rw [e]
          exact Nat.mul_le_mul_right _ g
  · subst e1 e2
    rcases h2 with ⟨h2, _⟩ | ⟨_, h4, h5⟩
    · cases h2
    · have hy : y = 0 := by
        refine Nat.eq_zero_of_not_pos fun hy => ?_
        have h6 : 1 ≤ x * y := Nat.mul_pos (by omega) hy
        have h7 : 1 * 2 ^ 3000 ≤ x * y * 2 ^ 3000 := Nat.mul_le_mul_right _ h6
        have h8 : (2 : Nat) ^ 3000 = 2 ^ 2990 * 1024 := by rw [← Nat.pow_add 2 2990 10]
        generalize (2 : Nat) ^ 2990 = p at *
        generalize (2 : Nat) ^ 3000 = p2 at *
        omega
      subst hy
      rw [Nat.gcd_zero_right] at h1
      exact fin x _ _ h1
theorem lawR_ok {a : Int} {b : Nat} (hb : 0 < b) (hb2 : b < 2 ^ 1000) (ha : a.natAbs < 2 ^ 1000) (q : Q (frR (mkRat a b)) st) : F (k + 2) 40 [.int a, .int (b : Nat)] st Q := by
  have hg : 0 < Nat.gcd a.natAbs b := Nat.gcd_pos_of_pos_right _ hb
  have hg2 : Nat.gcd a.natAbs b ≤ b := Nat.gcd_le_right _ hb
  have hlb : b.log2 < 1000 := (Nat.log2_lt (by omega)).mpr hb2
  have hg3 : il ((Nat.gcd a.natAbs b : Nat) : Int) < 9000 := by
    rw [il_nat]
    exact Nat.lt_of_le_of_lt (log2_mono hg2) (by omega)
  rw [← frR_mk a hb] at q
  refine run_step (fd := ⟨2, 3, b40⟩) rfl rfl ?_
  unfold b40
  refine seq_i fun X2 hX2 => ?_
  simp [startD, permN, permL]
  rw [abs_nat]
  refine big_common_ok ?_ (hX2 _ _ ?_)
  · have h1 : a.natAbs * b ≤ 2 ^ 1000 * 2 ^ 1000 := Nat.mul_le_mul (by omega) (by omega)
    rw [← Nat.pow_add] at h1
    exact Nat.lt_of_le_of_lt h1 (Nat.pow_lt_pow_right (by decide) (by decide))
  · simp [wps_seq]
    exact ⟨div_okB (by omega) hg3, div_okB (by omega) hg3, q⟩
/-- a real chance: a fraction, or the module's own 1 -/
def Rz (fv : D) (c : Rat) : Prop := fv = frR c ∨ fv = .ktp [.int 1, .int 1] ∧ c = 1
theorem Rz.repr {fv : D} {c : Rat} (h : Rz fv c) (hc : RB 1900 c) (q : Q (.str (rep (frR c))) st) : bltS .repr [fv] st Q := by
  rcases h with rfl | ⟨rfl, rfl⟩
  · exact Big.bl_repr (sm_frR hc) q
  · exact ⟨_, _, rfl, rfl, (sm_frR hc).repr, q⟩
theorem lst_eqnil {n e : Nat} {xs : List D} (h : st[n]? = some (.lst xs)) (h2 : st[e]? = some (.lst [])) (hp : Big.plAll xs = true) (hd : depAll xs ≤ 29) : pyEq st (.ref n) (.ref e) = some xs.isEmpty := by
  refine (c_eqU (p := .list (pyAll xs)) (q := .list []) trivial ?_ ?_ ?_).trans ?_
  · show (match st[n]? with | some (.lst xs) => _ | some (.frz xs) => _ | _ => _) = _
    rw [h]
    show (mapO _ _).map _ = _
    rw [Big.toPyAll_pl _ _ 31 hp (by omega)]
    rfl
  · show (match st[e]? with | some (.lst xs) => _ | some (.frz xs) => _ | _ => _) = _
    rw [h2]
    rfl
  · unfold SeqAt.shaped
    simp only [PyData.canLay0, PyData.depth, Big.canLayAll_pl _ hp, Big.depAll_pl _ hp, PyData.canLayAll0, PyData.depthAll]
    simp
    omega
  · cases xs <;> simp [PyData.eqv, PyData.eqvAll, pyAll]
theorem c_eqnil {n e : Nat} {xs : List D} (h : st[n]? = some (.lst xs)) (h2 : st[e]? = some (.lst [])) (hp : Big.plAll xs = true) (hd : depAll xs ≤ 29) (q : Q (.bl xs.isEmpty) st) : cmpS .eq (.ref n) (.ref e) st Q := ⟨_, lst_eqnil h h2 hp hd, q⟩
theorem c_nenil {n e : Nat} {xs : List D} (h : st[n]? = some (.lst xs)) (h2 : st[e]? = some (.lst [])) (hp : Big.plAll xs = true) (hd : depAll xs ≤ 29) (q : Q (.bl (!xs.isEmpty)) st) : cmpS .ne (.ref n) (.ref e) st Q := ⟨_, lst_eqnil h h2 hp hd, q⟩
end Cb.K59

namespace Cb.K59
open PySem PySem.Spec PyProof.Rows L2
variable {k : Nat} {st : Store} {Q : K1} {r c : Nat}
theorem smB {bs : List Int} (h : Bits bs) (hl : bs.length ≤ 2000) : sm (ti bs) = true ∧ dep (ti bs) ≤ 29 ∧ cnt (ti bs) ≤ 9000 :=
  ⟨sm_of_pl _ (pl_ti fun b hb => by have := h b hb; omega), by have := dep_ti (w := bs); omega, by have := cnt_ti (w := bs); omega⟩
theorem smR {is : List Nat} (h : ∀ i ∈ is, i < 8) (hl : is.length ≤ 1000) : sm (rowD is) = true ∧ dep (rowD is) ≤ 29 ∧ cnt (rowD is) ≤ 9000 :=
  ⟨sm_of_pl _ (pl_ti (small_row h (by omega))), by have := dep_ti (w := is.map fun i : Nat => (i : Int)); unfold rowD; omega, by have := cnt_ti (w := is.map fun i : Nat => (i : Int)); rw [List.length_map] at this; unfold rowD; omega⟩
theorem Sm.of {x : D} (h : sm x = true ∧ dep x ≤ 29 ∧ cnt x ≤ 9000) : Sm x := ⟨h.1, by omega, by omega⟩
theorem Wy.small {m : List Stt} {n s : Nat} {os : List Nat} (hm : Mok n m) (h : Wy m s os) : ∀ o ∈ os, o < 8 := by
  induction h with
  | nil => simp
  | cons h1 h2 h3 h4 _ ih =>
    intro o ho
    rcases List.mem_cons.mp ho with rfl | ho
    · have hS := hm.st _ (List.mem_of_getElem? h1)
      have := (List.getElem?_eq_some_iff.mp h2).1
      have := hS.pl
      have := hm.hn
      omega
    · exact ih o ho
theorem add_ti {a b : List Int} (hl : a.length + b.length ≤ 10000) (q : Q (ti (a ++ b)) st) : binS .add (ti a) (ti b) st Q := by
  refine ⟨by simp; omega, ?_⟩
  simpa [ti] using q
theorem wrt_bits {m : List Stt} {q l z : Int} {s t t0 : Nat} {os : List Nat} {bs : List Int} {l0 z0 : Int} (h : Gn m q s l0 z0 t0 os l z t bs) : Bits (wrt q l z t bs) := by
  have hbit := h.bit
  unfold wrt
  split
  · exact hbit
  · split
    · exact fun b hb => (List.mem_append.mp hb).elim (hbit b) (emL_bit b)
    · exact fun b hb => (List.mem_append.mp hb).elim (hbit b) (emH_bit b)
theorem Rok.wy {m : List Stt} {q : Int} {w n0 : Nat} {r : Rw} (hq : 2 ≤ q) (hm : Mok n0 m) (hf : Fit q m) (hw : 4 * q = 2 ^ w) (h : Rok m q w r) : Wy m 0 r.os := by
  obtain ⟨h0, h1, h2⟩ := h.in_all hq hm hf hw
  exact (h.row (x := r.F) (more := []) hq hm hf (by simp) (by omega) (by omega)).wy hm (by have := hm.len; omega)
/-- the row's bits as a tuple -/
theorem row_ti {x : Int} {B : Nat} : D.tup ((List.range B).map fun j => D.int (rowB x B j)) = ti (rowL x B) := by
  simp [ti, rowL, Function.comp_def]
theorem rowL_bits {x : Int} {B : Nat} : Bits (rowL x B) := by
  intro b hb
  unfold rowL at hb
  obtain ⟨j, _, rfl⟩ := List.mem_map.mp hb
  exact rowB_bit
/-- so many drawn bits -/
theorem lbits_ok {a many : Nat} {own : List Nat} {ρ : Env1} {F' : Fm} (hD : Dk st r c) (hm : many ≤ 100)
    (hF : ∀ st' (Q' : K1), Dk st' r c → (∀ (v : Nat) st2, (v : Int) < 2 → Dk st2 r c → Fr r c st' st2 → Q' (.int (v : Int)) st2) → F' 37 [.ref r, .int 2] st' Q')
    (hρ : ∀ d, ∃ ρ1, setTg (.name a) d (wipeD ρ own) = some ρ1 ∧ ρ1[0]? = some (some (.ref r)))
    (q : ∀ bs st', Bits bs → bs.length = many → Dk st' r c → Fr r c st st' → Q (.ref st'.length) (st' ++ [.lst (bs.map D.int)])) : ∃ n, lcLoop (ItD.rng 0 1 many).step (fun d => setTg (.name a) d (wipeD ρ own)) (wp F' (.cst (.bl true))) (wp F' (.call 37 2 0 [0, 1] (.cons (.var 0) (.cons (.cst (.int 2)) .nil)) .nil)) Q n 0 [] st := by
  refine lc_rng (fun i acc st' => ∃ bs : List Int, acc = bs.map D.int ∧ bs.length = i ∧ Bits bs ∧ Dk st' r c ∧ Fr r c st st') ⟨[], rfl, rfl, by simp [Bits], hD, .refl _ _ _⟩ (fun i acc st' Z hi ⟨bs, e1, h1, h2, d1, f1⟩ hZ => ?_) (fun acc st' ⟨bs, e1, h1, h2, d1, f1⟩ => ?_)
  · subst e1
    obtain ⟨ρ1, e2, e3⟩ := hρ (.int (0 + i * 1))
    refine ⟨ρ1, e2, ?_⟩
    simp [e3, permN, permL]
    refine hF _ _ d1 fun v st2 hv d2 f2 => ?_
    refine ⟨by omega, hZ _ _ ⟨bs ++ [(v : Int)], by simp, by simp [h1], fun b hb => ?_, d2, f1.trans f2⟩⟩
    rcases List.mem_append.mp hb with hb | hb
    · exact h2 b hb
    · simp at hb
      subst hb
      omega
  · subst e1
    exact q bs st' h2 h1 d1 f1
end Cb.K59

namespace Cb.K59
open PySem PySem.Spec PyProof.Rows L2
variable {k : Nat} {st : Store} {Q : K1} {r c : Nat}
theorem rb_mk {a : Int} {b k : Nat} (hb : 0 < b) (h1 : il a < k) (h2 : b.log2 < k) : RB k (mkRat a b) := by
  have h := frR_mk a hb
  unfold frR at h
  injection h with h
  simp at h
  obtain ⟨e1, e2⟩ := h
  refine ⟨?_, ?_⟩
  · rw [← e1]
    refine Nat.lt_of_le_of_lt ?_ h1
    unfold il
    refine log2_mono ?_
    have hd : ((Nat.gcd a.natAbs b : Nat) : Int) ∣ a := Int.ofNat_dvd_left.mpr (Nat.gcd_dvd_left _ _)
    rw [Int.natAbs_ediv_of_dvd hd]
    exact Nat.div_le_self _ _
  · have : (mkRat a b).den = b / Nat.gcd a.natAbs b := by
      rw [← Int.natCast_ediv] at e2
      exact_mod_cast e2.symm
    rw [this]
    exact Nat.lt_of_le_of_lt (log2_mono (Nat.div_le_self _ _)) h2
theorem pl_spO {x : Rw} : Big.pl (spO x) = true := by
  have : Big.plAll (x.os.map nd) = true := Big.plAll_map fun _ _ => by simp [nd, Big.pl]
  simp [spO, Big.pl, Big.plAll, this]
theorem dep_spO {x : Rw} : dep (spO x) ≤ 3 := by
  have : depAll (x.os.map nd) ≤ 0 := depAll_map fun _ _ => by simp [nd, dep]
  simp [spO, dep, depAll]
  omega
theorem ends_ok (hD : Dk st r c) (fin : ∀ st', Dk st' r c → Q (.bl true) st') : F (k + 16) 48 [.ref r] st Q := by
  refine run_step (fd := ⟨1, 14, b48⟩) rfl rfl ?_
  unfold b48
  refine seq_i fun X hX => ?_
  simp [startD, permN, permL]
  have lt0 := hD.lt
  refine pick_ok (k := k + 13) (xs := [.int 6, .int 7, .int 8, .int 9, .int 10, .int 11, .int 12, .int 13, .int 14, .int 15, .int 16]) (hD.app _) get_last (by omega) (by omega) (by simp) (by simp) fun x st2 hx d2 f2 => ?_
  obtain ⟨w, rfl, hw⟩ : ∃ w : Nat, x = .int (w : Nat) ∧ (6 ≤ w ∧ w ≤ 16) := by
    simp at hx
    rcases hx with rfl | rfl | rfl | rfl | rfl | rfl | rfl | rfl | rfl | rfl | rfl
    · exact ⟨6, rfl, by omega⟩
    · exact ⟨7, rfl, by omega⟩
    · exact ⟨8, rfl, by omega⟩
    · exact ⟨9, rfl, by omega⟩
    · exact ⟨10, rfl, by omega⟩
    · exact ⟨11, rfl, by omega⟩
    · exact ⟨12, rfl, by omega⟩
    · exact ⟨13, rfl, by omega⟩
    · exact ⟨14, rfl, by omega⟩
    · exact ⟨15, rfl, by omega⟩
    · exact ⟨16, rfl, by omega⟩
  refine hX _ _ (seq_i fun X2 hX2 => ?_)
  clear hX X f2 lt0
  obtain ⟨q, hq⟩ : ∃ q : Int, q = 2 ^ (w - 2) := ⟨_, rfl⟩
  have hW : Wd w q := ⟨by omega, hq⟩
  have hb := hW.b
  clear hq
  obtain ⟨least, hle, hl1, hl2⟩ : ∃ least : Nat, (if q + 1 < 100 then q + 1 else 100) = (least : Int) ∧ (1 ≤ least ∧ least ≤ 100) ∧ (least : Int) ≤ q + 1 := by
    split
    · exact ⟨(q + 1).toNat, by omega, by omega, by omega⟩
    · exact ⟨100, rfl, by omega, by omega⟩
  simp [permN, permL]
  refine ⟨shl_ok (by omega) (by omega) (by omega), ?_⟩
  rw [hW.q2, hle]
  refine model_ok (k := k + 11) (oc := 4) (sc := 3) (by omega) (by omega) d2 hl1 fun n m st3 hm hms d3 => ?_
  have hF : Fit q m := fun s hs => by have := hms s hs; omega
  have lt1 := d3.lt
  refine pick_ok (k := k + 13) (xs := [.int 1, .int 2, .int 3, .int 4, .int 5]) (d3.app _) get_last (by omega) (by omega) (by simp) (by simp) fun x st4 hx d4 f4 => ?_
  obtain ⟨kk, rfl, hkk⟩ : ∃ kk : Nat, x = .int (kk : Nat) ∧ (1 ≤ kk ∧ kk ≤ 5) := by
    simp at hx
    rcases hx with rfl | rfl | rfl | rfl | rfl
    · exact ⟨1, rfl, by omega⟩
    · exact ⟨2, rfl, by omega⟩
    · exact ⟨3, rfl, by omega⟩
    · exact ⟨4, rfl, by omega⟩
    · exact ⟨5, rfl, by omega⟩
  refine hX2 _ _ (seq_i fun X3 hX3 => ?_)
  clear hX2 X2 f4 lt1 d2 d3 hms hle hl1 hl2 least
  simp [permN, permL]
  refine spans_ok (k := k + 12) hm hW hF (by omega) fun rs fn more hfn hti hrs hl200 => ?_
  refine hX3 _ _ (seq_i fun X4 hX4 => ?_)
  clear hX3 X3
  have d5 := d4.app more
  generalize st4 ++ more = st5 at d5 hfn ⊢
  clear d4
  have e4 : (4 : Int) * q = 2 ^ w := by
    have e : (2 : Int) ^ w = 2 ^ (w - 1) * 2 := by rw [← Int.pow_succ]; congr 1; omega
    rw [e]
    have := hW.q1
    have e' : ((w : Int) - 1).toNat = w - 1 := by omega
    rw [e'] at this
    omega
  simp
  refine c_nenil (n := fn) (e := st5.length) (get_app hfn _) get_last (Big.plAll_map fun x _ => pl_spO) (Nat.le_trans (depAll_map (n := 3) fun x _ => dep_spO) (by omega)) ?_
  have d6 := d5.app [Cell.lst []]
  have hf6 := get_app hfn [Cell.lst []]
  generalize st5 ++ [Cell.lst []] = st6 at d6 hf6 ⊢
  refine Br.b (fun hemp => ?_) (fun hemp => ?_)
  rotate_left
  · rw [if_pos (small62_of (by omega))]
    simp
    refine for_rng (fun i ρ st' => ρ = [some (.ref r), some (.int (w : Nat)), some (modD m), some (.int (kk : Nat)), some (.ref fn), none, none, none, none, none, none, none, none, none] ∧ st' = st6) ⟨rfl, rfl⟩ (fun i ρ st' Y hi _ hY => absurd hi (by omega)) (fun ρ st' ⟨e1, e2⟩ => ?_)
    subst e1 e2
    refine hX4 _ _ ?_
    simp [wps_seq]
    exact fin _ d6
  have hne0 : rs ≠ [] := by
    rintro rfl
    simp at hemp
  have hti' := hti.resolve_left hne0
  have hnr : fn ≠ r ∧ fn ≠ c := by
    obtain ⟨ns, mm, dd, _, _, g1, g2⟩ := d6
    constructor
    · rintro rfl
      rw [hf6] at g1
      cases g1
    · rintro rfl
      rw [hf6] at g2
      obtain ⟨x, xs, rfl⟩ := List.exists_cons_of_ne_nil hne0
      cases ns with
      | nil => simp at g2
      | cons a as =>
        simp [spO] at g2
  have hlen : 0 < rs.length := List.length_pos_iff.mpr hne0
  clear hti hfn d5 hemp st5 hx
  rw [if_pos (small62_of (by omega))]
  simp
  refine for_rng (fun i ρ st' => (∃ xs : List (Option D), xs.length = 9 ∧ ρ = some (.ref r) :: some (.int (w : Nat)) :: some (modD m) :: some (.int (kk : Nat)) :: some (.ref fn) :: xs) ∧ Dk st' r c ∧ st'[fn]? = some (.lst (rs.map spO))) ⟨⟨[none, none, none, none, none, none, none, none, none], rfl, rfl⟩, d6, hf6⟩ (fun i ρ st7 Y hi ⟨⟨xs, hx, e1⟩, d7, hf7⟩ hY => ?_) (fun ρ st7 ⟨⟨xs, hx, e1⟩, d7, hf7⟩ => ?_)
  · obtain ⟨x5, x6, x7, x8, x9, x10, x11, x12, x13, rfl⟩ : ∃ x5 x6 x7 x8 x9 x10 x11 x12 x13, xs = [x5, x6, x7, x8, x9, x10, x11, x12, x13] := by
      match xs, hx with
      | [a, b, c, d, e, f, g, h, i], _ => exact ⟨a, b, c, d, e, f, g, h, i, rfl⟩
    subst e1
    refine ⟨_, rfl, seq_i fun X5 hX5 => ?_⟩
    simp [permN, permL]
    rw [bl_lenL hf7]
    refine drawN_ok (k := k + 14) d7 (by simp; omega) (by simp; omega) fun at_ st8 hat d8 f8 => ?_
    have hf8 := f8.keep hf7 hnr.1 hnr.2
    clear f8 d7 hf7
    refine hX5 _ _ (seq_i fun X6 hX6 => ?_)
    clear hX5 X5
    have hat' : at_ < rs.length := by simp at hat; omega
    have hx0 : rs[at_]? = some rs[at_] := List.getElem?_eq_getElem hat'
    obtain ⟨hR, hRl⟩ := hrs _ (List.mem_of_getElem? hx0)
    generalize rs[at_] = x at hx0 hR hRl
    simp
    refine ⟨spO x, lst_ix hf8 (by rw [List.getElem?_map, hx0]; rfl), ?_⟩
    simp [spO]
    refine hX6 _ _ (seq_i fun X7 hX7 => ?_)
    clear hX6 X6
    simp [permN, permL]
    refine drawN_ok (k := k + 14) (many := 5) d8 (by omega) (by omega) fun nm st9 hnm d9 f9 => ?_
    have hf9 := f9.keep hf8 hnr.1 hnr.2
    clear f9 d8 hf8
    simp
    rw [if_pos (small62_of (by omega))]
    simp
    refine lbits_ok d9 (by omega) (fun st' Q' dd hh => drawN_ok (k := k + 14) (many := 2) dd (by omega) (by omega) hh) (fun d => ⟨_, rfl, rfl⟩) fun mo st10 hmo hml d10 f10 => ?_
    have hf10 := get_app (f10.keep hf9 hnr.1 hnr.2) [Cell.lst (mo.map D.int)]
    refine bl_tupB get_last ?_
    have d11 := d10.app [Cell.lst (mo.map D.int)]
    generalize st10 ++ [Cell.lst (mo.map D.int)] = st11 at d11 hf10 ⊢
    clear f10 d10 d9 hf9
    refine hX7 _ _ (seq_i fun X8 hX8 => ?_)
    clear hX7 X7
    -- what the way's span is
    obtain ⟨hx1, hx2, hx3⟩ := hR.in_all hb.1 hm hF e4
    have hxb := hR.bits hb.1 hm hF
    have hyw := hR.wy hb.1 hm hF e4
    have hB56 : (2 : Int) ^ x.B ≤ 2 ^ 56 := by
      have p := Nat.pow_le_pow_right (n := 2) (by decide) (show x.B ≤ 56 by omega)
      exact_mod_cast p
    have hR0 : Rg q 0 (4 * q) := by unfold Rg; omega
    have sW := smR (hyw.small hm) (by omega : x.os.length ≤ 1000)
    have er : D.tup (x.os.map nd) = rowD x.os := by simp [rowD, ti, nd, Function.comp_def]
    simp [permN, permL]
    refine drawN_ok (k := k + 14) (many := x.N) d11 (by omega) (by omega) fun v st12 hv d12 f12 => ?_
    have hf12 := f12.keep hf10 hnr.1 hnr.2
    clear f12 d11 hf10
    simp
    rw [er]
    have numb : ∀ y : Int, x.F ≤ y → y < x.F + x.N → ∀ st1 (Q' : K1), (∀ more, Q' (rowD x.os) (st1 ++ more)) → F (k + 15) 34 [modD m, .int (w : Nat), ti (rowL y x.B ++ mo), .int (kk : Nat)] st1 Q' := fun y h1 h2 st1 Q' hQ => by
      have hdy := hR.row (x := y) (more := mo) hb.1 hm hF hmo (by omega) ⟨h1, h2⟩
      have hbt : Bits (rowL y x.B ++ mo) := fun b hb => (List.mem_append.mp hb).elim (rowL_bits b) (hmo b)
      refine way_read_ok (k := k + 5) hm hF hW (by simp [rowL_len]; omega) hbt (by omega) fun os more hos hdc => ?_
      obtain rfl := (hdc.fn hm (sAt_bs hbt) hF hdy hR0 (by omega) (by omega))
      exact hQ more
    refine for_seq (fun j ρ st' => (∃ x12, ρ = [some (.ref r), some (.int (w : Nat)), some (modD m), some (.int (kk : Nat)), some (.ref fn), some (.int (i : Nat)), some (.int (at_ : Nat)), some (rowD x.os), some (.int x.F), some (.int x.N), some (.int (x.B : Nat)), some (ti mo), x12, x13]) ∧ Dk st' r c ∧ st'[fn]? = some (.lst (rs.map spO))) ⟨⟨_, rfl⟩, d12, hf12⟩ (fun j d ρ st13 Z hd ⟨⟨y12, e1⟩, d13, hf13⟩ hZ => ?_) (fun ρ st13 ⟨⟨y12, e1⟩, d13, hf13⟩ => ?_)
    · subst e1
      obtain ⟨y, rfl, hy1, hy2⟩ : ∃ y, d = .int y ∧ x.F ≤ y ∧ y < x.F + x.N := by
        match j, hd with
        | 0, hd => cases hd; exact ⟨_, rfl, by omega, by omega⟩
        | 1, hd => cases hd; exact ⟨_, rfl, by omega, by omega⟩
        | 2, hd => cases hd; exact ⟨_, rfl, by omega, by omega⟩
        | j + 3, hd => simp at hd
      refine ⟨_, rfl, seq_i fun X9 hX9 => ite_i fun A B hA hB => ?_⟩
      simp [permN, permL]
      refine row_ok (k := k + 14) (by omega) (by omega) fun m1 => ?_
      rw [row_ti]
      refine add_ti (by simp [rowL_len]; omega) ?_
      refine numb y hy1 hy2 _ _ fun m2 => ?_
      refine bl_repr (Sm.of sW) (bl_repr (Sm.of sW) ?_)
      simp
      refine hB _ (hX9 _ _ ?_)
      show Z _ _
      exact hZ _ _ ⟨⟨_, rfl⟩, by rw [← List.append_assoc]; exact (d13.app m1).app m2, by rw [← List.append_assoc]; exact get_app (get_app hf13 m1) m2⟩
    subst e1
    clear d12 hf12
    refine hX8 _ _ (seq_i fun X9 hX9 => ite_i fun A B hA hB => ?_)
    clear hX8 X8
    -- the way ahead
    simp
    have go : ∀ st14, Dk st14 r c → st14[fn]? = some (.lst (rs.map spO)) → B st14 := fun st14 d14 hf14 => by
      refine hB _ (hX9 _ _ (seq_i fun X10 hX10 => ite_i fun A B hA hB => ?_))
      simp
      rw [bl_lenL hf14, List.length_map]
      have go2 : ∀ st14, Dk st14 r c → st14[fn]? = some (.lst (rs.map spO)) → B st14 := fun st14 d14 hf14 => by
        refine hB _ (hX10 _ _ (seq_i fun X11 hX11 => ite_i fun A B hA hB => ?_))
        simp [permN, permL]
        refine real_ok (k := k + 5) hm hW hF hyw (by omega) fun l z t bs ch m1 fv hfv hg => ?_
        have hch := hR.chance hb.1 hm hF e4 hg
        have hmk : at2 x.N x.B = mkRat x.N (2 ^ x.B) := by
          unfold at2
          rw [Rat.mkRat_eq_div]
          push_cast
          rfl
        have hpw : 2 ^ x.B ≤ 2 ^ 56 := by exact_mod_cast hB56
        have hrb : RB 1900 (mkRat x.N (2 ^ x.B)) := rb_mk (Nat.pow_pos (by decide)) (by
          unfold il
          exact Nat.lt_of_le_of_lt (log2_mono (show x.N.natAbs ≤ 2 ^ 56 by omega)) (by rw [log2_pow2]; decide)) (by rw [log2_pow2]; omega)
        rw [hmk] at hch
        subst hch
        refine Rz.repr hfv hrb ?_
        refine ⟨shl_ok (by omega) (by omega) (by omega), ?_⟩
        have epow : (2 : Int) ^ x.B = ((2 ^ x.B : Nat) : Int) := by push_cast; rfl
        rw [epow]
        have hbig : (2 : Nat) ^ 56 < 2 ^ 1000 := Nat.pow_lt_pow_right (by decide) (by decide)
        refine lawR_ok (k := k + 13) (Nat.pow_pos (by decide)) (Nat.lt_of_le_of_lt hpw hbig) (Nat.lt_of_le_of_lt (show x.N.natAbs ≤ 2 ^ 56 by omega) hbig) ?_
        refine Big.bl_repr (sm_frR hrb) ?_
        simp
        refine written_ok (k := k + 5) hm hW hF hyw (by omega) fun l z t bs m2 hgn hlb => ?_
        have hbk := back (more := []) hm hW hF hyw hgn (by simp)
        rw [List.append_nil] at hbk
        have hlw := hgn.len hm hF hb.2 hyw hR0 (by omega)
        have hwl := wrt_len (q := q) (l := l) (z := z) (t := t) (bs := bs)
        have hwb := wrt_bits hgn
        refine way_read_ok (k := k + 5) hm hF hW (by omega) hwb (by omega) fun os m3 hos hdc => ?_
        obtain rfl := (hdc.fn hm (sAt_bs hwb) hF hbk hR0 (by omega) (by omega))
        refine bl_repr (Sm.of sW) (bl_repr (Sm.of sW) ?_)
        simp
        refine hB _ (hX11 _ _ ?_)
        show Y _ _
        refine hY _ _ ⟨⟨_, rfl, rfl⟩, ?_, ?_⟩
        · rw [← List.append_assoc, ← List.append_assoc]
          exact ((d14.app m1).app m2).app m3
        · rw [← List.append_assoc, ← List.append_assoc]
          exact get_app (get_app (get_app hf14 m1) m2) m3
      rw [c_lt]
      refine Br.dec (fun hat1 => ?_) (fun hat1 => go2 _ d14 hf14)
      obtain ⟨y, hy0⟩ : ∃ y, rs[at_ + 1]? = some y := ⟨_, List.getElem?_eq_getElem (by omega)⟩
      obtain ⟨hRy, hRyl⟩ := hrs _ (List.mem_of_getElem? hy0)
      have htouch : x.hi = y.lo := Tile.next hti' hx0 hy0
      obtain ⟨hy1, hy2, hy3⟩ := hRy.in_all hb.1 hm hF e4
      have hyy := hRy.wy hb.1 hm hF e4
      have sY := smR (hyy.small hm) (by omega : y.os.length ≤ 1000)
      have hxF : x.F + x.N < 2 ^ x.B := by
        have e := at2_eq.mp htouch
        have p1 := pow2_pos x.B
        have p2 := pow2_pos y.B
        refine Int.lt_of_mul_lt_mul_right (a := 2 ^ y.B) ?_ (Int.le_of_lt p2)
        rw [e, Int.mul_comm (2 ^ x.B)]
        exact Int.mul_lt_mul_of_pos_right (by omega) p1
      have hrow := Rok.row_next hb.1 hm hF hRy htouch ⟨by omega, hxF⟩
      simp [permN, permL]
      refine row_ok (k := k + 14) (by omega) (by omega) fun m1 => ?_
      rw [row_ti]
      refine way_read_ok (k := k + 5) hm hF hW (by rw [rowL_len]; omega) rowL_bits (by omega) fun os m2 hos hdc => ?_
      obtain rfl := (hdc.fn hm (sAt_bs rowL_bits) hF hrow hR0 (by omega) (by omega))
      refine bl_repr (Sm.of sY) ?_
      have d15 := (d14.app m1).app m2
      have hf15 := get_app (get_app hf14 m1) m2
      have eix : ((at_ : Int) + 1) = ((at_ + 1 : Nat) : Int) := by omega
      rw [eix]
      refine ⟨spO y, lst_ix hf15 (by rw [List.getElem?_map, hy0]; rfl), ⟨_, rfl, ?_⟩⟩
      have ery : D.tup (y.os.map nd) = rowD y.os := by simp [rowD, ti, nd, Function.comp_def]
      rw [ery]
      refine bl_repr (Sm.of sY) ?_
      simp
      exact go2 _ (by rw [← List.append_assoc]; exact d15) (by rw [← List.append_assoc]; exact hf15)
    refine Br.dec (fun hat0 => ?_) (fun hat0 => go _ d13 hf13)
    obtain ⟨y, hy0⟩ : ∃ y, rs[at_ - 1]? = some y := ⟨_, List.getElem?_eq_getElem (by omega)⟩
    obtain ⟨hRy, hRyl⟩ := hrs _ (List.mem_of_getElem? hy0)
    have htouch : y.hi = x.lo := by
      have hx0' : (rs.map id)[at_ - 1 + 1]? = some x := by rw [show at_ - 1 + 1 = at_ by omega]; simpa using hx0
      exact Tile.next hti' hy0 (by simpa using hx0')
    obtain ⟨hy1, hy2, hy3⟩ := hRy.in_all hb.1 hm hF e4
    have hyb := hRy.bits hb.1 hm hF
    have hyy := hRy.wy hb.1 hm hF e4
    have sY := smR (hyy.small hm) (by omega : y.os.length ≤ 1000)
    have hxF : 0 < x.F := by
      have e := at2_eq.mp htouch
      have p1 := pow2_pos x.B
      have p2 := pow2_pos y.B
      refine Classical.byContradiction fun z => ?_
      have e0 : x.F = 0 := by omega
      rw [e0, Int.zero_mul] at e
      have := Int.mul_pos (show 0 < y.F + y.N by omega) p1
      omega
    have hrow := Rok.row_prev (k := 40) hb.1 hm hF hRy htouch (by omega) (by omega)
    have ones : D.tup [D.int 1, D.int 1, D.int 1, D.int 1, D.int 1, D.int 1, D.int 1, D.int 1, D.int 1, D.int 1, D.int 1, D.int 1, D.int 1, D.int 1, D.int 1, D.int 1, D.int 1, D.int 1, D.int 1, D.int 1, D.int 1, D.int 1, D.int 1, D.int 1, D.int 1, D.int 1, D.int 1, D.int 1, D.int 1, D.int 1, D.int 1, D.int 1, D.int 1, D.int 1, D.int 1, D.int 1, D.int 1, D.int 1, D.int 1, D.int 1] = ti (List.replicate 40 1) := rfl
    rw [ones]
    simp [permN, permL]
    refine row_ok (k := k + 14) (by omega) (by omega) fun m1 => ?_
    rw [row_ti]
    refine add_ti (by simp [rowL_len]; omega) ?_
    have hbt : Bits (rowL (x.F - 1) x.B ++ List.replicate 40 1) := fun b hb => (List.mem_append.mp hb).elim (rowL_bits b) fun h => .inr (List.eq_of_mem_replicate h)
    refine way_read_ok (k := k + 5) hm hF hW (by simp [rowL_len]; omega) hbt (by omega) fun os m2 hos hdc => ?_
    obtain rfl := (hdc.fn hm (sAt_bs hbt) hF hrow hR0 (by omega) (by omega))
    refine bl_repr (Sm.of sY) ?_
    have d14 := (d13.app m1).app m2
    have hf14 := get_app (get_app hf13 m1) m2
    have eix : ((at_ : Int) - 1) = ((at_ - 1 : Nat) : Int) := by omega
    rw [eix]
    refine ⟨spO y, lst_ix hf14 (by rw [List.getElem?_map, hy0]; rfl), ⟨_, rfl, ?_⟩⟩
    have ery : D.tup (y.os.map nd) = rowD y.os := by simp [rowD, ti, nd, Function.comp_def]
    rw [ery]
    refine bl_repr (Sm.of sY) ?_
    simp
    exact go _ (by rw [← List.append_assoc]; exact d14) (by rw [← List.append_assoc]; exact hf14)
  · subst e1
    refine hX4 _ _ ?_
    simp [wps_seq]
    obtain ⟨x5, x6, x7, x8, x9, x10, x11, x12, x13, rfl⟩ : ∃ x5 x6 x7 x8 x9 x10 x11 x12 x13, xs = [x5, x6, x7, x8, x9, x10, x11, x12, x13] := by
      match xs, hx with
      | [a, b, c, d, e, f, g, h, i], _ => exact ⟨a, b, c, d, e, f, g, h, i, rfl⟩
    exact fin _ d7
end Cb.K59

namespace Cb.K59
open PySem PySem.Spec PyProof.Rows L2
/-! ### counting: a dict filled by rows in their order -/
section
variable {κ : Type} [DecidableEq κ]
/-- the counts when all numbers below y have been looked at -/
def fill : Int → List (κ × Int) → List (κ × D)
  | _, [] => []
  | y, (o, c) :: ws => if y ≤ 0 then [] else (o, .int (min c y)) :: fill (y - c) ws
/-- who has the number y -/
def who : Int → List (κ × Int) → Option κ
  | _, [] => none
  | y, (o, c) :: ws => if y < c then some o else who (y - c) ws
theorem fill_le {ws : List (κ × Int)} {y : Int} (h : y ≤ 0) : fill y ws = [] := by
  cases ws with
  | nil => rfl
  | cons w ws => simp only [fill, if_pos h]
theorem who_mem : ∀ {ws : List (κ × Int)} {y : Int} {o : κ}, who y ws = some o → ∃ c, (o, c) ∈ ws
  | (o', c) :: ws, y, o, h => by
    unfold who at h
    split at h
    · cases h
      exact ⟨c, List.mem_cons_self⟩
    · obtain ⟨c', h'⟩ := who_mem h
      exact ⟨c', List.mem_cons_of_mem _ h'⟩
theorem fill_keys : ∀ {ws : List (κ × Int)} {y : Int} {p : κ × D}, p ∈ fill y ws → ∃ c, (p.1, c) ∈ ws
  | [], y, p, h => by cases h
  | (o, c) :: ws, y, p, h => by
    unfold fill at h
    split at h
    · cases h
    · rcases List.mem_cons.mp h with rfl | h
      · exact ⟨c, List.mem_cons_self⟩
      · obtain ⟨c', h'⟩ := fill_keys h
        exact ⟨c', List.mem_cons_of_mem _ h'⟩
theorem getK_none {kvs : List (κ × D)} {o : κ} (h : ∀ p ∈ kvs, p.1 ≠ o) : getK kvs o = none := by
  unfold getK
  rw [List.find?_eq_none.mpr (fun p hp => by simpa using h p hp)]
  rfl
theorem putKD_new {kvs : List (κ × D)} {o : κ} {v : D} (h : ∀ p ∈ kvs, p.1 ≠ o) : putKD kvs o v = kvs ++ [(o, v)] := by
  unfold putKD
  rw [if_neg]
  intro e
  obtain ⟨p, hp, e⟩ := List.any_eq_true.mp e
  exact h p hp (by simpa using e)
theorem getK_cons {kvs : List (κ × D)} {o o' : κ} {v : D} : getK ((o', v) :: kvs) o = if o' = o then some v else getK kvs o := by
  unfold getK
  rw [List.find?_cons]
  by_cases e : o' = o
  · simp [e]
  · simp [e]
theorem putKD_head {kvs : List (κ × D)} {o : κ} {v v' : D} (h : ∀ p ∈ kvs, p.1 ≠ o) : putKD ((o, v) :: kvs) o v' = (o, v') :: kvs := by
  unfold putKD
  rw [if_pos (by simp)]
  simp only [List.map_cons, if_true]
  congr 1
  conv => rhs; rw [← List.map_id kvs]
  refine List.map_congr_left fun p hp => ?_
  rw [if_neg (h p hp)]
  rfl
theorem putKD_tail {kvs : List (κ × D)} {o o' : κ} {v v' : D} (h : o' ≠ o) : putKD ((o', v) :: kvs) o v' = (o', v) :: putKD kvs o v' := by
  unfold putKD
  rw [List.any_cons]
  have e : decide (o' = o) = false := by simpa using h
  rw [e, Bool.false_or]
  split
  · rw [List.map_cons, if_neg h]
  · rfl
/-- one number more -/
theorem fill_step : ∀ {ws : List (κ × Int)} {y : Int} {o : κ}, (ws.map Prod.fst).Nodup → (∀ w ∈ ws, 0 < w.2) → 0 ≤ y → who y ws = some o →
    ∃ v : Int, (getK (fill y ws) o).getD (.int 0) = .int v ∧ putKD (fill y ws) o (.int (v + 1)) = fill (y + 1) ws
  | (o', c) :: ws, y, o, hn, hc, hy, h => by
    have hc0 := hc _ List.mem_cons_self
    rw [List.map_cons, List.nodup_cons] at hn
    dsimp only at hn hc0
    have hne : ∀ {z : Int}, ∀ p ∈ fill z ws, p.1 ≠ o' := fun p hp e => by
      obtain ⟨c', h'⟩ := fill_keys hp
      exact hn.1 (List.mem_map.mpr ⟨_, h', e⟩)
    unfold who at h
    split at h
    · rename_i hlt
      have h' := Option.some.inj h
      subst h'
      have e1 : fill (y + 1) ((o', c) :: ws) = [(o', .int (y + 1))] := by
        unfold fill
        rw [if_neg (by omega), fill_le (by omega), Int.min_eq_right (by omega)]
      rw [e1]
      by_cases y0 : y ≤ 0
      · have : y = 0 := by omega
        subst this
        rw [fill_le (by omega)]
        exact ⟨0, rfl, rfl⟩
      · unfold fill
        rw [if_neg y0, fill_le (y := y - c) (by omega), Int.min_eq_right (by omega)]
        exact ⟨y, by rw [getK_cons, if_pos rfl]; rfl, putKD_head (by simp)⟩
    · rename_i hge
      obtain ⟨v, g1, g2⟩ := fill_step (y := y - c) hn.2 (fun w hw => hc w (List.mem_cons_of_mem _ hw)) (by omega) h
      have ho : o' ≠ o := fun e => by
        obtain ⟨c', h'⟩ := who_mem h
        exact hn.1 (List.mem_map.mpr ⟨_, h', e.symm⟩)
      refine ⟨v, ?_, ?_⟩
      · unfold fill
        rw [if_neg (by omega), getK_cons, if_neg ho]
        exact g1
      · conv => lhs; unfold fill
        rw [if_neg (by omega), putKD_tail ho, g2]
        conv => rhs; unfold fill
        rw [if_neg (by omega), Int.min_eq_left (by omega), Int.min_eq_left (by omega)]
        congr 2
        omega
/-- all numbers looked at -/
theorem fill_all : ∀ {ws : List (κ × Int)} {y : Int}, (∀ w ∈ ws, 0 < w.2) → (ws.map Prod.snd).sum = y → fill y ws = ws.map fun w => (w.1, .int w.2)
  | [], y, _, _ => rfl
  | (o, c) :: ws, y, hc, h => by
    have hc0 := hc _ List.mem_cons_self
    rw [List.map_cons, List.sum_cons] at h
    dsimp only at h hc0
    have hs : 0 ≤ (ws.map Prod.snd).sum := by
      have : ∀ l : List Int, (∀ x ∈ l, 0 < x) → 0 ≤ l.sum := by
        intro l
        induction l with
        | nil => simp
        | cons x l ih =>
          intro h
          have := ih fun y hy => h y (List.mem_cons_of_mem _ hy)
          have := h x List.mem_cons_self
          rw [List.sum_cons]
          omega
      refine this _ fun x hx => ?_
      obtain ⟨w, hw, rfl⟩ := List.mem_map.mp hx
      exact hc w (List.mem_cons_of_mem _ hw)
    unfold fill
    rw [if_neg (by omega), Int.min_eq_left (by omega), fill_all (fun w hw => hc w (List.mem_cons_of_mem _ hw)) (y := y - c) (by omega)]
    rfl
theorem fill_len {ws : List (κ × Int)} : ∀ {y : Int}, (fill y ws).length ≤ ws.length := by
  induction ws with
  | nil => intro y; simp [fill]
  | cons w ws ih =>
    intro y
    obtain ⟨o, c⟩ := w
    unfold fill
    split
    · simp
    · have := ih (y := y - c)
      simp
      omega
theorem getK_at {ws : List (κ × Int)} (hn : (ws.map Prod.fst).Nodup) : ∀ {w : κ × Int}, w ∈ ws → getK (ws.map fun w => (w.1, D.int w.2)) w.1 = some (.int w.2) := by
  induction ws with
  | nil => intro w h; cases h
  | cons x ws ih =>
    intro w h
    rw [List.map_cons, List.nodup_cons] at hn
    rw [List.map_cons, getK_cons]
    rcases List.mem_cons.mp h with rfl | h
    · rw [if_pos rfl]
    · rw [if_neg]
      · exact ih hn.2 h
      · intro e
        exact hn.1 (List.mem_map.mpr ⟨w, h, e.symm⟩)
end
end Cb.K59

namespace Cb.K59
open PySem PySem.Spec PyProof.Rows L2
/-! ### all rows of so many bits, way by way -/
def kz (os : List Nat) : List Key := os.map fun i : Nat => (Sum.inl (i : Int) : Key)
theorem kz_inj {a b : List Nat} (h : kz a = kz b) : a = b := by
  unfold kz at h
  exact (List.map_inj_right (fun (x y : Nat) (e : (Sum.inl (x : Int) : Key) = Sum.inl (y : Int)) => by injection e with e; exact_mod_cast e)).mp h
theorem kz_key {os : List Nat} : keyT (rowD os) = some (kz os) := by
  show mapO keyOf ((os.map fun i : Nat => (i : Int)).map D.int) = _
  unfold kz
  induction os with
  | nil => rfl
  | cons o os ih =>
    simp only [List.map_cons, mapO, keyOf] at ih ⊢
    rw [ih]
theorem kz_back {os : List Nat} : D.tup ((kz os).map keyD) = rowD os := by
  simp [kz, rowD, ti, keyD, Function.comp_def]
/-- so many rows of so many bits are a way's -/
def cw (many : Nat) (x : Wr) : Int := x.top * 2 ^ many / x.bot
def cws (many : Nat) (xs : List Wr) : List (List Key × Int) := xs.map fun x => (kz x.r.os, cw many x)
/-- a number's row, whatever follows, is read as this way -/
def Rd (m : List Stt) (q : Int) (w many : Nat) (y : Int) (os : List Nat) : Prop := ∀ more : List Int, (∀ b ∈ more, b = 0 ∨ b = 1) → Dc m q (sAt (rowL y many ++ more)) 0 0 (4 * q) (num (sAt (rowL y many ++ more)) w) w os
theorem cw_eq {m : List Stt} {q : Int} {w i many d : Nat} {x : Wr} (h : Wok m q w i x) (hd : many = x.r.B + d) : cw many x = x.r.N * 2 ^ d ∧ x.top * 2 ^ many % x.bot = 0 := by
  subst hd
  exact h.tb.rows h.b0.1
theorem cover {m : List Stt} {q : Int} {w i many n0 : Nat} (hq : 2 ≤ q) (hm : Mok n0 m) (hf : Fit q m) : ∀ {xs : List Wr} {A E : Int}, (∀ x ∈ xs, Wok m q w i x ∧ x.r.B ≤ many) → Tile (at2 A many) (xs.map Wr.r) (at2 E many) →
    ((cws many xs).map Prod.snd).sum = E - A ∧ ∀ y, A ≤ y → y < E → ∃ x ∈ xs, ∃ d, many = x.r.B + d ∧ who (y - A) (cws many xs) = some (kz x.r.os) ∧ x.r.F * 2 ^ d ≤ y ∧ y < (x.r.F + x.r.N) * 2 ^ d
  | [], A, E, _, h => by
    have h' : at2 A many = at2 E many := h
    have e := at2_eq.mp h'
    have pp := pow2_pos many
    have : A = E := Int.eq_of_mul_eq_mul_right (by omega) e
    subst this
    exact ⟨by simp [cws], fun y h1 h2 => absurd h1 (by omega)⟩
  | x :: xs, A, E, hx, h => by
    obtain ⟨hok, hB⟩ := hx x List.mem_cons_self
    obtain ⟨d, hd⟩ : ∃ d, many = x.r.B + d := ⟨many - x.r.B, by omega⟩
    obtain ⟨c1, _⟩ := cw_eq hok hd
    have hN := hok.r.pos hq hm hf
    have pp := pow2_pos d
    have h1 : at2 A many = at2 x.r.F x.r.B := h.1
    have eA : A = x.r.F * 2 ^ d := cancel2 hd (at2_eq.mp h1).symm
    have h2 : x.r.hi = at2 (A + cw many x) many := by
      show at2 (x.r.F + x.r.N) x.r.B = _
      rw [at2_many _ _ d, ← hd, c1, eA, Int.add_mul]
    have ht : Tile x.r.hi (xs.map Wr.r) (at2 E many) := h.2
    rw [h2] at ht
    obtain ⟨s1, s2⟩ := cover hq hm hf (fun y hy => hx y (List.mem_cons_of_mem _ hy)) ht
    refine ⟨?_, fun y hy1 hy2 => ?_⟩
    · show cw many x + ((cws many xs).map Prod.snd).sum = _
      omega
    · by_cases c : y < A + cw many x
      · refine ⟨x, List.mem_cons_self, d, hd, ?_, by omega, ?_⟩
        · show who (y - A) ((kz x.r.os, cw many x) :: cws many xs) = _
          unfold who
          rw [if_pos (by omega)]
        · rw [Int.add_mul]
          omega
      · obtain ⟨z, hz, dz, e1, e2, e3, e4⟩ := s2 y (by omega) hy2
        refine ⟨z, List.mem_cons_of_mem _ hz, dz, e1, ?_, e3, e4⟩
        show who (y - A) ((kz x.r.os, cw many x) :: cws many xs) = _
        unfold who
        rw [if_neg (by omega), ← e2]
        congr 1
        omega
theorem Wk_nodup {m : List Stt} {q : Int} {w : Nat} : ∀ i, ((Wk m q w i).map fun x => x.r.os).Nodup
  | 0 => by simp [Wk]
  | i + 1 => by
    have ih := Wk_nodup (m := m) (q := q) (w := w) i
    have kid : ∀ x y : Wr, y ∈ nextW m q x → ∃ o, y.r.os = x.r.os ++ [o] := fun x y hy => by
      unfold nextW at hy
      split at hy
      · unfold kidsW at hy
        obtain ⟨o, _, rfl⟩ := List.mem_map.mp hy
        exact ⟨o, rfl⟩
      · cases hy
    unfold List.Nodup at ih ⊢
    rw [List.pairwise_map] at ih ⊢
    show List.Pairwise _ ((Wk m q w i).flatMap (nextW m q))
    rw [List.pairwise_flatMap]
    refine ⟨fun x hx => ?_, ih.imp fun {x y} hne a ha b hb e => ?_⟩
    · unfold nextW
      split
      · unfold kidsW
        rw [List.pairwise_map]
        refine (List.Pairwise.filter _ ?_)
        refine (List.pairwise_lt_range).imp fun {a b} hab e => ?_
        have e' : x.r.os ++ [a] = x.r.os ++ [b] := e
        have := List.append_cancel_left e'
        simp at this
        omega
      · exact .nil
    · obtain ⟨o1, e1⟩ := kid x a ha
      obtain ⟨o2, e2⟩ := kid y b hb
      rw [e1, e2] at e
      exact hne (List.append_inj_left' e rfl)
structure Cov (m : List Stt) (q : Int) (w many : Nat) (xs : List Wr) : Prop where
  nd : ((cws many xs).map Prod.fst).Nodup
  pos : ∀ c ∈ cws many xs, 0 < c.2
  sum : ((cws many xs).map Prod.snd).sum = 2 ^ many
  rest : ∀ x ∈ xs, x.top * 2 ^ many % x.bot = 0
  read : ∀ y : Int, 0 ≤ y → y < 2 ^ many → ∃ x ∈ xs, who y (cws many xs) = some (kz x.r.os) ∧ Rd m q w many y x.r.os
theorem Cov.ok {m : List Stt} {q : Int} {w i many n0 : Nat} (hq : 2 ≤ q) (hw : 4 * q = 2 ^ w) (hw5 : w ≤ 5) (hm : Mok n0 m) (hf : Fit q m) (h : (i = 0 ∧ many = 0) ∨ ∀ x ∈ Wk m q w i, x.r.B ≤ many) : Cov m q w many (Wk m q w i) := by
  have nd : ((cws many (Wk m q w i)).map Prod.fst).Nodup := by
    have := Wk_nodup (m := m) (q := q) (w := w) i
    have e : (cws many (Wk m q w i)).map Prod.fst = ((Wk m q w i).map fun x => x.r.os).map kz := by
      simp [cws, Function.comp_def]
    rw [e]
    unfold List.Nodup at this ⊢
    rw [List.pairwise_map]
    exact this.imp fun hne e => hne (kz_inj e)
  rcases h with ⟨rfl, rfl⟩ | h
  · have e : cws 0 (Wk m q w 0) = [([], 1)] := by simp [cws, Wk, cw, kz, root]
    refine ⟨nd, by rw [e]; simp, by rw [e]; rfl, by simp [Wk], fun y h1 h2 => ⟨⟨root q w, 1, 1⟩, by simp [Wk], ?_, fun more hmo => .nil⟩⟩
    rw [e]
    have : y = 0 := by
      have : (2 : Int) ^ 0 = 1 := rfl
      omega
    subst this
    rfl
  · have hok := Wk_ok hq hw hw5 hm hf i
    have ht := Wk_tile hq hw hw5 hm hf i
    have e0 : at2 0 0 = at2 0 many := by rw [at2_eq]; simp
    have e1 : at2 1 0 = at2 (2 ^ many) many := by rw [at2_eq]; simp
    rw [e0, e1] at ht
    obtain ⟨s1, s2⟩ := cover hq hm hf (fun x hx => ⟨hok x hx, h x hx⟩) ht
    have dd : ∀ x ∈ Wk m q w i, ∃ d, many = x.r.B + d := fun x hx => ⟨many - x.r.B, by have := h x hx; omega⟩
    refine ⟨nd, fun c hc => ?_, by rw [s1, Int.sub_zero], fun x hx => ?_, fun y h1 h2 => ?_⟩
    · obtain ⟨x, hx, rfl⟩ := List.mem_map.mp hc
      obtain ⟨d, hd⟩ := dd x hx
      show 0 < cw many x
      rw [(cw_eq (hok x hx) hd).1]
      exact Int.mul_pos ((hok x hx).r.pos hq hm hf) (pow2_pos d)
    · obtain ⟨d, hd⟩ := dd x hx
      exact (cw_eq (hok x hx) hd).2
    · obtain ⟨x, hx, d, hd, e2, e3, e4⟩ := s2 y h1 h2
      rw [Int.sub_zero] at e2
      refine ⟨x, hx, e2, fun more hmo => ?_⟩
      have hn := rowL_num (many := many) more ⟨h1, h2⟩
      refine (hok x hx).r.read_many (d := d) hq hm hf (bs_row hmo) ?_
      rw [← hd, hn]
      exact ⟨e3, e4⟩
end Cb.K59

namespace Cb.K59
open PySem PySem.Spec PyProof.Rows L2
variable {k : Nat} {st : Store} {Q : K1} {r c : Nat}
/-! ### sorted keys -/
def srtD (L : List D) : List D := ((L.zip (pyAll L)).mergeSort (PySem.W.dataLe false Prod.snd)).map Prod.fst
theorem pyAll_len : ∀ L : List D, (pyAll L).length = L.length
  | [] => by simp [pyAll]
  | x :: L => by simp [pyAll, pyAll_len L]
theorem srt_perm (L : List D) : (srtD L).Perm L := by
  unfold srtD
  have h := (List.mergeSort_perm (L.zip (pyAll L)) (PySem.W.dataLe false Prod.snd)).map Prod.fst
  rwa [List.map_fst_zip (by rw [pyAll_len]; exact Nat.le_refl _)] at h
theorem plAll_iff : ∀ {L : List D}, Big.plAll L = true ↔ ∀ x ∈ L, Big.pl x = true
  | [] => by simp [Big.plAll]
  | x :: L => by simp [Big.plAll, plAll_iff (L := L)]
theorem depAll_iff {n : Nat} : ∀ {L : List D}, depAll L ≤ n ↔ ∀ x ∈ L, dep x ≤ n
  | [] => by simp [depAll]
  | x :: L => by
    simp only [depAll, List.mem_cons, forall_eq_or_imp, ← depAll_iff (L := L)]
    omega
theorem py_row (os : List Nat) : py (rowD os) = .tuple ((os.map fun i : Nat => (i : Int)).map PyData.int) := by
  simp only [rowD, ti, py]
  rw [pyAll_ints]
theorem pyAll_rows : ∀ os : List (List Nat), pyAll (os.map rowD) = os.map fun o => .tuple ((o.map fun i : Nat => (i : Int)).map PyData.int)
  | [] => by simp [pyAll]
  | o :: os => by simp only [List.map_cons, pyAll, pyAll_rows os, py_row]
theorem srt_one {x : D} : srtD [x] = [x] := by
  simp [srtD, pyAll]
theorem bl_sortR {n kk : Nat} {os : List (List Nat)} (h : st[n]? = some (.lst (os.map rowD))) (hl : ∀ o ∈ os, o.length = kk ∧ ∀ i ∈ o, i < 8) (hk : kk ≤ 100) (h0 : kk = 0 → os.length = 1) (q : Q (.ref st.length) (st ++ [.lst (srtD (os.map rowD))])) : bltS .sorted [.ref n] st Q := by
  by_cases z : kk = 0
  · have h1 := h0 z
    obtain ⟨o, rfl⟩ := List.length_eq_one_iff.mp h1
    rw [List.map_cons, List.map_nil] at h q
    rw [srt_one] at q
    exact .inr (.inr ⟨_, _, rfl, lst_listS h, by simp, q⟩)
  · have hpl : plAll (os.map rowD) = true := plAll_map fun o ho => pl_ti (small_row (hl o ho).2 (by have := (hl o ho).1; omega))
    have hdp : depAll (os.map rowD) ≤ 1 := depAll_map fun o ho => dep_ti
    refine .inr (.inl ⟨_, _, pyAll (os.map rowD), rfl, lst_listS h, toPyAll_sm st _ 31 (smAll_of_pl _ hpl) (by omega), ?_, ?_, ?_, fun zs hz => ?_⟩)
    · rw [pyAll_rows]
      intro d hd d' hd'
      obtain ⟨o, _, rfl⟩ := List.mem_map.mp hd
      obtain ⟨o', _, rfl⟩ := List.mem_map.mp hd'
      unfold PySem.W.alike
      exact PySem.W.alike_ints _ _
    · rw [pyAll_rows]
      refine .inl fun d hd => ?_
      obtain ⟨o, ho, rfl⟩ := List.mem_map.mp hd
      have := (hl o ho).1
      match o, this with
      | [], e => exact absurd e.symm z
      | a :: o, _ => exact ⟨_, _, rfl⟩
    · rw [pyAll_rows]
      intro p hp
      obtain ⟨o, ho, rfl⟩ := List.mem_map.mp hp
      simp only [PyData.depth]
      rw [PySem.W.depth_ints]
      omega
    · subst hz
      exact q
theorem c_neLL {a b : Nat} {X : List D} (ha : st[a]? = some (.lst X)) (hb : st[b]? = some (.lst X)) (hp : Big.plAll X = true) (hd : depAll X ≤ 29) (q : Q (.bl false) st) : cmpS .ne (.ref a) (.ref b) st Q := by
  have e : ∀ n, st[n]? = some (.lst X) → toPy st 32 (.ref n) = some (.list (pyAll X)) := fun n h => by
    show (match st[n]? with | some (.lst xs) => _ | some (.frz xs) => _ | _ => _) = _
    rw [h]
    show (mapO _ _).map _ = _
    rw [Big.toPyAll_pl _ _ 31 hp (by omega)]
    rfl
  refine ⟨true, (c_eqU (p := .list (pyAll X)) (q := .list (pyAll X)) trivial (e a ha) (e b hb) ?_).trans ?_, q⟩
  · unfold SeqAt.shaped
    simp only [PyData.canLay0, PyData.depth, Big.canLayAll_pl _ hp, Big.depAll_pl _ hp]
    simp
    omega
  · simp only [PyData.eqv]
    rw [(Big.eqvAll_pl X X hp hp).mpr rfl]
end Cb.K59

namespace Cb.K59
open PySem PySem.Spec PyProof.Rows L2
variable {k : Nat} {st : Store} {Q : K1} {r c : Nat}
theorem pl_wrO {q : Int} {x : Wr} : Big.pl (wrO q x) = true := by
  have : Big.plAll (x.r.os.map nd) = true := Big.plAll_map fun _ _ => by simp [nd, Big.pl]
  simp [wrO, Big.pl, Big.plAll, this]
theorem dep_wrO {q : Int} {x : Wr} : dep (wrO q x) ≤ 3 := by
  have : depAll (x.r.os.map nd) ≤ 0 := depAll_map fun _ _ => by simp [nd, dep]
  simp [wrO, dep, depAll]
  omega
theorem bl_max1 {n : Nat} {ns : List Int} (h : st[n]? = some (.lst (ns.map D.int))) (hl : 0 < ns.length) (q : ∀ m, m ∈ ns → (∀ y, y ∈ ns → y ≤ m) → Q (.int m) st) : bltS .max1 [.ref n] st Q :=
  .inl ⟨_, _, ns, rfl, lst_listS h, mapO_int ns, hl, q⟩
theorem holds (ns : List Int) (hlen : ns.length ≤ 63) : F 100 49 [.ref 0] [.frz (ns.map D.int)] (fun d _ => d = .bl true) := by
  refine run_step (k := 99) (fd := ⟨1, 18, b49⟩) rfl rfl ?_
  unfold b49
  refine seq_i fun X hX => ?_
  simp [startD, permN, permL]
  refine run_step (k := 98) (fd := ⟨1, 3, b36⟩) rfl rfl (deck2_wps (kd := "turn") (k0 := 13732059) (k1 := 48271) (k2 := 2147483549) (k3 := 59) (k4 := 2147483563) (by decide) (by decide) (by decide) (n := 0) rfl hlen fun st1 r c hD _ _ _ _ => ?_)
  refine hX _ _ (seq_i fun X2 hX2 => ite_i fun A B hA hB => ?_)
  clear hX X
  simp [permN, permL]
  refine ends_ok (k := 83) hD fun st2 hD2 => ?_
  simp
  refine hB _ (hX2 _ _ (seq_i fun X3 hX3 => ?_))
  clear hA hB hX2 X2 hD A B
  simp
  rw [if_pos (small62_of (by omega))]
  simp
  refine for_rng (fun i ρ st' => (∃ xs : List (Option D), xs.length = 16 ∧ ρ = some (.ref 0) :: some (.ref r) :: xs) ∧ Dk st' r c) ⟨⟨List.replicate 16 none, rfl, rfl⟩, hD2⟩ (fun g ρ st' Y hg ⟨⟨xs, hx, e⟩, d⟩ hY => ?_) (fun ρ st' ⟨⟨xs, hx, e⟩, d⟩ => ?_)
  · obtain ⟨x2, x3, x4, x5, x6, x7, x8, x9, x10, x11, x12, x13, x14, x15, x16, x17, rfl⟩ : ∃ x2 x3 x4 x5 x6 x7 x8 x9 x10 x11 x12 x13 x14 x15 x16 x17, xs = [x2, x3, x4, x5, x6, x7, x8, x9, x10, x11, x12, x13, x14, x15, x16, x17] := by
      match xs, hx with
      | [a, b, c, d, e, f, g, h, i, j, k, l, m, n, o, p], _ => exact ⟨a, b, c, d, e, f, g, h, i, j, k, l, m, n, o, p, rfl⟩
    subst e
    clear hD2
    refine ⟨_, rfl, seq_i fun X4 hX4 => ?_⟩
    simp [permN, permL]
    have lt1 := d.lt
    refine pick_ok (k := 97) (xs := [.int 3, .int 4, .int 3, .int 5]) (d.app _) get_last (by omega) (by omega) (by simp) (by simp) fun x st2 hx d2 f2 => ?_
    obtain ⟨w, rfl, hw⟩ : ∃ w : Nat, x = .int (w : Nat) ∧ (3 ≤ w ∧ w ≤ 5) := by
      simp at hx
      rcases hx with rfl | rfl | rfl | rfl
      · exact ⟨3, rfl, by omega⟩
      · exact ⟨4, rfl, by omega⟩
      · exact ⟨3, rfl, by omega⟩
      · exact ⟨5, rfl, by omega⟩
    clear lt1
    refine hX4 _ _ (seq_i fun X5 hX5 => ?_)
    clear hX4 X4 f2 d
    obtain ⟨q, hq⟩ : ∃ q : Int, q = 2 ^ (w - 2) := ⟨_, rfl⟩
    have hW : Wd w q := ⟨by omega, hq⟩
    have hb := hW.b
    clear hq
    have e4 : (4 : Int) * q = 2 ^ w := by
      have e : (2 : Int) ^ w = 2 ^ (w - 1) * 2 := by rw [← Int.pow_succ]; congr 1; omega
      rw [e]
      have := hW.q1
      have e' : ((w : Int) - 1).toNat = w - 1 := by omega
      rw [e'] at this
      omega
    have hq8 : q ≤ 8 := by
      have p := Nat.pow_le_pow_right (n := 2) (by decide) (show w ≤ 5 by omega)
      have p' : (2 : Int) ^ w ≤ 2 ^ 5 := by exact_mod_cast p
      omega
    obtain ⟨least, hle⟩ : ∃ least : Nat, q + 1 = (least : Int) := ⟨(q + 1).toNat, by omega⟩
    have main : ∀ n m st3, Mok n m → (∀ s ∈ m, s.ps.sum ≤ least) → Dk st3 r c → X5 [some (.ref 0), some (.ref r), some (.int (g : Nat)), some (.int (w : Nat)), some (modD m), x5, x6, x7, x8, x9, x10, x11, x12, x13, x14, x15, x16, x17] st3 := fun n m st3 hm hms d3 => by
      have hF : Fit q m := fun s hs => by have := hms s hs; omega
      have hm0 : 0 < m.length := by have := hm.len; omega
      have hR0 : Rg q 0 (4 * q) := by unfold Rg; omega
      refine hX5 _ _ (seq_i fun X6 hX6 => ?_)
      clear hX5 X5 hms hle
      simp [permN, permL]
      have lt1 := d3.lt
      refine pick_ok (k := 97) (xs := [.int 1, .int 2, .int 0, .int 3, .int 2, .int 4]) (d3.app _) get_last (by omega) (by omega) (by simp) (by simp) fun x st4 hx d4 f4 => ?_
      obtain ⟨kk, rfl, hkk⟩ : ∃ kk : Nat, x = .int (kk : Nat) ∧ kk ≤ 4 := by
        simp at hx
        rcases hx with rfl | rfl | rfl | rfl | rfl | rfl
        · exact ⟨1, rfl, by omega⟩
        · exact ⟨2, rfl, by omega⟩
        · exact ⟨0, rfl, by omega⟩
        · exact ⟨3, rfl, by omega⟩
        · exact ⟨2, rfl, by omega⟩
        · exact ⟨4, rfl, by omega⟩
      refine hX6 _ _ (seq_i fun X7 hX7 => ?_)
      clear hX6 X6 f4 d3 lt1
      simp [permN, permL]
      refine all_ways_ok (k := 96) hm hW hF (by omega) hkk fun xs fn more hfn hxs => ?_
      have d5 := d4.app more
      generalize st4 ++ more = st5 at d5 hfn ⊢
      clear d4 more
      refine hX7 _ _ (seq_i fun X8 hX8 => ?_)
      clear hX7 X7
      have cont : ∀ (M : Nat) x7 st6, x7 = some (.int (M : Nat)) → Dk st6 r c → st6[fn]? = some (.lst (xs.map (wrO q))) → (xs = Wk m q w kk → (kk = 0 ∧ M = 0) ∨ ∀ x ∈ Wk m q w kk, x.r.B ≤ M) → X8 [some (.ref 0), some (.ref r), some (.int (g : Nat)), some (.int (w : Nat)), some (modD m), some (.int (kk : Nat)), some (.ref fn), x7, x8, x9, x10, x11, x12, x13, x14, x15, x16, x17] st6 := fun M x7 st6 e7 d6 hf6 hM => by
        subst e7
        clear d5 hfn
        refine hX8 _ _ (seq_i fun X9 hX9 => ite_i fun A B hA hB => ?_)
        clear hX8 X8
        simp
        refine c_eqnil (n := fn) (e := st6.length) (get_app hf6 _) get_last (Big.plAll_map fun x _ => pl_wrO) (Nat.le_trans (depAll_map (n := 3) fun x _ => dep_wrO) (by omega)) ?_
        have d7 := d6.app [Cell.lst []]
        have hf7 := get_app hf6 [Cell.lst []]
        generalize st6 ++ [Cell.lst []] = st7 at d7 hf7 ⊢
        clear d6 hf6
        have skip : A st7 := hA _ (by
          simp [wps_seq]
          exact hY _ _ ⟨⟨_, rfl, rfl⟩, d7⟩)
        refine Br.b (fun hemp => skip) (fun hemp => ?_)
        refine Br.dec (fun hM7 => skip) (fun hM7 => hB _ (hX9 _ _ (seq_i fun X10 hX10 => ?_)))
        clear skip hA hB A B hX9 X9
        have hne0 : xs ≠ [] := by
          rintro rfl
          simp at hemp
        obtain ⟨hxe, hle60⟩ := hxs.resolve_left fun z => hne0 z.1
        have hcov : Cov m q w M xs := by
          rw [hxe]
          exact Cov.ok hb.1 e4 (by omega) hm hF (hM hxe)
        have hxw : ∀ x ∈ xs, Wok m q w kk x := by
          rw [hxe]
          exact Wk_ok hb.1 e4 (by omega) hm hF kk
        have hl60 : xs.length ≤ 60 := by
          rw [hxe]
          cases kk with
          | zero => simp [Wk]
          | succ k1 => exact hle60 k1 (by omega)
        clear hxs hM hle60 hne0 hemp
        have hM128 : (2 : Int) ^ M ≤ 128 := by
          have p := Nat.pow_le_pow_right (n := 2) (by decide) (show M ≤ 7 by omega)
          exact_mod_cast p
        have hMpos := pow2_pos M
        -- found
        have lt7 := d7.lt
        have lf7 := (List.getElem?_eq_some_iff.mp hf7).1
        simp
        refine .inr (hX10 _ _ (seq_i fun X11 hX11 => ?_))
        clear hX10 X10
        have d8 := d7.app [Cell.dtt []]
        have hf8 := get_app hf7 [Cell.dtt []]
        have hd8 : (st7 ++ [Cell.dtt []])[st7.length]? = some (Cell.dtt (fill 0 (cws M xs))) := by rw [get_last, fill_le (by omega)]
        have nd1 : st7.length ≠ r ∧ st7.length ≠ c ∧ st7.length ≠ fn := by omega
        generalize st7 ++ [Cell.dtt []] = st8 at d8 hf8 hd8 ⊢
        generalize st7.length = fd at hd8 nd1 ⊢
        clear d7 hf7 lt7 lf7 st7
        simp
        refine ⟨shl_ok (by omega) (by omega) (by omega), ?_⟩
        rw [if_pos (small62_of (by omega))]
        simp
        refine for_rng (fun i ρ st' => (∃ ys : List (Option D), ys.length = 9 ∧ ρ = some (.ref 0) :: some (.ref r) :: some (.int (g : Nat)) :: some (.int (w : Nat)) :: some (modD m) :: some (.int (kk : Nat)) :: some (.ref fn) :: some (.int (M : Nat)) :: some (.ref fd) :: ys) ∧ Dk st' r c ∧ st'[fn]? = some (.lst (xs.map (wrO q))) ∧ st'[fd]? = some (.dtt (fill i (cws M xs)))) ⟨⟨[x9, x10, x11, x12, x13, x14, x15, x16, x17], rfl, rfl⟩, d8, hf8, hd8⟩ (fun i ρ st9 Z hi ⟨⟨ys, hy, e1⟩, d9, hf9, hd9⟩ hZ => ?_) (fun ρ st9 ⟨⟨ys, hy, e1⟩, d9, hf9, hd9⟩ => ?_)
        · obtain ⟨x9, x10, x11, x12, x13, x14, x15, x16, x17, rfl⟩ : ∃ x9 x10 x11 x12 x13 x14 x15 x16 x17, ys = [x9, x10, x11, x12, x13, x14, x15, x16, x17] := by
            match ys, hy with
            | [a, b, c, d, e, f, g, h, i], _ => exact ⟨a, b, c, d, e, f, g, h, i, rfl⟩
          subst e1
          have hi' : (i : Int) < 2 ^ M := by omega
          clear d8 hf8 hd8
          obtain ⟨x, hx, hwho, hrd⟩ := hcov.read i (by omega) hi'
          obtain ⟨v, hv1, hv2⟩ := fill_step hcov.nd hcov.pos (by omega) hwho
          have hxo := hxw x hx
          have hyw := hxo.r.wy hb.1 hm hF e4
          have sW := smR (hyw.small hm) (by have := hxo.len; omega : x.r.os.length ≤ 1000)
          have pW : pl (rowD x.r.os) = true := pl_ti (small_row (hyw.small hm) (by have := hxo.len; omega))
          have rd : ∀ (more : List Int) st1 (Q' : K1), Bits more → more.length ≤ 10 → (∀ m1, Q' (rowD x.r.os) (st1 ++ m1)) → F 99 34 [modD m, .int (w : Nat), ti (rowL (i : Int) M ++ more), .int (kk : Nat)] st1 Q' := fun more st1 Q' hmo hml hQ => by
            have hbt : Bits (rowL (i : Int) M ++ more) := fun b hb => (List.mem_append.mp hb).elim (rowL_bits b) (hmo b)
            refine way_read_ok (k := 89) hm hF hW (by simp [rowL_len]; omega) hbt (by omega) fun os m1 hos hdc => ?_
            obtain rfl := (hdc.fn hm (sAt_bs hbt) hF (hrd more hmo) hR0 (by omega) (by have := hxo.len; omega))
            exact hQ m1
          refine ⟨_, rfl, seq_i fun X12 hX12 => ?_⟩
          simp
          rw [if_pos (small62_of (by omega))]
          simp
          refine lc_rng (fun j acc st3 => acc = (List.range j).map (fun j => D.int (rowB (i : Int) M j)) ∧ st3 = st9) ⟨by simp, rfl⟩ (fun j acc st3 V hj ⟨e4, e5⟩ hV => ?_) (fun acc st3 ⟨e4, e5⟩ => ?_)
          · subst e4 e5
            refine ⟨_, rfl, ?_⟩
            simp [wipeD, permN, permL]
            have h0 : 0 ≤ (i : Int) / 2 ^ (M - 1 - j) := Int.ediv_nonneg (by omega) (Int.pow_nonneg (by decide))
            refine ⟨by omega, ?_⟩
            simp only [binS]
            rw [bitAnd_one h0]
            refine ⟨by omega, hV _ _ ⟨?_, rfl⟩⟩
            rw [List.range_succ, List.map_append]
            simp [rowB]
          · subst e4 e5
            have ert : (List.range M).map (fun j => D.int (rowB (i : Int) M j)) = (rowL (i : Int) M).map D.int := by simp [rowL, Function.comp_def]
            rw [ert]
            refine bl_tupB get_last ?_
            have d10 := d9.app [Cell.lst ((rowL (i : Int) M).map D.int)]
            have hf10 := get_app hf9 [Cell.lst ((rowL (i : Int) M).map D.int)]
            have hd10 := get_app hd9 [Cell.lst ((rowL (i : Int) M).map D.int)]
            generalize st3 ++ [Cell.lst ((rowL (i : Int) M).map D.int)] = st10 at d10 hf10 hd10 ⊢
            refine hX12 _ _ (seq_i fun X13 hX13 => ?_)
            clear hX12 X12 d9 hf9 hd9
            have cont2 : ∀ m1, X13 [some (.ref 0), some (.ref r), some (.int (g : Nat)), some (.int (w : Nat)), some (modD m), some (.int (kk : Nat)), some (.ref fn), some (.int (M : Nat)), some (.ref fd), some (.int (i : Nat)), x10, some (rowD x.r.os), x12, x13, x14, some (ti (rowL (i : Int) M)), x16, x17] (st10 ++ m1) := fun m1 => by
              have d11 := d10.app m1
              have hf11 := get_app hf10 m1
              have hd11 := get_app hd10 m1
              generalize st10 ++ m1 = st11 at d11 hf11 hd11 ⊢
              refine hX13 _ _ (seq_i fun X14 hX14 => ?_)
              clear hX13 X13 d10 hf10 hd10
              simp
              refine ⟨⟨fd, rfl, .inr ⟨_, hd11⟩⟩, ⟨fd, rfl, .inr ⟨_, _, hd11, kz_key, ?_⟩⟩⟩
              have hflen : (fill (i : Int) (cws M xs)).length < sizeLine := by
                have := fill_len (ws := cws M xs) (y := (i : Int))
                have e : (cws M xs).length = xs.length := by simp [cws]
                rw [sizeLine_eq]
                omega
              rw [hv1]
              simp only [b_add]
              refine ⟨fd, rfl, .inr (.inr ⟨_, _, hd11, kz_key, hflen, ?_⟩)⟩
              rw [hv2]
              have d12 := Deck.set (x := Cell.dtt (fill ((i : Int) + 1) (cws M xs))) d11 nd1.1 nd1.2.1
              have hf12 : (st11.set fd (Cell.dtt (fill ((i : Int) + 1) (cws M xs))))[fn]? = some (.lst (xs.map (wrO q))) := by rw [List.getElem?_set_ne nd1.2.2]; exact hf11
              have hd12 : (st11.set fd (Cell.dtt (fill ((i : Int) + 1) (cws M xs))))[fd]? = _ := get_set hd11
              generalize st11.set fd (Cell.dtt (fill ((i : Int) + 1) (cws M xs))) = st12 at d12 hf12 hd12 ⊢
              refine hX14 _ _ (seq_i fun X15 hX15 => ite_i fun A B hA hB => ?_)
              clear hX14 X14 d11 hf11 hd11
              have go : ∀ m1, B (st12 ++ m1) := fun m1 => hB _ (hX15 _ _ (by
                show Z _ _
                exact hZ _ _ ⟨⟨_, rfl, rfl⟩, d12.app m1, get_app hf12 m1, by
                  have := get_app hd12 m1
                  rw [this]
                  push_cast
                  rfl⟩))
              have go0 := go []
              rw [List.append_nil] at go0
              simp
              refine Br.dec (fun _ => ?_) (fun _ => go0)
              simp [permN, permL]
              have e1011 : D.tup [D.int 1, D.int 0, D.int 1, D.int 1] = ti [1, 0, 1, 1] := rfl
              rw [e1011]
              refine add_ti (by simp [rowL_len]; omega) ?_
              refine rd [1, 0, 1, 1] _ _ (by simp [Bits]) (by simp) fun m1 => ?_
              refine c_neP ⟨_, rfl⟩ (Sm.of sW) (Sm.of sW) pW pW ⟨fun _ => ?_, fun h => absurd rfl h⟩
              exact Br.gf rfl (go m1)
            have rd0 : ∀ (Q' : K1), (∀ m1, Q' (rowD x.r.os) (st10 ++ m1)) → F 99 34 [modD m, .int (w : Nat), ti (rowL (i : Int) M), .int (kk : Nat)] st10 Q' := fun Q' hQ => by
              have := rd [] st10 Q' (by simp [Bits]) (by simp) hQ
              simpa using this
            simp [permN, permL]
            exact Br.dec (fun _ => rd0 _ cont2) (fun _ => rd0 _ cont2)
        · obtain ⟨x9, x10, x11, x12, x13, x14, x15, x16, x17, rfl⟩ : ∃ x9 x10 x11 x12 x13 x14 x15 x16 x17, ys = [x9, x10, x11, x12, x13, x14, x15, x16, x17] := by
            match ys, hy with
            | [a, b, c, d, e, f, g, h, i], _ => exact ⟨a, b, c, d, e, f, g, h, i, rfl⟩
          subst e1
          rw [fill_all hcov.pos (by rw [hcov.sum]; omega)] at hd9
          clear d8 hf8 hd8 st8
          have lt9 := d9.lt
          have lf9 := (List.getElem?_eq_some_iff.mp hf9).1
          have ld9 := (List.getElem?_eq_some_iff.mp hd9).1
          refine hX11 _ _ (seq_i fun X12 hX12 => ?_)
          clear hX11 X11
          simp
          refine .inr (hX12 _ _ (seq_i fun X13 hX13 => ?_))
          clear hX12 X12
          have d10 := d9.app [Cell.dtt []]
          have hf10 := get_app hf9 [Cell.dtt []]
          have hd10 := get_app hd9 [Cell.dtt []]
          have hu10 : (st9 ++ [Cell.dtt []])[st9.length]? = some (Cell.dtt (((cws M xs).take 0).map fun w => (w.1, D.int w.2))) := by rw [get_last]; rfl
          have nu1 : st9.length ≠ r ∧ st9.length ≠ c ∧ st9.length ≠ fn ∧ st9.length ≠ fd := by omega
          generalize st9 ++ [Cell.dtt []] = st10 at d10 hf10 hd10 hu10 ⊢
          generalize st9.length = fu at hu10 nu1 ⊢
          clear d9 hf9 hd9 lt9 lf9 ld9
          simp
          refine ⟨_, by rw [lst_src hf10]; rfl, ?_⟩
          refine for_live (n := fn) (xs := xs.map (wrO q)) (fun j ρ st' => (∃ ys : List (Option D), ys.length = 7 ∧ ρ = some (.ref 0) :: some (.ref r) :: some (.int (g : Nat)) :: some (.int (w : Nat)) :: some (modD m) :: some (.int (kk : Nat)) :: some (.ref fn) :: some (.int (M : Nat)) :: some (.ref fd) :: x9 :: some (.ref fu) :: ys) ∧ Dk st' r c ∧ st'[fn]? = some (.lst (xs.map (wrO q))) ∧ st'[fd]? = some (.dtt ((cws M xs).map fun w => (w.1, D.int w.2))) ∧ st'[fu]? = some (.dtt (((cws M xs).take j).map fun w => (w.1, D.int w.2)))) ⟨⟨[x11, x12, x13, x14, x15, x16, x17], rfl, rfl⟩, d10, hf10, hd10, hu10⟩ (fun j ρ st' ⟨_, _, h, _⟩ => lst_live h) (fun j d ρ st9 Z hd ⟨⟨ys, hy, e1⟩, d9, hf9, hd9, hu9⟩ hZ => ?_) (fun ρ st9 ⟨⟨ys, hy, e1⟩, d9, hf9, hd9, hu9⟩ => ?_)
          · obtain ⟨x11, x12, x13, x14, x15, x16, x17, rfl⟩ : ∃ x11 x12 x13 x14 x15 x16 x17, ys = [x11, x12, x13, x14, x15, x16, x17] := by
              match ys, hy with
              | [a, b, c, d, e, f, g], _ => exact ⟨a, b, c, d, e, f, g, rfl⟩
            subst e1
            clear d10 hf10 hd10 hu10
            rw [List.getElem?_map] at hd
            obtain ⟨x, hp, rfl⟩ := Option.map_eq_some_iff.mp hd
            have hxm := List.mem_of_getElem? hp
            have hxo := hxw x hxm
            have hyw := hxo.r.wy hb.1 hm hF e4
            have er : D.tup (x.r.os.map nd) = rowD x.r.os := by simp [rowD, ti, nd, Function.comp_def]
            refine ⟨_, by simp only [wrO]; rfl, seq_i fun X14 hX14 => ?_⟩
            have hj := (List.getElem?_eq_some_iff.mp hp).1
            have hb0 := hxo.b0
            have ht0 := hxo.t0
            have hp20 : (2 : Int) ^ (5 * kk) ≤ 2 ^ 20 := by
              have p := Nat.pow_le_pow_right (n := 2) (by decide) (show 5 * kk ≤ 20 by omega)
              exact_mod_cast p
            have hcw : (cws M xs)[j]? = some (kz x.r.os, cw M x) := by
              unfold cws
              rw [List.getElem?_map, hp]
              rfl
            simp
            refine ⟨shl_ok (by omega) (by omega) (by omega), div_ok (by omega) (by omega), ?_⟩
            rw [er]
            have hnew : ∀ p ∈ ((cws M xs).take j).map (fun w => (w.1, D.int w.2)), p.1 ≠ kz x.r.os := by
              intro p hp2 e
              obtain ⟨w', hw', rfl⟩ := List.mem_map.mp hp2
              obtain ⟨i2, hi2⟩ := List.getElem?_of_mem hw'
              have hi3 := (List.getElem?_eq_some_iff.mp hi2).1
              rw [List.length_take] at hi3
              rw [List.getElem?_take_of_lt (by omega)] at hi2
              have a1 : ((cws M xs).map Prod.fst)[i2]? = some (kz x.r.os) := by rw [List.getElem?_map, hi2]; exact congrArg some e
              have a2 : ((cws M xs).map Prod.fst)[j]? = some (kz x.r.os) := by rw [List.getElem?_map, hcw]; rfl
              obtain ⟨b1, b2⟩ := List.getElem?_eq_some_iff.mp a1
              obtain ⟨b3, b4⟩ := List.getElem?_eq_some_iff.mp a2
              have := (List.getElem_inj hcov.nd).mp (b2.trans b4.symm)
              omega
            refine ⟨fu, rfl, .inr (.inr ⟨_, _, hu9, kz_key, by rw [sizeLine_eq]; simp; omega, ?_⟩)⟩
            rw [putKD_new hnew]
            have ecw : x.top * 2 ^ M / x.bot = cw M x := rfl
            rw [ecw]
            have etk : ((cws M xs).take j).map (fun w => (w.1, D.int w.2)) ++ [(kz x.r.os, D.int (cw M x))] = ((cws M xs).take (j + 1)).map fun w => (w.1, D.int w.2) := by
              rw [take_succ hcw, List.map_append]
              rfl
            rw [etk]
            have d11 := Deck.set (x := Cell.dtt (((cws M xs).take (j + 1)).map fun w => (w.1, D.int w.2))) d9 nu1.1 nu1.2.1
            have hf11 : (st9.set fu (Cell.dtt (((cws M xs).take (j + 1)).map fun w => (w.1, D.int w.2))))[fn]? = some (.lst (xs.map (wrO q))) := by rw [List.getElem?_set_ne nu1.2.2.1]; exact hf9
            have hd11 : (st9.set fu (Cell.dtt (((cws M xs).take (j + 1)).map fun w => (w.1, D.int w.2))))[fd]? = _ := (List.getElem?_set_ne nu1.2.2.2).trans hd9
            have hu11 : (st9.set fu (Cell.dtt (((cws M xs).take (j + 1)).map fun w => (w.1, D.int w.2))))[fu]? = _ := get_set hu9
            generalize st9.set fu (Cell.dtt (((cws M xs).take (j + 1)).map fun w => (w.1, D.int w.2))) = st11 at d11 hf11 hd11 hu11 ⊢
            refine hX14 _ _ (seq_i fun X15 hX15 => ite_i fun A B hA hB => ?_)
            clear hX14 X14
            simp
            have hrest := hcov.rest x hxm
            refine ⟨shl_ok (by omega) (by omega) (by omega), by omega, ?_⟩
            rw [hrest]
            simp [permN, permL]
            refine real_ok (k := 89) hm hW hF hyw (by have := hxo.len; omega) fun l z t bs ch m1 fv hfv hg => ?_
            have hch := hxo.r.chance hb.1 hm hF e4 hg
            have hbn : x.bot = ((x.bot.toNat : Nat) : Int) := by omega
            have hmk : at2 x.r.N x.r.B = mkRat x.top x.bot.toNat := by
              rw [hxo.tb.at2 hb0.1, Rat.mkRat_eq_div]
              conv => lhs; rw [hbn]
              rfl
            rw [hmk] at hch
            subst hch
            have hlt20 : (2 : Nat) ^ 20 < 2 ^ 1000 := Nat.pow_lt_pow_right (by decide) (by decide)
            have hlt20' : (2 : Int) ^ 20 = 1048576 := by decide
            have hrb : RB 1900 (mkRat x.top x.bot.toNat) := rb_mk (by omega) (by
              unfold il
              exact Nat.lt_of_le_of_lt (log2_mono (show x.top.natAbs ≤ 2 ^ 20 by omega)) (by rw [log2_pow2]; decide)) (Nat.lt_of_le_of_lt (log2_mono (show x.bot.toNat ≤ 2 ^ 20 by omega)) (by rw [log2_pow2]; decide))
            refine Rz.repr hfv hrb ?_
            rw [hbn]
            refine lawR_ok (k := 97) (by omega) (Nat.lt_of_le_of_lt (show x.bot.toNat ≤ 2 ^ 20 by omega) hlt20) (Nat.lt_of_le_of_lt (show x.top.natAbs ≤ 2 ^ 20 by omega) hlt20) ?_
            refine Big.bl_repr (sm_frR hrb) ?_
            have e5 : (max x.bot 0).toNat = x.bot.toNat := by omega
            simp [e5]
            refine hB _ (hX15 _ _ ?_)
            show Z _ _
            exact hZ _ _ ⟨⟨_, rfl, rfl⟩, d11.app m1, get_app hf11 m1, get_app hd11 m1, get_app hu11 m1⟩
          · obtain ⟨x11, x12, x13, x14, x15, x16, x17, rfl⟩ : ∃ x11 x12 x13 x14 x15 x16 x17, ys = [x11, x12, x13, x14, x15, x16, x17] := by
              match ys, hy with
              | [a, b, c, d, e, f, g], _ => exact ⟨a, b, c, d, e, f, g, rfl⟩
            subst e1
            clear d10 hf10 hd10 hu10
            have ecl : (xs.map (wrO q)).length = (cws M xs).length := by simp [cws]
            rw [ecl, List.take_length] at hu9
            refine hX13 _ _ (seq_i fun X14 hX14 => ite_i fun A B hA hB => ?_)
            clear hX13 X13
            simp
            -- the keys
            obtain ⟨os, hos⟩ : ∃ os : List (List Nat), os = xs.map fun x => x.r.os := ⟨_, rfl⟩
            have hkeys : ((cws M xs).map fun w => (w.1, D.int w.2)).map (fun kv => D.tup (kv.1.map keyD)) = os.map rowD := by
              subst hos
              simp only [cws, List.map_map, Function.comp_def, kz_back]
            have hol : ∀ o ∈ os, o.length = kk ∧ ∀ i ∈ o, i < 8 := by
              subst hos
              intro o ho
              obtain ⟨x, hx, rfl⟩ := List.mem_map.mp ho
              exact ⟨(hxw x hx).len, ((hxw x hx).r.wy hb.1 hm hF e4).small hm⟩
            have hoy : ∀ o ∈ os, Wy m 0 o := by
              subst hos
              intro o ho
              obtain ⟨x, hx, rfl⟩ := List.mem_map.mp ho
              exact (hxw x hx).r.wy hb.1 hm hF e4
            have ho1 : kk = 0 → os.length = 1 := by
              rintro rfl
              subst hos
              rw [hxe]
              simp [Wk]
            have ho0 : 0 < os.length ∧ os.length ≤ 60 := by
              subst hos
              refine ⟨?_, by simp; omega⟩
              refine Nat.pos_of_ne_zero fun z => ?_
              have z' : xs = [] := by simpa using z
              have := hcov.sum
              rw [z'] at this
              simp [cws] at this
              omega
            have hpX : Big.plAll (srtD (os.map rowD)) = true := plAll_iff.mpr fun x hx => by
              obtain ⟨o, _, rfl⟩ := List.mem_map.mp ((srt_perm _).mem_iff.mp hx)
              simp only [rowD, ti, Big.pl]
              exact Big.plAll_map fun _ _ => by simp [Big.pl]
            have hdX : depAll (srtD (os.map rowD)) ≤ 29 := depAll_iff.mpr fun x hx => by
              obtain ⟨o, _, rfl⟩ := List.mem_map.mp ((srt_perm _).mem_iff.mp hx)
              have := dep_ti (w := o.map fun i : Nat => (i : Int))
              unfold rowD
              omega
            refine bl_listD hd9 ?_
            rw [hkeys]
            refine bl_sortR get_last hol (by omega) ho1 ?_
            refine bl_listD (get_app (get_app hu9 _) _) ?_
            rw [hkeys]
            refine bl_sortR get_last hol (by omega) ho1 ?_
            have d10 := (((d9.app [Cell.lst (os.map rowD)]).app [Cell.lst (srtD (os.map rowD))]).app [Cell.lst (os.map rowD)]).app [Cell.lst (srtD (os.map rowD))]
            have hd10 := get_app (get_app (get_app (get_app hd9 [Cell.lst (os.map rowD)]) [Cell.lst (srtD (os.map rowD))]) [Cell.lst (os.map rowD)]) [Cell.lst (srtD (os.map rowD))]
            have hu10 := get_app (get_app (get_app (get_app hu9 [Cell.lst (os.map rowD)]) [Cell.lst (srtD (os.map rowD))]) [Cell.lst (os.map rowD)]) [Cell.lst (srtD (os.map rowD))]
            refine c_neLL (X := srtD (os.map rowD)) (get_app (get_app get_last _) _) get_last hpX hdX ?_
            generalize (((st9 ++ [Cell.lst (os.map rowD)]) ++ [Cell.lst (srtD (os.map rowD))]) ++ [Cell.lst (os.map rowD)]) ++ [Cell.lst (srtD (os.map rowD))] = st10 at d10 hd10 hu10 ⊢
            simp
            have hu11 : (st10.set fu (Cell.lkt ((cws M xs).map fun w => (w.1, D.int w.2))))[fu]? = _ := get_set hu10
            have hd11 : (st10.set fu (Cell.lkt ((cws M xs).map fun w => (w.1, D.int w.2))))[fd]? = _ := (List.getElem?_set_ne nu1.2.2.2).trans hd10
            refine .inr ⟨_, hu10, ?_⟩
            have hset : (st10.set fu (Cell.lkt ((cws M xs).map fun w => (w.1, D.int w.2)))).set fu (Cell.dtt ((cws M xs).map fun w => (w.1, D.int w.2))) = st10 := by
              rw [List.set_set]
              obtain ⟨h1, h2⟩ := List.getElem?_eq_some_iff.mp hu10
              rw [← h2]
              exact List.set_getElem_self h1
            generalize hs11 : st10.set fu (Cell.lkt ((cws M xs).map fun w => (w.1, D.int w.2))) = st11 at hu11 hd11 hset ⊢
            refine ⟨.keys fu, by simp only [itOf, hu11], ?_⟩
            refine ⟨_, lc_inv (fun i acc st' => acc = [] ∧ st' = st11) (cws M xs).length (fun i acc st' V hi ⟨e5, e6⟩ hV => ?_) (fun acc st' ⟨e5, e6⟩ => ?_) (Nat.zero_le _) ⟨rfl, rfl⟩⟩
            · subst e5 e6
              obtain ⟨kc, hkc⟩ : ∃ kc, (cws M xs)[i]? = some kc := ⟨_, List.getElem?_eq_getElem hi⟩
              have hkm := List.mem_of_getElem? hkc
              obtain ⟨x, hx, rfl⟩ := List.mem_map.mp hkm
              have hgk := getK_at hcov.nd hkm
              refine ⟨rowD x.r.os, _, by simp only [ItD.step, hu11, List.getElem?_map, hkc, Option.map_some, kz_back], rfl, ?_⟩
              simp [wipeD]
              refine ⟨.int (cw M x), by simp only [idxS, hd11, kz_key]; exact hgk, .int (cw M x), by simp only [idxS, hu11, kz_key]; exact hgk, ?_⟩
              simp only [c_neI]
              simp
              exact hV _ _ ⟨rfl, rfl⟩
            · subst e5 e6
              refine ⟨by simp only [ItD.step, hu11, List.getElem?_map]; rw [List.getElem?_eq_none (Nat.le_refl _)]; rfl, ?_⟩
              refine ⟨get_app hu11 _, ?_⟩
              have hlt : fu < st'.length := (List.getElem?_eq_some_iff.mp hu11).1
              have hln : st'.length = st10.length := by rw [← hs11, List.length_set]
              rw [List.set_append_left _ _ hlt, hset]
              show cmpS Cop.ne _ _ _ _
              have d12 := (d10.app [Cell.lst []]).app [Cell.lst []]
              have hu12 := get_app (get_app hu10 [Cell.lst []]) [Cell.lst []]
              refine c_neLL (X := []) (by rw [hln]; exact get_app get_last _) get_last rfl (by simp [depAll]) ?_
              generalize (st10 ++ [Cell.lst []]) ++ [Cell.lst []] = st12 at d12 hu12 ⊢
              refine Br.gf rfl (hB _ (hX14 _ _ (seq_i fun X15 hX15 => ?_)))
              clear hA hB hX14 X14 hu11 hd11 hset hs11 hlt hln d10 hd10 hu10 d9 hf9 hd9 hu9
              -- a way
              simp [permN, permL]
              refine bl_listD hu12 ?_
              rw [hkeys]
              refine bl_sortR get_last hol (by omega) ho1 ?_
              have d13 := (d12.app [Cell.lst (os.map rowD)]).app [Cell.lst (srtD (os.map rowD))]
              have hsl : (srtD (os.map rowD)).length = os.length := by rw [(srt_perm _).length_eq, List.length_map]
              have lt13 := d12.lt
              refine pick_ok (k := 97) d13 get_last (by simp; omega) (by simp; omega) (by omega) (by omega) fun wy st14 hwy d14 _ => ?_
              obtain ⟨way, hway, rfl⟩ := List.mem_map.mp ((srt_perm _).mem_iff.mp hwy)
              obtain ⟨hwl, hw8⟩ := hol way hway
              have hyw := hoy way hway
              have sW := smR hw8 (by omega : way.length ≤ 1000)
              have pW : pl (rowD way) = true := pl_ti (small_row hw8 (by omega))
              refine hX15 _ _ (seq_i fun X16 hX16 => ?_)
              clear hX15 X15
              simp [permN, permL]
              refine written_ok (k := 89) hm hW hF hyw (by omega) fun l z t bs m2 hgn hlb => ?_
              have hbk := back (more := []) hm hW hF hyw hgn (by simp)
              rw [List.append_nil] at hbk
              have hlw := hgn.len hm hF hb.2 hyw hR0 (by omega)
              have hwl2 := wrt_len (q := q) (l := l) (z := z) (t := t) (bs := bs)
              have hwb := wrt_bits hgn
              have d15 := d14.app m2
              generalize st14 ++ m2 = st15 at d15 ⊢
              refine hX16 _ _ (seq_i fun X17 hX17 => ite_i fun A B hA hB => ?_)
              simp [permN, permL]
              refine own_is_way_ok (k := 90) hm hyw fun m3 => ?_
              simp [cmpS]
              refine way_read_ok (k := 89) hm hF hW (by omega) hwb (by omega) fun os2 m4 hos2 hdc => ?_
              obtain rfl := (hdc.fn hm (sAt_bs hwb) hF hbk hR0 (by omega) (by omega))
              refine c_neP (Q := fun x s => Br x (A s) (B s)) ⟨_, rfl⟩ (Sm.of sW) (Sm.of sW) pW pW ⟨fun _ => ?_, fun h => absurd rfl h⟩
              refine Br.gf rfl (hB _ (hX17 _ _ ?_))
              show Y _ _
              exact hY _ _ ⟨⟨_, rfl, rfl⟩, (d15.app m3).app m4⟩
      simp
      refine Br.dec (fun hk0 => ?_) (fun hk0 => cont 0 _ _ rfl d5 hfn fun e => .inl ⟨by omega, rfl⟩)
      obtain ⟨k1, hk1⟩ : ∃ k1, kk = k1 + 1 := ⟨kk - 1, by omega⟩
      simp [permN, permL]
      have ek1 : ((kk : Int) - 1) = (k1 : Nat) := by omega
      rw [ek1]
      refine all_ways_ok (k := 96) hm hW hF (by omega) (by omega) fun xs2 fn2 more2 hfn2 hxs2 => ?_
      have hl60 : xs2.length ≤ 60 := by
        rcases hxs2 with ⟨rfl, _⟩ | ⟨rfl, hle⟩
        · simp
        · cases k1 with
          | zero => simp [Wk]
          | succ k1 => exact hle k1 (by omega)
      have hz2 : ((st5 ++ [Cell.lst [D.int 0]]) ++ more2)[st5.length]? = some (Cell.lst [D.int 0]) := get_app get_last _
      have d6 := (d5.app [Cell.lst [D.int 0]]).app more2
      have hf6 := get_app (get_app hfn [Cell.lst [D.int 0]]) more2
      generalize (st5 ++ [Cell.lst [D.int 0]]) ++ more2 = st6 at hfn2 hz2 d6 hf6 ⊢
      generalize st5.length = zn at hz2 ⊢
      refine ⟨_, by rw [lst_src hfn2]; rfl, ?_⟩
      refine lc_live (n := fn2) (xs := xs2.map (wrO q)) (fun j acc st7 => acc = (xs2.take j).map (fun x => D.int ((x.r.B + (x.nz q).n : Nat) : Int)) ∧ st7 = st6) ⟨by simp, rfl⟩ (fun j acc st7 ⟨_, e⟩ => by subst e; exact lst_live hfn2) (fun j d acc st7 Z hd ⟨e3, e5⟩ hZ => ?_) (fun acc st7 ⟨e3, e5⟩ => ?_)
      · subst e3 e5
        rw [List.getElem?_map] at hd
        obtain ⟨x, hp, rfl⟩ := Option.map_eq_some_iff.mp hd
        have hj := (List.getElem?_eq_some_iff.mp hp).1
        refine ⟨_, rfl, ?_⟩
        simp [wipeD, wrO]
        have e3' : atI [D.tup (List.map nd x.r.os), D.int x.top, D.int x.bot, D.int (↑x.r.B + ↑(x.nz q).n)] (3 : Int) = some (D.int (↑x.r.B + ↑(x.nz q).n)) := at_get (t := 3) rfl
        refine ⟨_, e3', by omega, hZ _ _ ⟨?_, rfl⟩⟩
        rw [take_succ hp, List.map_append]
        simp
      · subst e3 e5
        rw [List.length_map, List.take_length]
        refine ⟨[D.int 0], _, get_app hz2 _, get_last, by rw [sizeLine_eq]; simp; omega, ?_⟩
        have eints : [D.int 0] ++ xs2.map (fun x => D.int ((x.r.B + (x.nz q).n : Nat) : Int)) = (0 :: xs2.map fun x => ((x.r.B + (x.nz q).n : Nat) : Int)).map D.int := by simp [Function.comp_def]
        rw [eints]
        refine bl_max1 get_last (by simp) fun mx hmx hmax => ?_
        obtain ⟨M, rfl⟩ : ∃ M : Nat, mx = (M : Int) := by
          rcases List.mem_cons.mp hmx with rfl | h
          · exact ⟨0, rfl⟩
          · obtain ⟨x, _, rfl⟩ := List.mem_map.mp h
            exact ⟨_, rfl⟩
        refine cont M _ _ rfl ((d6.app _).app _) (get_app (get_app hf6 _) _) fun e => .inr fun x hx => ?_
        have hxs2' : xs2 = Wk m q w k1 := by
          rcases hxs2 with ⟨_, i, hi, hlt⟩ | ⟨h, _⟩
          · rcases hxs with ⟨rfl, i', hi', hlt'⟩ | ⟨_, hle⟩
            · have := Wk_tile hb.1 e4 (by omega) hm hF kk
              rw [← e] at this
              have this : at2 0 0 = at2 1 0 := this
              have := at2_eq.mp this
              simp at this
            · have := hle i (by omega)
              omega
          · exact h
        rw [hk1] at hx
        obtain ⟨y, hy, ey⟩ := Wk_par hx
        have := hmax ((y.r.B + (y.nz q).n : Nat) : Int) (List.mem_cons_of_mem _ (List.mem_map.mpr ⟨y, by rw [hxs2']; exact hy, rfl⟩))
        omega
    simp [permN, permL]
    refine Br.dec (fun _ => ⟨shl_ok (by omega) (by omega) (by omega), ?_⟩) (fun _ => ⟨shl_ok (by omega) (by omega) (by omega), ?_⟩)
    · rw [hW.q2, hle]
      exact model_ok (k := 95) (oc := 4) (sc := 3) (by omega) (by omega) d2 (by omega) fun n m st3 hm hms d3 => main n m st3 hm hms d3
    · rw [hW.q2, hle]
      exact model_ok (k := 95) (oc := 3) (sc := 3) (by omega) (by omega) d2 (by omega) fun n m st3 hm hms d3 => main n m st3 hm hms d3
  · subst e
    refine hX3 _ _ ?_
    simp [wps_seq]
end Cb.K59

open PySem PySem.W PyProof.Rows
set_option maxRecDepth 100000 in
set_option maxHeartbeats 8000000 in
theorem PySem.Challenge.cw_coinblind_k59_whole_all_rows_of_bits_rea_holds : PySem.Challenge.rw_coinblind_k59_whole_all_rows_of_bits_rea.Holds := by
  w_on; o_law; k_head; (case hw => w_witness2)
  k_fill
  refine Cb.walk_prg (p := Cb.K59.prg) (ix := 49) (k := 100) rfl (by decide) rfl ⟨rfl, by decide, by decide⟩ (fun w h Y => PySem.W.kIn_of Y) ?nl Cb.K59.prg_ok rfl rfl rfl rfl ?F Cb.K59.holds
  case nl => intro w; kernel_rfl
  case F =>
    intro w mg h KX G
    refine Cb.left_of KX G (fun d hd => ?D) (fun x hx => ?B) (fun c hc => ?C) (fun c hc => ?K) (fun c hc => ?P)
    case D =>
      simp only [Cb.K59.prg, List.mem_cons, List.not_mem_nil, or_false] at hd
      rcases hd with rfl | rfl | rfl | rfl | rfl | rfl | rfl | rfl | rfl | rfl | rfl | rfl | rfl | rfl | rfl | rfl | rfl | rfl | rfl | rfl | rfl | rfl | rfl | rfl | rfl | rfl | rfl | rfl | rfl | rfl | rfl | rfl | rfl | rfl | rfl | rfl | rfl | rfl | rfl | rfl | rfl | rfl | rfl | rfl | rfl | rfl | rfl | rfl | rfl | rfl | rfl | rfl | rfl | rfl
      all_goals first
        | (refine' Cb.LeftD.mk' ?h1 ?h2 ?h3 ?h4; (case h1 => k_is); (case h2 => k_is); (case h3 => k_is); (case h4 => k_is))
        | (refine' Cb.LeftD.mkM ?h0 ?h1 ?h2 ?h3 ?h4 ?h5; (case h0 => k_is); (case h1 => k_is); (case h2 => k_is); (case h3 => k_is); (case h4 => k_is); (case h5 => k_is))
    case B =>
      simp only [Cb.K59.prg, Cb.K59.bl, List.mem_cons, List.not_mem_nil, or_false] at hx
      rcases hx with rfl | rfl | rfl | rfl | rfl | rfl | rfl | rfl | rfl | rfl | rfl | rfl | rfl | rfl | rfl <;> k_is
    case C =>
      simp only [Cb.K59.prg, Cb.K59.consts, List.mem_cons, List.not_mem_nil, or_false] at hc
      rcases hc with rfl | rfl | rfl | rfl
      all_goals (refine' Cb.LeftC.mk' ?h1 ?h2 ?h3; (case h1 => k_is); (case h2 => kernel_rfl); (case h3 => decide +kernel))
    case K =>
      simp only [Cb.K59.prg, Cb.K59.klass, List.mem_cons, List.not_mem_nil, or_false] at hc
      rcases hc with rfl
      all_goals (refine' Cb.LeftK.mk' ?h1 ?h2 ?h3 ?h4 ?h5 ?h6; (case h1 => k_is); (case h2 => k_is); (case h3 => k_is); (case h4 => k_is); (case h5 => k_is); (case h6 => kernel_rfl))
    case P =>
      simp only [Cb.K59.prg, Cb.K59.cpats, List.mem_cons, List.not_mem_nil, or_false] at hc
      rcases hc with rfl
      all_goals (refine' Cb.LeftP.mk' ?h1 ?h2 ?h3; (case h1 => k_is); (case h2 => k_is); (case h3 => k_is))
