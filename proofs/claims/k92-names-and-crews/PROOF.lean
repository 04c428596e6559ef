import PyProof.Rows.All
import Wide.All
import OpenK.AllK
import Wide.FinOn
import HandS.ForMost
import HandS.Exc
import HandS.TryOnly
import HandS.ExcInit
import HandS.ExcField
import HandS.WordsExc
import HandS.Star
import HandS.TupAny
import HandS.IsInst
import HandS.Flow
import HandS.Style
import HandS.Walk
import HandS.WordsDict
import KE.GoesEnum
import HandS.Records
import HandS.SlotsOwn
import HandS.Ends
import PyProof.InstEq
import HandS.SortInts
import HandS.DictComp
import KE.SortData
import HandS.Set
import HandS.SetFor
import HandS.TupSets
import HandS.Small
import HandS.Lambda
import HandS.EndOwn
import KE.KNestM
import HandS.TupMul
import HandS.DictEq
import HandS.Deep
import HandS.More
import HandS.TryMany
import PySem.Challenge.RW_watchedhands_k92_names_and_crews
set_option Elab.async false
set_option linter.all false
set_option maxRecDepth 100000
set_option maxHeartbeats 4000000
/-! Gh0: data, what represents it, the ghost heap, the store, outcomes. -/
namespace Gh
open L2 PyProof.Rows PySem.Spec PySem

/-- Python data: what stands still. loc: an object of the store, at the top of a value alone -/
inductive D where
  | non | bl (b : Bool) | int (i : Int) | str (s : Str)
  | tup (ds : List D) | lst (ds : List D) | scr (ds : List D) | dct (kvs : List (Key × D))
  | ins (c : Str) (fs : List (Str × D)) | loc (n : Nat)

abbrev Glob := Str → Option Value

mutual
/-- d stands for v, by what the still heap F holds -/
def Rep (K : PySem.W.Frag) (mg : Glob) (F : Hp) : D → V → Prop
  | .non, v => v = .non
  | .bl b, v => v = .bl b
  | .int i, v => v = .int i
  | .str s, v => v = .str s
  | .tup ds, v => ∃ a vs, v = .ref a ∧ SqT K F a vs ∧ RepL K mg F ds vs
  | .lst ds, v => ∃ a vs, v = .ref a ∧ F a = some (.lst vs) ∧ RepL K mg F ds vs
  | .scr ds, v => ∃ a vs, v = .ref a ∧ SqL K F a vs ∧ RepL K mg F ds vs
  | .dct kvs, v => ∃ a kv, v = .ref a ∧ Rd F a (.dK kv) ∧ RepK K mg F kvs kv
  | .ins c fs, v => ∃ a C dx fv, v = .ref a ∧ mg c = some (.ref C) ∧ F a = some (.ins C dx fv) ∧ RepF K mg F fs fv
  | .loc _, _ => False
def RepL (K : PySem.W.Frag) (mg : Glob) (F : Hp) : List D → List V → Prop
  | [], vs => vs = []
  | d :: ds, vs => ∃ v r, vs = v :: r ∧ Rep K mg F d v ∧ RepL K mg F ds r
def RepK (K : PySem.W.Frag) (mg : Glob) (F : Hp) : List (Key × D) → List (Key × V) → Prop
  | [], vs => vs = []
  | (k, d) :: ds, vs => ∃ v r, vs = (k, v) :: r ∧ Rep K mg F d v ∧ RepK K mg F ds r
def RepF (K : PySem.W.Frag) (mg : Glob) (F : Hp) : List (Str × D) → List (Str × V) → Prop
  | [], vs => vs = []
  | (k, d) :: ds, vs => ∃ v r, vs = (k, v) :: r ∧ Rep K mg F d v ∧ RepF K mg F ds r
end

abbrev Ex (H H' : Hp) : Prop := ∀ a o, H a = some o → H' a = some o
theorem Ex.refl (H : Hp) : Ex H H := fun _ _ h => h
theorem Ex.trans {H H1 H2 : Hp} (a : Ex H H1) (b : Ex H1 H2) : Ex H H2 := fun x o h => b x o (a x o h)
theorem Ex.new {H : Hp} {p : Addr} {o : HO} (h : H p = none) : Ex H (upd H p o) := fun a u e => by
  rw [upd_ne (ne_of_none e h)]
  exact e
theorem ex_rd {H H' : Hp} {a : Addr} {u : HO} (e : Ex H H') (h : Rd H a u) : Rd H' a u := by
  rcases h with h | ⟨o, h⟩
  · exact Or.inl (e a _ h)
  · exact Or.inr ⟨o, e a _ h⟩
theorem ex_l {K : PySem.W.Frag} {H H' : Hp} {a : Addr} {xs : List V} (e : Ex H H') (h : SqL K H a xs) : SqL K H' a xs := by
  rcases h with h | h
  · exact Or.inl (ex_rd e h)
  · exact Or.inr h
theorem ex_t {K : PySem.W.Frag} {H H' : Hp} {a : Addr} {xs : List V} (e : Ex H H') (h : SqT K H a xs) : SqT K H' a xs := by
  rcases h with h | h
  · exact Or.inl (ex_rd e h)
  · exact Or.inr h

/-- F is a part of H (a dict may be locked there) -/
def ExF (F H : Hp) : Prop := ∀ a o, F a = some o → H a = some o ∨ ∃ ob kv, o = .dK kv ∧ H a = some (.frz ob o)
theorem ExF.rd {F H : Hp} {a : Addr} {u : HO} (e : ExF F H) (h : Rd F a u) : Rd H a u := by
  rcases h with h | ⟨o, h⟩
  · rcases e a _ h with h | ⟨ob, kv, _, h⟩
    · exact Or.inl h
    · exact Or.inr ⟨ob, h⟩
  · rcases e a _ h with h | ⟨ob, kv, q, h⟩
    · exact Or.inr ⟨o, h⟩
    · cases q
theorem ExF.l {K : PySem.W.Frag} {F H : Hp} {a : Addr} {xs : List V} (e : ExF F H) (h : SqL K F a xs) : SqL K H a xs := by
  rcases h with h | h
  · exact Or.inl (e.rd h)
  · exact Or.inr h
theorem ExF.t {K : PySem.W.Frag} {F H : Hp} {a : Addr} {xs : List V} (e : ExF F H) (h : SqT K F a xs) : SqT K H a xs := by
  rcases h with h | h
  · exact Or.inl (e.rd h)
  · exact Or.inr h
theorem ExF.ins {F H : Hp} {a C dx : Addr} {fs : List (Str × V)} (e : ExF F H) (h : F a = some (.ins C dx fs)) : H a = some (.ins C dx fs) := by
  rcases e a _ h with h | ⟨ob, kv, q, h⟩
  · exact h
  · cases q
theorem ExF.lst {F H : Hp} {a : Addr} {fs : List V} (e : ExF F H) (h : F a = some (.lst fs)) : H a = some (.lst fs) := by
  rcases e a _ h with h | ⟨ob, kv, q, h⟩
  · exact h
  · cases q
theorem ExF.xd {F H : Hp} {a : Addr} {fs : List (Str × V)} (e : ExF F H) (h : F a = some (.xd fs)) : H a = some (.xd fs) := by
  rcases e a _ h with h | ⟨ob, kv, q, h⟩
  · exact h
  · cases q
theorem ExF.tup {F H : Hp} {a : Addr} {fs : List V} (e : ExF F H) (h : F a = some (.tup fs)) : H a = some (.tup fs) := by
  rcases e a _ h with h | ⟨ob, kv, q, h⟩
  · exact h
  · cases q
theorem ExF.free {F H : Hp} {a : Addr} (e : ExF F H) (n : H a = none) : F a = none := by
  cases q : F a with
  | none => rfl
  | some u => rcases e a u q with h | ⟨ob, kv, _, h⟩ <;> (rw [n] at h; cases h)
theorem ExF.more {F H H' : Hp} (e : ExF F H) (x : Ex H H') : ExF F H' := fun a o h => by
  rcases e a o h with h | ⟨ob, kv, q, h⟩
  · exact .inl (x a o h)
  · exact .inr ⟨ob, kv, q, x a _ h⟩
theorem ExF.of {F H : Hp} (e : Ex F H) : ExF F H := fun a o h => .inl (e a o h)

section
variable {K : PySem.W.Frag} {mg : Glob}
mutual
theorem Rep.mono {F F' : Hp} (e : Ex F F') : ∀ (d : D) {v : V}, Rep K mg F d v → Rep K mg F' d v
  | .non, v, h => h
  | .bl b, v, h => h
  | .int i, v, h => h
  | .str s, v, h => h
  | .tup ds, v, h => by
    obtain ⟨a, vs, h1, h2, h3⟩ := h
    exact ⟨a, vs, h1, ex_t e h2, RepL.mono e ds h3⟩
  | .lst ds, v, h => by
    obtain ⟨a, vs, h1, h2, h3⟩ := h
    exact ⟨a, vs, h1, e _ _ h2, RepL.mono e ds h3⟩
  | .scr ds, v, h => by
    obtain ⟨a, vs, h1, h2, h3⟩ := h
    exact ⟨a, vs, h1, ex_l e h2, RepL.mono e ds h3⟩
  | .dct kvs, v, h => by
    obtain ⟨a, vs, h1, h2, h3⟩ := h
    exact ⟨a, vs, h1, ex_rd e h2, RepK.mono e kvs h3⟩
  | .ins c fs, v, h => by
    obtain ⟨a, C, dx, fv, h1, h2, h3, h4⟩ := h
    exact ⟨a, C, dx, fv, h1, h2, e _ _ h3, RepF.mono e fs h4⟩
  | .loc n, v, h => h
theorem RepL.mono {F F' : Hp} (e : Ex F F') : ∀ (ds : List D) {vs : List V}, RepL K mg F ds vs → RepL K mg F' ds vs
  | [], vs, h => h
  | d :: ds, vs, h => by
    obtain ⟨v, r, h1, h2, h3⟩ := h
    exact ⟨v, r, h1, Rep.mono e d h2, RepL.mono e ds h3⟩
theorem RepK.mono {F F' : Hp} (e : Ex F F') : ∀ (ds : List (Key × D)) {vs : List (Key × V)}, RepK K mg F ds vs → RepK K mg F' ds vs
  | [], vs, h => h
  | (k, d) :: ds, vs, h => by
    obtain ⟨v, r, h1, h2, h3⟩ := h
    exact ⟨v, r, h1, Rep.mono e d h2, RepK.mono e ds h3⟩
theorem RepF.mono {F F' : Hp} (e : Ex F F') : ∀ (ds : List (Str × D)) {vs : List (Str × V)}, RepF K mg F ds vs → RepF K mg F' ds vs
  | [], vs, h => h
  | (k, d) :: ds, vs, h => by
    obtain ⟨v, r, h1, h2, h3⟩ := h
    exact ⟨v, r, h1, Rep.mono e d h2, RepF.mono e ds h3⟩
end

/-! ### lists of data -/
theorem RepL.length {F : Hp} : ∀ {ds : List D} {vs : List V}, RepL K mg F ds vs → ds.length = vs.length
  | [], vs, h => by
    have h : vs = [] := h
    rw [h] <;> rfl
  | d :: ds, vs, h => by
    obtain ⟨v, r, rfl, h2, h3⟩ := h
    rw [List.length_cons, List.length_cons, RepL.length h3]
theorem RepL.get {F : Hp} : ∀ {ds : List D} {vs : List V} {i : Nat} {d : D}, RepL K mg F ds vs → ds[i]? = some d → ∃ v, vs[i]? = some v ∧ Rep K mg F d v
  | [], vs, i, d, h, e => by simp at e
  | d :: ds, vs, 0, x, h, e => by
    obtain ⟨v, r, rfl, h2, h3⟩ := h
    have e : d = x := by simpa using e
    exact ⟨v, rfl, e ▸ h2⟩
  | d :: ds, vs, i + 1, x, h, e => by
    obtain ⟨v, r, rfl, h2, h3⟩ := h
    obtain ⟨w, e1, e2⟩ := RepL.get (i := i) h3 (by simpa using e)
    exact ⟨w, by simpa using e1, e2⟩
theorem RepL.getV {F : Hp} : ∀ {ds : List D} {vs : List V} {i : Nat} {v : V}, RepL K mg F ds vs → vs[i]? = some v → ∃ d, ds[i]? = some d ∧ Rep K mg F d v
  | [], vs, i, d, h, e => by
    have h : vs = [] := h
    subst h
    simp at e
  | d :: ds, vs, 0, x, h, e => by
    obtain ⟨v, r, rfl, h2, h3⟩ := h
    have e : v = x := by simpa using e
    exact ⟨d, rfl, e ▸ h2⟩
  | d :: ds, vs, i + 1, x, h, e => by
    obtain ⟨v, r, rfl, h2, h3⟩ := h
    obtain ⟨w, e1, e2⟩ := RepL.getV (i := i) h3 (by simpa using e)
    exact ⟨w, by simpa using e1, e2⟩
theorem RepL.append {F : Hp} : ∀ {ds : List D} {vs : List V} {es : List D} {ws : List V}, RepL K mg F ds vs → RepL K mg F es ws → RepL K mg F (ds ++ es) (vs ++ ws)
  | [], vs, es, ws, h, h' => by
    have h : vs = [] := h
    subst h
    exact h'
  | d :: ds, vs, es, ws, h, h' => by
    obtain ⟨v, r, rfl, h2, h3⟩ := h
    exact ⟨v, r ++ ws, rfl, h2, RepL.append h3 h'⟩
theorem RepL.take {F : Hp} : ∀ {ds : List D} {vs : List V} (n : Nat), RepL K mg F ds vs → RepL K mg F (ds.take n) (vs.take n)
  | ds, vs, 0, h => by rw [List.take_zero, List.take_zero]; exact rfl
  | [], vs, n + 1, h => by
    have h : vs = [] := h
    subst h
    exact rfl
  | d :: ds, vs, n + 1, h => by
    obtain ⟨v, r, rfl, h2, h3⟩ := h
    exact ⟨v, r.take n, rfl, h2, RepL.take n h3⟩
theorem RepL.drop {F : Hp} : ∀ {ds : List D} {vs : List V} (n : Nat), RepL K mg F ds vs → RepL K mg F (ds.drop n) (vs.drop n)
  | ds, vs, 0, h => by rw [List.drop_zero, List.drop_zero]; exact h
  | [], vs, n + 1, h => by
    have h : vs = [] := h
    subst h
    exact rfl
  | d :: ds, vs, n + 1, h => by
    obtain ⟨v, r, rfl, h2, h3⟩ := h
    exact RepL.drop n h3
theorem RepL.set {F : Hp} : ∀ {ds : List D} {vs : List V} (n : Nat) {d : D} {v : V}, RepL K mg F ds vs → Rep K mg F d v → RepL K mg F (ds.set n d) (vs.set n v)
  | [], vs, n, d, v, h, hd => by
    have h : vs = [] := h
    subst h
    exact rfl
  | x :: ds, vs, 0, d, v, h, hd => by
    obtain ⟨w, r, rfl, h2, h3⟩ := h
    exact ⟨v, r, rfl, hd, h3⟩
  | x :: ds, vs, n + 1, d, v, h, hd => by
    obtain ⟨w, r, rfl, h2, h3⟩ := h
    exact ⟨w, r.set n v, rfl, h2, RepL.set n h3 hd⟩
theorem RepL.one {F : Hp} {d : D} {v : V} (h : Rep K mg F d v) : RepL K mg F [d] [v] := ⟨v, [], rfl, h, rfl⟩
theorem RepL.snoc {F : Hp} {ds : List D} {vs : List V} {d : D} {v : V} (h : RepL K mg F ds vs) (hd : Rep K mg F d v) : RepL K mg F (ds ++ [d]) (vs ++ [v]) := h.append (.one hd)
theorem RepL.reverse {F : Hp} : ∀ {ds : List D} {vs : List V}, RepL K mg F ds vs → RepL K mg F ds.reverse vs.reverse
  | [], vs, h => by
    have h : vs = [] := h
    subst h
    exact rfl
  | d :: ds, vs, h => by
    obtain ⟨v, r, rfl, h2, h3⟩ := h
    rw [List.reverse_cons, List.reverse_cons]
    exact h3.reverse.snoc h2
theorem RepL.nil_iff {F : Hp} {ds : List D} {vs : List V} (h : RepL K mg F ds vs) : ds.isEmpty = vs.isEmpty := by
  have e := h.length
  cases ds <;> cases vs <;> simp_all
theorem RepK.length {F : Hp} : ∀ {ds : List (Key × D)} {vs : List (Key × V)}, RepK K mg F ds vs → ds.length = vs.length
  | [], vs, h => by
    have h : vs = [] := h
    rw [h] <;> rfl
  | (k, d) :: ds, vs, h => by
    obtain ⟨v, r, rfl, h2, h3⟩ := h
    rw [List.length_cons, List.length_cons, RepK.length h3]

/-! ### pairs by key -/
def valD (kvs : List (Key × D)) (k : Key) : Option D := (kvs.find? fun kv => decide (kv.1 = k)).map (·.2)
def putD (kvs : List (Key × D)) (k : Key) (v : D) : List (Key × D) :=
  if (kvs.any fun kv => decide (kv.1 = k)) = true then kvs.map (fun kv => if kv.1 = k then (kv.1, v) else kv) else kvs ++ [(k, v)]
def dropD (kvs : List (Key × D)) (k : Key) : List (Key × D) := kvs.filter fun kv => decide (kv.1 ≠ k)
def mergeD (kvs more : List (Key × D)) : List (Key × D) := more.foldl (fun acc kv => putD acc kv.1 kv.2) kvs
theorem RepK.val {F : Hp} : ∀ {kvs : List (Key × D)} {vs : List (Key × V)} (k : Key), RepK K mg F kvs vs → (valD kvs k = none ∧ valV vs k = none) ∨ ∃ d v, valD kvs k = some d ∧ valV vs k = some v ∧ Rep K mg F d v
  | [], vs, k, h => by
    have h : vs = [] := h
    subst h
    exact .inl ⟨rfl, rfl⟩
  | (j, d) :: ds, vs, k, h => by
    obtain ⟨v, r, rfl, h2, h3⟩ := h
    by_cases e : j = k
    · refine .inr ⟨d, v, ?_, ?_, h2⟩
      · unfold valD; simp [e]
      · exact valV_pos e
    · have e1 : valD ((j, d) :: ds) k = valD ds k := by unfold valD; simp [e]
      have e2 : valV ((j, v) :: r) k = valV r k := valV_neg e
      rw [e1, e2]
      exact RepK.val k h3
theorem RepK.any {F : Hp} : ∀ {kvs : List (Key × D)} {vs : List (Key × V)} (k : Key), RepK K mg F kvs vs → (kvs.any fun kv => decide (kv.1 = k)) = vs.any fun kv => decide (kv.1 = k)
  | [], vs, k, h => by
    have h : vs = [] := h
    subst h
    rfl
  | (j, d) :: ds, vs, k, h => by
    obtain ⟨v, r, rfl, h2, h3⟩ := h
    rw [List.any_cons, List.any_cons, RepK.any k h3]
theorem RepK.append {F : Hp} : ∀ {ds : List (Key × D)} {vs : List (Key × V)} {es : List (Key × D)} {ws : List (Key × V)}, RepK K mg F ds vs → RepK K mg F es ws → RepK K mg F (ds ++ es) (vs ++ ws)
  | [], vs, es, ws, h, h' => by
    have h : vs = [] := h
    subst h
    exact h'
  | (k, d) :: ds, vs, es, ws, h, h' => by
    obtain ⟨v, r, rfl, h2, h3⟩ := h
    exact ⟨v, r ++ ws, rfl, h2, RepK.append h3 h'⟩
theorem RepK.mapv {F : Hp} {d : D} {v : V} (hd : Rep K mg F d v) (k : Key) : ∀ {kvs : List (Key × D)} {vs : List (Key × V)}, RepK K mg F kvs vs →
    RepK K mg F (kvs.map fun kv => if kv.1 = k then (kv.1, d) else kv) (vs.map fun kv => if kv.1 = k then (kv.1, v) else kv)
  | [], vs, h => by
    have h : vs = [] := h
    subst h
    exact rfl
  | (j, x) :: ds, vs, h => by
    obtain ⟨w, r, rfl, h2, h3⟩ := h
    have ih := RepK.mapv hd k h3
    rw [List.map_cons, List.map_cons]
    by_cases e : j = k
    · rw [if_pos e, if_pos e]
      exact ⟨v, _, rfl, hd, ih⟩
    · rw [if_neg e, if_neg e]
      exact ⟨w, _, rfl, h2, ih⟩
theorem RepK.put {F : Hp} {kvs : List (Key × D)} {vs : List (Key × V)} (h : RepK K mg F kvs vs) (k : Key) {d : D} {v : V} (hd : Rep K mg F d v) : RepK K mg F (putD kvs k d) (putK vs k v) := by
  unfold putD putK
  rw [h.any k]
  split
  · exact h.mapv hd k
  · exact h.append ⟨v, [], rfl, hd, rfl⟩
theorem RepK.drop {F : Hp} (k : Key) : ∀ {kvs : List (Key × D)} {vs : List (Key × V)}, RepK K mg F kvs vs → RepK K mg F (dropD kvs k) (dropK vs k)
  | [], vs, h => by
    have h : vs = [] := h
    subst h
    exact rfl
  | (j, x) :: ds, vs, h => by
    obtain ⟨w, r, rfl, h2, h3⟩ := h
    have ih := RepK.drop k h3
    unfold dropD dropK at ih ⊢
    rw [List.filter_cons, List.filter_cons]
    by_cases e : j = k
    · rw [if_neg (by simp [e]), if_neg (by simp [e])]
      exact ih
    · rw [if_pos (by simp [e]), if_pos (by simp [e])]
      exact ⟨w, _, rfl, h2, ih⟩
theorem RepK.merge {F : Hp} : ∀ {more : List (Key × D)} {mvs : List (Key × V)} {kvs : List (Key × D)} {vs : List (Key × V)}, RepK K mg F more mvs → RepK K mg F kvs vs → RepK K mg F (mergeD kvs more) (mergeK vs mvs)
  | [], mvs, kvs, vs, h, h' => by
    have h : mvs = [] := h
    subst h
    exact h'
  | (k, d) :: ds, mvs, kvs, vs, h, h' => by
    obtain ⟨v, r, rfl, h2, h3⟩ := h
    show RepK K mg F (mergeD (putD kvs k d) ds) (mergeK (putK vs k v) r)
    exact RepK.merge h3 (h'.put k h2)
theorem RepK.getV {F : Hp} : ∀ {ds : List (Key × D)} {vs : List (Key × V)} {i : Nat} {k : Key} {v : V}, RepK K mg F ds vs → vs[i]? = some (k, v) → ∃ d, ds[i]? = some (k, d) ∧ Rep K mg F d v
  | [], vs, i, k, d, h, e => by
    have h : vs = [] := h
    subst h
    simp at e
  | (j, d) :: ds, vs, 0, k, x, h, e => by
    obtain ⟨v, r, rfl, h2, h3⟩ := h
    have e : (j, v) = (k, x) := by simpa using e
    cases e
    exact ⟨d, rfl, h2⟩
  | (j, d) :: ds, vs, i + 1, k, x, h, e => by
    obtain ⟨v, r, rfl, h2, h3⟩ := h
    obtain ⟨w, e1, e2⟩ := RepK.getV (i := i) h3 (by simpa using e)
    exact ⟨w, by simpa using e1, e2⟩
/-! ### fields by name -/
def lookD (fs : List (Str × D)) (f : Str) : Option D := fs.lookup f
def putFD (f : Str) (v : D) : List (Str × D) → List (Str × D)
  | [] => [(f, v)]
  | (g, x) :: r => if g = f then (g, v) :: r else (g, x) :: putFD f v r
theorem RepF.look {F : Hp} : ∀ {fs : List (Str × D)} {vs : List (Str × V)} {f : Str} {d : D}, RepF K mg F fs vs → fs.lookup f = some d → ∃ v, vs.lookup f = some v ∧ Rep K mg F d v
  | [], vs, f, d, h, e => by simp at e
  | (g, x) :: fs, vs, f, d, h, e => by
    obtain ⟨v, r, rfl, h2, h3⟩ := h
    rw [List.lookup_cons] at e
    rw [List.lookup_cons]
    cases q : f == g with
    | true => rw [q] at e; cases e; exact ⟨v, rfl, h2⟩
    | false => rw [q] at e; exact RepF.look h3 e
theorem RepF.lookNone {F : Hp} : ∀ {fs : List (Str × D)} {vs : List (Str × V)} {f : Str}, RepF K mg F fs vs → fs.lookup f = none → vs.lookup f = none
  | [], vs, f, h, e => by
    have h : vs = [] := h
    subst h
    rfl
  | (g, x) :: fs, vs, f, h, e => by
    obtain ⟨v, r, rfl, h2, h3⟩ := h
    rw [List.lookup_cons] at e
    rw [List.lookup_cons]
    cases q : f == g with
    | true => rw [q] at e; cases e
    | false => rw [q] at e; exact RepF.lookNone h3 e
theorem RepF.put {F : Hp} {d : D} {v : V} (hd : Rep K mg F d v) (f : Str) : ∀ {fs : List (Str × D)} {vs : List (Str × V)}, RepF K mg F fs vs → RepF K mg F (putFD f d fs) (putF f v vs)
  | [], vs, h => by
    have h : vs = [] := h
    subst h
    exact ⟨v, [], rfl, hd, rfl⟩
  | (g, x) :: fs, vs, h => by
    obtain ⟨w, r, rfl, h2, h3⟩ := h
    unfold putFD putF
    by_cases e : g = f
    · rw [if_pos e, if_pos e]
      exact ⟨v, r, rfl, hd, h3⟩
    · rw [if_neg e, if_neg e]
      exact ⟨w, _, rfl, h2, RepF.put hd f h3⟩
theorem RepF.length {F : Hp} : ∀ {fs : List (Str × D)} {vs : List (Str × V)}, RepF K mg F fs vs → fs.length = vs.length
  | [], vs, h => by
    have h : vs = [] := h
    rw [h] <;> rfl
  | (k, d) :: ds, vs, h => by
    obtain ⟨v, r, rfl, h2, h3⟩ := h
    rw [List.length_cons, List.length_cons, RepF.length h3]
end

/-! ### values, what stands at an address -/
/-- a value: data, or an object of the store (at L) -/
def VRep (K : PySem.W.Frag) (mg : Glob) (L : List Addr) (F : Hp) (d : D) (v : V) : Prop := (∃ n a, d = .loc n ∧ L[n]? = some a ∧ v = .ref a) ∨ Rep K mg F d v
/-- at a in H stands what d tells, its parts in F -/
def Has (K : PySem.W.Frag) (mg : Glob) (F H : Hp) (a : Addr) : D → Prop
  | .lst ds => ∃ vs, H a = some (.lst vs) ∧ RepL K mg F ds vs
  | .dct kvs => ∃ kv, H a = some (.dK kv) ∧ RepK K mg F kvs kv
  | .ins c fs => ∃ C dx fv, mg c = some (.ref C) ∧ H a = some (.ins C dx fv) ∧ RepF K mg F fs fv
  | _ => False
section
variable {K : PySem.W.Frag} {mg : Glob} {L : List Addr} {F F' H H' : Hp} {a : Addr} {d : D} {v : V}
theorem Has.mono (h : Has K mg F H a d) (e : Ex F F') (k : ∀ o, H a = some o → H' a = some o) : Has K mg F' H' a d := by
  cases d with
  | lst ds => obtain ⟨vs, h1, h2⟩ := h; exact ⟨vs, k _ h1, RepL.mono e ds h2⟩
  | dct kvs => obtain ⟨vs, h1, h2⟩ := h; exact ⟨vs, k _ h1, RepK.mono e kvs h2⟩
  | ins c fs => obtain ⟨C, dx, fv, h1, h2, h3⟩ := h; exact ⟨C, dx, fv, h1, k _ h2, RepF.mono e fs h3⟩
  | _ => exact h
theorem Has.there (h : Has K mg F H a d) : ∃ o, H a = some o := by
  cases d with
  | lst ds => obtain ⟨vs, h1, h2⟩ := h; exact ⟨_, h1⟩
  | dct kvs => obtain ⟨vs, h1, h2⟩ := h; exact ⟨_, h1⟩
  | ins c fs => obtain ⟨C, dx, fv, h1, h2, h3⟩ := h; exact ⟨_, h2⟩
  | _ => exact h.elim
/-- it stands still from now on -/
theorem Has.still {o : HO} (h : Has K mg F H a d) (e : H a = some o) (n : F a = none) : Rep K mg (upd F a o) d (.ref a) := by
  have x : Ex F (upd F a o) := Ex.new n
  cases d with
  | lst ds => obtain ⟨vs, h1, h2⟩ := h; rw [e] at h1; cases h1; exact ⟨a, vs, rfl, upd_same, RepL.mono x ds h2⟩
  | dct kvs => obtain ⟨vs, h1, h2⟩ := h; rw [e] at h1; cases h1; exact ⟨a, vs, rfl, .inl upd_same, RepK.mono x kvs h2⟩
  | ins c fs => obtain ⟨C, dx, fv, h1, h2, h3⟩ := h; rw [e] at h2; cases h2; exact ⟨a, C, dx, fv, rfl, h1, upd_same, RepF.mono x fs h3⟩
  | _ => exact h.elim
theorem VRep.data (h : Rep K mg F d v) : VRep K mg L F d v := .inr h
theorem VRep.mono {M : List Addr} (h : VRep K mg L F d v) (e : Ex F F') : VRep K mg (L ++ M) F' d v := by
  rcases h with ⟨n, a, h1, h2, h3⟩ | h
  · refine .inl ⟨n, a, h1, ?_, h3⟩
    obtain ⟨hl, _⟩ := List.getElem?_eq_some_iff.mp h2
    rw [List.getElem?_append_left hl]
    exact h2
  · exact .inr (Rep.mono e d h)
theorem VRep.int {i : Int} (h : VRep K mg L F (.int i) v) : v = .int i := by
  rcases h with ⟨n, a, h1, _⟩ | h
  · cases h1
  · exact h
theorem VRep.bl {b : Bool} (h : VRep K mg L F (.bl b) v) : v = .bl b := by
  rcases h with ⟨n, a, h1, _⟩ | h
  · cases h1
  · exact h
theorem VRep.str {s : Str} (h : VRep K mg L F (.str s) v) : v = .str s := by
  rcases h with ⟨n, a, h1, _⟩ | h
  · cases h1
  · exact h
theorem VRep.non (h : VRep K mg L F .non v) : v = .non := by
  rcases h with ⟨n, a, h1, _⟩ | h
  · cases h1
  · exact h
theorem VRep.loc {n : Nat} (h : VRep K mg L F (.loc n) v) : ∃ a, L[n]? = Option.some a ∧ v = .ref a := by
  rcases h with ⟨m, a, h1, h2, h3⟩ | h
  · cases h1; exact ⟨a, h2, h3⟩
  · exact h.elim
end

def VRepL (K : PySem.W.Frag) (mg : Glob) (L : List Addr) (F : Hp) : List D → List V → Prop
  | [], vs => vs = []
  | d :: ds, vs => ∃ v r, vs = v :: r ∧ VRep K mg L F d v ∧ VRepL K mg L F ds r
section
variable {K : PySem.W.Frag} {mg : Glob} {L : List Addr} {F F' : Hp}
theorem VRepL.mono {M : List Addr} (e : Ex F F') : ∀ {ds : List D} {vs : List V}, VRepL K mg L F ds vs → VRepL K mg (L ++ M) F' ds vs
  | [], vs, h => h
  | d :: ds, vs, h => by
    obtain ⟨v, r, h1, h2, h3⟩ := h
    exact ⟨v, r, h1, h2.mono e, VRepL.mono e h3⟩
theorem VRepL.length : ∀ {ds : List D} {vs : List V}, VRepL K mg L F ds vs → ds.length = vs.length
  | [], vs, h => by
    have h : vs = [] := h
    rw [h] <;> rfl
  | d :: ds, vs, h => by
    obtain ⟨v, r, rfl, h2, h3⟩ := h
    rw [List.length_cons, List.length_cons, VRepL.length h3]
theorem VRepL.get : ∀ {ds : List D} {vs : List V} {i : Nat} {d : D}, VRepL K mg L F ds vs → ds[i]? = some d → ∃ v, vs[i]? = some v ∧ VRep K mg L F d v
  | [], vs, i, d, h, e => by simp at e
  | d :: ds, vs, 0, x, h, e => by
    obtain ⟨v, r, rfl, h2, h3⟩ := h
    have e : d = x := by simpa using e
    exact ⟨v, rfl, e ▸ h2⟩
  | d :: ds, vs, i + 1, x, h, e => by
    obtain ⟨v, r, rfl, h2, h3⟩ := h
    obtain ⟨w, e1, e2⟩ := VRepL.get (i := i) h3 (by simpa using e)
    exact ⟨w, by simpa using e1, e2⟩
end

/-! ### one step of the heaps -/
/-- the store -/
abbrev Store := List D
structure Stp (F : Hp) (L : List Addr) (H F' : Hp) (L' : List Addr) (H' : Hp) : Prop where
  ex : Ex F F'
  pre : ∃ M, L' = L ++ M
  kp : ∀ a o, H a = some o → a ∉ L → H' a = some o ∧ F' a = F a ∧ a ∉ L'
structure Sto (K : PySem.W.Frag) (mg : Glob) (F : Hp) (L : List Addr) (H : Hp) (st : Store) : Prop where
  ex : ExF F H
  nd : L.Nodup
  len : L.length = st.length
  at_ : ∀ (n : Nat) (a : Addr) (d : D), L[n]? = some a → st[n]? = some d → F a = none ∧ Has K mg F H a d
section
variable {K : PySem.W.Frag} {mg : Glob} {F F1 F2 H H1 H2 : Hp} {L L1 L2 : List Addr} {st : Store} {d : D} {u : V} {a : Addr} {o : HO}
theorem Stp.refl : Stp F L H F L H := ⟨Ex.refl F, ⟨[], (List.append_nil L).symm⟩, fun a o h n => ⟨h, rfl, n⟩⟩
theorem Stp.trans (x : Stp F L H F1 L1 H1) (y : Stp F1 L1 H1 F2 L2 H2) : Stp F L H F2 L2 H2 := by
  refine ⟨x.ex.trans y.ex, ?_, fun a o h n => ?_⟩
  · obtain ⟨M, e⟩ := x.pre
    obtain ⟨M', e'⟩ := y.pre
    exact ⟨M ++ M', by rw [e', e, List.append_assoc]⟩
  · obtain ⟨h1, h2, h3⟩ := x.kp a o h n
    obtain ⟨g1, g2, g3⟩ := y.kp a o h1 h3
    exact ⟨g1, g2.trans h2, g3⟩
theorem Stp.vrep (x : Stp F L H F1 L1 H1) (h : VRep K mg L F d u) : VRep K mg L1 F1 d u := by
  obtain ⟨M, e⟩ := x.pre
  rw [e]
  exact h.mono x.ex
theorem Stp.vrepl (x : Stp F L H F1 L1 H1) {ds : List D} {vs : List V} (h : VRepL K mg L F ds vs) : VRepL K mg L1 F1 ds vs := by
  obtain ⟨M, e⟩ := x.pre
  rw [e]
  exact h.mono x.ex
theorem Stp.mem (x : Stp F L H F1 L1 H1) (h : a ∈ L) : a ∈ L1 := by
  obtain ⟨M, e⟩ := x.pre
  rw [e]
  exact List.mem_append_left _ h
theorem Sto.mem (x : Sto K mg F L H st) (h : a ∈ L) : F a = none ∧ ∃ o, H a = some o := by
  obtain ⟨n, hn, e⟩ := List.getElem_of_mem h
  have h2 : n < st.length := by rw [← x.len]; exact hn
  obtain ⟨h3, h4⟩ := x.at_ n a st[n] (by rw [List.getElem?_eq_getElem hn, e]) (List.getElem?_eq_getElem h2)
  exact ⟨h3, h4.there⟩
/-- a new still object -/
theorem Stp.still (e : ExF F H) (n : H a = none) : Stp F L H (upd F a o) L (upd H a o) := by
  have nF : F a = none := e.free n
  refine ⟨Ex.new nF, ⟨[], (List.append_nil L).symm⟩, fun b u h nb => ?_⟩
  have hb : b ≠ a := ne_of_none h n
  exact ⟨by rw [upd_ne hb]; exact h, by rw [upd_ne hb], nb⟩
theorem Sto.still (x : Sto K mg F L H st) (n : H a = none) : Sto K mg (upd F a o) L (upd H a o) st := by
  have nF := x.ex.free n
  refine ⟨fun b u h => ?_, x.nd, x.len, fun m b d h1 h2 => ?_⟩
  · by_cases hb : b = a
    · subst hb; rw [upd_same] at h ⊢; exact .inl h
    · rw [upd_ne hb] at h ⊢; exact x.ex b u h
  · obtain ⟨h3, h4⟩ := x.at_ m b d h1 h2
    obtain ⟨u, hu⟩ := h4.there
    have hb : b ≠ a := ne_of_none hu n
    refine ⟨by rw [upd_ne hb]; exact h3, h4.mono (Ex.new nF) fun u q => by rw [upd_ne hb]; exact q⟩
theorem Sto.there (x : Sto K mg F L H st) : ∀ a ∈ L, ∃ o, H a = some o := fun a h => (x.mem h).2
/-- a new object that may change -/
theorem Stp.fresh (n : H a = none) : Stp F L H F L (upd H a o) := by
  refine ⟨Ex.refl F, ⟨[], (List.append_nil L).symm⟩, fun b u h nb => ?_⟩
  have hb : b ≠ a := ne_of_none h n
  exact ⟨by rw [upd_ne hb]; exact h, rfl, nb⟩
theorem Sto.fresh (x : Sto K mg F L H st) (n : H a = none) : Sto K mg F L (upd H a o) st := by
  refine ⟨x.ex.more (Ex.new n), x.nd, x.len, fun m b d h1 h2 => ?_⟩
  obtain ⟨h3, h4⟩ := x.at_ m b d h1 h2
  obtain ⟨u, hu⟩ := h4.there
  have hb : b ≠ a := ne_of_none hu n
  exact ⟨h3, h4.mono (Ex.refl F) fun u q => by rw [upd_ne hb]; exact q⟩
/-- an object that may change stands still from now on -/
theorem Sto.freeze (x : Sto K mg F L H st) (h : H a = some o) (nL : a ∉ L) (nF : F a = none) : Sto K mg (upd F a o) L H st := by
  refine ⟨fun b u q => ?_, x.nd, x.len, fun m b d h1 h2 => ?_⟩
  · by_cases hb : b = a
    · subst hb; rw [upd_same] at q; cases q; exact .inl h
    · rw [upd_ne hb] at q; exact x.ex b u q
  · obtain ⟨h3, h4⟩ := x.at_ m b d h1 h2
    have hb : b ≠ a := fun z => nL (by rw [← z]; exact List.mem_of_getElem? h1)
    exact ⟨by rw [upd_ne hb]; exact h3, h4.mono (Ex.new nF) fun u q => q⟩
/-- .. an object that a step had made -/
theorem Stp.freeze (x : Stp F L H F1 L1 H1) (n : H a = none) (nF : F1 a = none) : Stp F L H (upd F1 a o) L1 H1 := by
  refine ⟨x.ex.trans (Ex.new nF), x.pre, fun b u h nb => ?_⟩
  obtain ⟨h1, h2, h3⟩ := x.kp b u h nb
  have hb : b ≠ a := ne_of_none h n
  exact ⟨h1, by rw [upd_ne hb]; exact h2, h3⟩
end

/-! ### outcomes -/
/-- of an expression, a call -/
inductive RC (α : Type) where
  | ok (a : α) (st : Store)
  | exc (c : Str) (fs : List (Str × D)) (st : Store)
  | bad
def RC.bind {α β : Type} (x : RC α) (f : α → Store → RC β) : RC β := match x with
  | .ok a st => f a st
  | .exc c fs st => .exc c fs st
  | .bad => .bad
@[simp] theorem RC.bind_ok {α β : Type} (a : α) (st : Store) (f : α → Store → RC β) : (RC.ok a st).bind f = f a st := rfl
@[simp] theorem RC.bind_exc {α β : Type} (c : Str) (fs : List (Str × D)) (st : Store) (f : α → Store → RC β) : (RC.exc c fs st : RC α).bind f = .exc c fs st := rfl
@[simp] theorem RC.bind_bad {α β : Type} (f : α → Store → RC β) : (RC.bad : RC α).bind f = .bad := rfl
/-- a slot: nothing, data (or an object of the store), a list or dict of its own, a caught exception -/
inductive Sl where
  | un | val (d : D) | own (d : D) | exc (c : Str) (fs : List (Str × D))
abbrev REnv := List Sl
abbrev EDen := REnv → Store → RC D
abbrev TDen := REnv → Store → RC Bool
abbrev ADen := REnv → Store → RC (List D)
/-- of a statement -/
inductive SR where
  | nx (ρ : REnv) (st : Store) | rt (d : D) (st : Store) | bk (ρ : REnv) (st : Store) | ct (ρ : REnv) (st : Store)
  | exc (c : Str) (fs : List (Str × D)) (ρ : REnv) (st : Store) | bad
abbrev SDen := REnv → Store → SR
abbrev CallF := List D → Store → RC D
end Gh
/-! Gh1: the relation between a frame and its data; readings by denotations; the core rules. -/
namespace Gh
open L2 PyProof.Rows PySem.Spec PySem

abbrev St := L2.St

/-- what stood at the def's entry; the exception that a suite holds -/
structure Ent where
  F0 : Hp
  L0 : List Addr
  H0 : Hp
  x : Option (Nat × Addr × Value × Option Addr) := none
/-- an exception of the class c with fields fs -/
def Exc (K : PySem.W.Frag) (mg : Glob) (F : Hp) (c : Str) (fs : List (Str × D)) (cls : Value) (dd : Option Addr) : Prop :=
  ∃ C d fv, mg c = some (.ref C) ∧ cls = .ref C ∧ dd = some d ∧ F d = some (.xd fv) ∧ RepF K mg F fs fv
theorem Exc.mono {K : PySem.W.Frag} {mg : Glob} {F F' : Hp} {c : Str} {fs : List (Str × D)} {cls : Value} {dd : Option Addr} (h : Exc K mg F c fs cls dd) (e : Ex F F') : Exc K mg F' c fs cls dd := by
  obtain ⟨C, d, fv, h1, h2, h3, h4, h5⟩ := h
  exact ⟨C, d, fv, h1, h2, h3, e _ _ h4, RepF.mono e fs h5⟩
structure Rl (K : PySem.W.Frag) (mg : Glob) (Γ : Ent) (F : Hp) (L : List Addr) (σ : St) (H : Hp) (ρ : REnv) (st : Store) : Prop where
  sto : Sto K mg F L H st
  stp : Stp Γ.F0 Γ.L0 Γ.H0 F L H
  sl : ∀ (i : Nat) (d : D), ρ[i]? = some (Sl.val d) → ∃ v, σ[i]? = some (some v) ∧ VRep K mg L F d v
  so : ∀ (i : Nat) (d : D), ρ[i]? = some (Sl.own d) → ∃ a, σ[i]? = some (some (.ref a)) ∧ F a = none ∧ a ∉ L ∧ Γ.H0 a = none ∧ Has K mg F H a d
  sd : ∀ (i j : Nat) (d e : D) (a : Addr), ρ[i]? = some (Sl.own d) → ρ[j]? = some (Sl.own e) → σ[i]? = some (some (.ref a)) → σ[j]? = some (some (.ref a)) → i = j
  sx : ∀ (i : Nat) (c : Str) (fs : List (Str × D)), ρ[i]? = some (Sl.exc c fs) → ∃ a cls dd, Γ.x = some (i, a, cls, dd) ∧ σ[i]? = some (some (.ref a)) ∧ Exc K mg F c fs cls dd
  len : ρ.length = σ.length
section
variable {K : PySem.W.Frag} {mg : Glob} {Γ : Ent} {F F' F1 H H' H1 : Hp} {L L' L1 : List Addr} {σ : St} {ρ : REnv} {st st' st1 : Store}
theorem Rl.step (r : Rl K mg Γ F L σ H ρ st) (s : Stp F L H F' L' H') (o : Sto K mg F' L' H' st') : Rl K mg Γ F' L' σ H' ρ st' := by
  refine ⟨o, r.stp.trans s, fun i d e => ?_, fun i d e => ?_, r.sd, fun i c fs e => ?_, r.len⟩
  · obtain ⟨v, h1, h2⟩ := r.sl i d e
    exact ⟨v, h1, s.vrep h2⟩
  · obtain ⟨a, h1, h2, h3, h4, h5⟩ := r.so i d e
    obtain ⟨u, hu⟩ := h5.there
    obtain ⟨g1, g2, g3⟩ := s.kp a u hu h3
    exact ⟨a, h1, g2.trans h2, g3, h4, h5.mono s.ex fun w q => by rw [hu] at q; cases q; exact g1⟩
  · obtain ⟨a, cls, dd, h1, h2, h3⟩ := r.sx i c fs e
    exact ⟨a, cls, dd, h1, h2, h3.mono s.ex⟩
/-- new now is new since the entry -/
theorem Rl.new0 (r : Rl K mg Γ F L σ H ρ st) {a : Addr} (n : H a = none) : Γ.H0 a = none := by
  cases q : Γ.H0 a with
  | none => rfl
  | some o =>
    by_cases hm : a ∈ Γ.L0
    · obtain ⟨u, hu⟩ := (r.sto.mem (r.stp.mem hm)).2
      rw [n] at hu; cases hu
    · have := (r.stp.kp a o q hm).1
      rw [n] at this; cases this
theorem Rl.newL (r : Rl K mg Γ F L σ H ρ st) {a : Addr} (n : H a = none) : a ∉ L := fun h => by
  obtain ⟨u, hu⟩ := (r.sto.mem h).2
  rw [n] at hu; cases hu
theorem Rl.newF (r : Rl K mg Γ F L σ H ρ st) {a : Addr} (n : H a = none) : F a = none := r.sto.ex.free n
end

/-- what is wished of an outcome -/
def Post {α : Type} (K : PySem.W.Frag) (mg : Glob) (W : WX) (σ : St) (F : Hp) (L : List Addr) (H : Hp) (r : RC α) (ok : Hp → List Addr → Hp → Store → α → Prop) : Prop := match r with
  | .ok d st' => ∀ F' L' H', Stp F L H F' L' H' → Sto K mg F' L' H' st' → ok F' L' H' st' d
  | .exc c fs st' => ∀ F' L' H' cls dd, Stp F L H F' L' H' → Sto K mg F' L' H' st' → Exc K mg F' c fs cls dd → W cls dd σ H'
  | .bad => False
section
variable {α β : Type} {K : PySem.W.Frag} {mg : Glob} {W : WX} {Γ : Ent} {F F' F1 H H' H1 : Hp} {L L' L1 : List Addr} {σ : St} {ρ : REnv} {st st' st1 : Store} {r : RC α} {f : α → Store → RC β}
  {ok ok' : Hp → List Addr → Hp → Store → α → Prop} {okb : Hp → List Addr → Hp → Store → β → Prop}
theorem Post.step (h : Post K mg W σ F L H r ok) (s : Stp F L H F1 L1 H1) : Post K mg W σ F1 L1 H1 r ok := by
  cases r with
  | ok d st' => exact fun F' L' H' s' o => h F' L' H' (s.trans s') o
  | exc c fs st' => exact fun F' L' H' cls dd s' o e => h F' L' H' cls dd (s.trans s') o e
  | bad => exact h.elim
theorem Post.imp (h : Post K mg W σ F L H r ok) (k : ∀ F' L' H' st' d, Stp F L H F' L' H' → Sto K mg F' L' H' st' → ok F' L' H' st' d → ok' F' L' H' st' d) : Post K mg W σ F L H r ok' := by
  cases r with
  | ok d st' => exact fun F' L' H' s' o => k F' L' H' st' d s' o (h F' L' H' s' o)
  | exc c fs st' => exact h
  | bad => exact h.elim
theorem Post.impE (h : Post K mg W σ F L H r ok) (k : ∀ F' L' H' st' d, r = .ok d st' → Stp F L H F' L' H' → Sto K mg F' L' H' st' → ok F' L' H' st' d → ok' F' L' H' st' d) : Post K mg W σ F L H r ok' := by
  cases r with
  | ok d st' => exact fun F' L' H' s o => k F' L' H' st' d rfl s o (h F' L' H' s o)
  | exc c fs st' => exact h
  | bad => exact h.elim
theorem Post.bind (h : Post K mg W σ F L H (r.bind f) okb) : Post K mg W σ F L H r (fun F1 L1 H1 st1 d => Post K mg W σ F1 L1 H1 (f d st1) okb) := by
  cases r with
  | ok d st' => exact fun F' L' H' s' o => Post.step (r := f d st') h s'
  | exc c fs st' => exact h
  | bad => exact h.elim
theorem Post.okD {d : α} (h : Post K mg W σ F L H (.ok d st) ok) (s : Stp F L H F' L' H') (o : Sto K mg F' L' H' st) : ok F' L' H' st d := h F' L' H' s o
theorem Post.here {d : α} (h : Post K mg W σ F L H (.ok d st) ok) (o : Sto K mg F L H st) : ok F L H st d := h F L H Stp.refl o
end

/-! ### kinds of results -/
abbrev Kd := PySem.W.Frag → Glob → St → Hp → REnv → Hp → List Addr → Hp → D → V → Prop
/-- a value -/
def kV : Kd := fun K mg _ _ _ F L _ d v => VRep K mg L F d v
/-- something that is read: a value, or a list or dict of the frame's own -/
def kR : Kd := fun K mg σ _ ρ F L _ d v => VRep K mg L F d v ∨ ∃ i : Nat, ρ[i]? = some (Sl.own d) ∧ σ[i]? = some (some v)
/-- a new list, dict, object that none knows but who asked for it -/
def kO : Kd := fun K mg _ H _ F L H' d v => ∃ a, v = .ref a ∧ H a = none ∧ F a = none ∧ a ∉ L ∧ Has K mg F H' a d

def teG (k : Kd) (K : PySem.W.Frag) (mg : Glob) (Γ : Ent) (W : WX) (m : EDen) : TE := fun σ H Q => ∃ F L ρ st, Rl K mg Γ F L σ H ρ st ∧
  Post K mg W σ F L H (m ρ st) fun F' L' H' _ d => ∀ v, k K mg σ H ρ F' L' H' d v → Q v H'
abbrev teV := teG kV
abbrev teR := teG kR
abbrev teO := teG kO
def ttG (K : PySem.W.Frag) (mg : Glob) (Γ : Ent) (W : WX) (m : TDen) : TT := fun σ H Q => ∃ F L ρ st, Rl K mg Γ F L σ H ρ st ∧
  Post K mg W σ F L H (m ρ st) fun F' L' H' _ b => Q b H'
def taG (K : PySem.W.Frag) (mg : Glob) (Γ : Ent) (W : WX) (m : ADen) : TA := fun σ H Q => ∃ F L ρ st, Rl K mg Γ F L σ H ρ st ∧
  Post K mg W σ F L H (m ρ st) fun F' L' H' _ ds => ∀ vs, VRepL K mg L' F' ds vs → Q vs H'

theorem pe_imp {X : Cx} {e : Expr} {t t' : TE} (h : PE X e t) (k : ∀ σ H Q, t' σ H Q → t σ H Q) : PE X e t' := ⟨fun pins s σ H Q I q => h.run pins s σ H Q I (k σ H Q q)⟩
theorem pt_imp {X : Cx} {e : Expr} {t t' : TT} (h : PT X e t) (k : ∀ σ H Q, t' σ H Q → t σ H Q) : PT X e t' := ⟨fun pins s σ H Q I q => h.run pins s σ H Q I (k σ H Q q)⟩
theorem pw_imp {X : Cx} {e : Expr} {t t' : TT} (h : PW X e t) (k : ∀ σ H Q, t' σ H Q → t σ H Q) : PW X e t' := ⟨fun w pins s σ H Q I q => h.run w pins s σ H Q I (k σ H Q q)⟩
theorem pa_imp {X : Cx} {es : List Expr} {t t' : TA} (h : PA X es t) (k : ∀ σ H Q, t' σ H Q → t σ H Q) : PA X es t' := ⟨fun pos pins s σ H Q I q => h.run pos pins s σ H Q I (k σ H Q q)⟩
theorem ps_imp {X : Cx} {s : Stmt} {t t' : TS} (h : PS X s t) (k : ∀ D σ H, t' D σ H → t D σ H) : PS X s t' := ⟨fun pins s σ H D I q => h.run pins s σ H D I (k D σ H q)⟩
theorem pss_imp {X : Cx} {s : List Stmt} {t t' : TS} (h : PSs X s t) (k : ∀ D σ H, t' D σ H → t D σ H) : PSs X s t' := ⟨fun pins s σ H D I q => h.run pins s σ H D I (k D σ H q)⟩

section
variable {X : Cx} {K : PySem.W.Frag} {mg : Glob} {Γ : Ent} {W : WX} {e a b c : Expr} {m ma mb mc : EDen} {pos : Pos}
/-- a value is something to be read -/
theorem g_vr (h : PE X e (teV K mg Γ W m)) : PE X e (teR K mg Γ W m) :=
  pe_imp h fun σ H Q ⟨F, L, ρ, st, r, p⟩ => ⟨F, L, ρ, st, r, p.imp fun F' L' H' st' d s o q v kv => q v (.inl kv)⟩
/-- a new object stands still: a value -/
theorem g_ov (h : PE X e (teO K mg Γ W m)) : PE X e (teV K mg Γ W m) := by
  refine pe_imp h fun σ H Q ⟨F, L, ρ, st, r, p⟩ => ⟨F, L, ρ, st, r, ?_⟩
  cases hm : m ρ st with
  | ok d st' =>
    rw [hm] at p
    intro F' L' H' s o v ⟨a, e1, n, nF, nL, hs⟩
    subst e1
    obtain ⟨u, hu⟩ := hs.there
    exact p (upd F' a u) L' H' (s.freeze n nF) (o.freeze hu nL nF) _ (.inr (hs.still hu nF))
  | exc c fs st' => rw [hm] at p; exact p
  | bad => rw [hm] at p; exact p.elim

/-! ### names, constants -/
def eVar (i : Nat) : EDen := fun ρ st => match ρ[i]? with
  | some (Sl.val d) => .ok d st
  | _ => .bad
/-- .. a list or dict of the frame's own, read -/
def ePeek (i : Nat) : EDen := fun ρ st => match ρ[i]? with
  | some (Sl.val d) => .ok d st
  | some (Sl.own d) => .ok d st
  | _ => .bad
def eC (d : D) : EDen := fun _ st => .ok d st
theorem g_var (i : Nat) {x : Str} (hN : X.N[i]? = some x := by rfl) (hv : Vis X.env.scope x := by first | exact Or.inl rfl | exact Or.inr (Or.inl rfl) | exact Or.inr (Or.inr rfl)) (hd : (x == ("__debug__" : Str)) = false := by decide)
    (hcd : (x == ("__classdict__" : Str)) = false := by decide) : PE X (.Name x pos) (teV K mg Γ W (eVar i)) := by
  refine pe_imp (pe_var hN hv hd hcd) fun σ H Q ⟨F, L, ρ, st, r, p⟩ => ?_
  unfold eVar at p
  split at p
  · rename_i d e
    obtain ⟨v, h1, h2⟩ := r.sl i d e
    exact ⟨v, h1, p.here r.sto v h2⟩
  · exact p.elim
theorem g_peek (i : Nat) {x : Str} (hN : X.N[i]? = some x := by rfl) (hv : Vis X.env.scope x := by first | exact Or.inl rfl | exact Or.inr (Or.inl rfl) | exact Or.inr (Or.inr rfl)) (hd : (x == ("__debug__" : Str)) = false := by decide)
    (hcd : (x == ("__classdict__" : Str)) = false := by decide) : PE X (.Name x pos) (teR K mg Γ W (ePeek i)) := by
  refine pe_imp (pe_var hN hv hd hcd) fun σ H Q ⟨F, L, ρ, st, r, p⟩ => ?_
  unfold ePeek at p
  split at p
  · rename_i d e
    obtain ⟨v, h1, h2⟩ := r.sl i d e
    exact ⟨v, h1, p.here r.sto v (.inl h2)⟩
  · rename_i d e
    obtain ⟨a, h1, _⟩ := r.so i d e
    exact ⟨_, h1, p.here r.sto _ (.inr ⟨i, e, h1⟩)⟩
  · exact p.elim
theorem g_c {d : D} {v : V} (h : PE X e (tC v)) (r : ∀ F, Rep K mg F d v) : PE X e (teV K mg Γ W (eC d)) :=
  pe_imp h fun σ H Q ⟨F, L, ρ, st, rl, p⟩ => p.here rl.sto v (.inr (r F))
theorem g_int {i : Int} {j pos} : PE X (.Constant (.int i) j pos) (teV K mg Γ W (eC (.int i))) := g_c pe_int fun _ => rfl
theorem g_bl {i : Bool} {j pos} : PE X (.Constant (.bool i) j pos) (teV K mg Γ W (eC (.bl i))) := g_c pe_bl fun _ => rfl
theorem g_non {j pos} : PE X (.Constant .none j pos) (teV K mg Γ W (eC .non)) := g_c pe_non fun _ => rfl
theorem g_str {x : Str} {j pos} : PE X (.Constant (.str x) j pos) (teV K mg Γ W (eC (.str x))) := g_c pe_str fun _ => rfl
/-- a global constant -/
theorem g_glob {x : Str} {d : D} {v : V} {u : Value} (hm : X.mg x = some u) (r : RelV v u) (hr : ∀ F, Rep K mg F d v) (hg : Gl X x := by rfl) (hd : (x == ("__debug__" : Str)) = false := by decide) : PE X (.Name x pos) (teV K mg Γ W (eC d)) :=
  g_c (pe_glob hg hm r hd) hr

/-! ### operations -/
abbrev Op1 := D → Store → RC D
abbrev Op2 := D → D → Store → RC D
abbrev OpN := List D → Store → RC D
def e1 (g : Op1) (ma : EDen) : EDen := fun ρ st => (ma ρ st).bind fun x st1 => g x st1
def e2 (g : Op2) (ma mb : EDen) : EDen := fun ρ st => (ma ρ st).bind fun x st1 => (mb ρ st1).bind fun y st2 => g x y st2
def eN (g : OpN) (ma : ADen) : EDen := fun ρ st => (ma ρ st).bind fun xs st1 => g xs st1
/-- what a rule by values asks is had by an operation on data -/
def Sem1 (k : Kd) (K : PySem.W.Frag) (mg : Glob) (g : Op1) (r : V → Hp → VK → Prop) : Prop :=
  ∀ (Γ : Ent) (W : WX) (F : Hp) (L : List Addr) (σ : St) (H : Hp) (ρ : REnv) (st : Store) (x : D) (v : V) (Q : VK), Rl K mg Γ F L σ H ρ st → kR K mg σ H ρ F L H x v →
    Post K mg W σ F L H (g x st) (fun F' L' H' _ d => ∀ w, k K mg σ H ρ F' L' H' d w → Q w H') → r v H Q
def Sem2 (k : Kd) (K : PySem.W.Frag) (mg : Glob) (g : Op2) (r : R2) : Prop :=
  ∀ (Γ : Ent) (W : WX) (F : Hp) (L : List Addr) (σ : St) (H : Hp) (ρ : REnv) (st : Store) (x y : D) (v u : V) (Q : VK), Rl K mg Γ F L σ H ρ st → kR K mg σ H ρ F L H x v → kR K mg σ H ρ F L H y u →
    Post K mg W σ F L H (g x y st) (fun F' L' H' _ d => ∀ w, k K mg σ H ρ F' L' H' d w → Q w H') → r v u H Q
end

/-- kinds whose result may be had later than asked -/
theorem kR.step {K : PySem.W.Frag} {mg : Glob} {σ : St} {H H0 H0' H1 F F1 H2 H3 : Hp} {ρ : REnv} {L L1 : List Addr} {d : D} {v : V} (h : kR K mg σ H0 ρ F L H d v) (s : Stp F L H1 F1 L1 H2) : kR K mg σ H0' ρ F1 L1 H3 d v := by
  rcases h with h | h
  · exact .inl (s.vrep h)
  · exact .inr h
def KLate (k : Kd) : Prop := ∀ {K : PySem.W.Frag} {mg : Glob} {σ : St} {H H1 F L H' : _} {ρ : REnv} {d : D} {v : V}, (∀ a, H a ≠ none → H1 a ≠ none) → k K mg σ H1 ρ F L H' d v → k K mg σ H ρ F L H' d v
theorem kV_late : KLate kV := fun _ h => h
theorem kR_late : KLate kR := fun _ h => h
theorem kO_late : KLate kO := fun {K mg σ H H1 F L H' ρ d v} k ⟨a, h1, h2, h3⟩ => ⟨a, h1, by
  cases q : H a with
  | none => rfl
  | some o => exact absurd h2 (k a (by rw [q]; simp)), h3⟩
theorem Stp.more {F H F' H' : Hp} {L L' : List Addr} {K : PySem.W.Frag} {mg : Glob} {st : Store} (s : Stp F L H F' L' H') (o : Sto K mg F' L' H' st) : ∀ a, H a ≠ none → H' a ≠ none := fun a h => by
  cases q : H a with
  | none => exact absurd q h
  | some u =>
    by_cases hm : a ∈ L
    · obtain ⟨w, hw⟩ := (o.mem (s.mem hm)).2
      rw [hw]; simp
    · rw [(s.kp a u q hm).1]; simp

section
variable {X : Cx} {K : PySem.W.Frag} {mg : Glob} {Γ : Ent} {W : WX} {e a b c : Expr} {m ma mb mc : EDen} {pos : Pos} {k : Kd}
theorem t2_of {r : R2} {g : Op2} (kl : KLate k) (hs : Sem2 k K mg g r) : ∀ σ H Q, teG k K mg Γ W (e2 g ma mb) σ H Q → tOp r (teR K mg Γ W ma) (teR K mg Γ W mb) σ H Q := by
  intro σ H Q ⟨F, L, ρ, st, rl, p⟩
  refine ⟨F, L, ρ, st, rl, p.bind.imp fun F1 L1 H1 st1 x s1 o1 p1 v kv => ?_⟩
  have rl1 := rl.step s1 o1
  refine ⟨F1, L1, ρ, st1, rl1, p1.bind.imp fun F2 L2 H2 st2 y s2 o2 p2 u ku => ?_⟩
  have rl2 := rl1.step s2 o2
  have m1 := s1.more o1
  have m2 := s2.more o2
  exact hs Γ W F2 L2 σ H2 ρ st2 x y v u Q rl2 (kR.step kv s2) ku (p2.imp fun F3 L3 H3 st3 d s3 o3 q w kw => q w (kl (fun a h => m2 a (m1 a h)) kw))
theorem t1_of {r : V → Hp → VK → Prop} {g : Op1} (kl : KLate k) (hs : Sem1 k K mg g r) : ∀ σ H Q, teG k K mg Γ W (e1 g ma) σ H Q → tUn r (teR K mg Γ W ma) σ H Q := by
  intro σ H Q ⟨F, L, ρ, st, rl, p⟩
  refine ⟨F, L, ρ, st, rl, p.bind.imp fun F1 L1 H1 st1 x s1 o1 p1 v kv => ?_⟩
  have rl1 := rl.step s1 o1
  have m1 := s1.more o1
  exact hs Γ W F1 L1 σ H1 ρ st1 x v Q rl1 kv (p1.imp fun F3 L3 H3 st3 d s3 o3 q w kw => q w (kl m1 kw))
theorem g_bin {op : Operator} {r : R2} {g : Op2} (ho : OpR X (binaryOp op) r) (kl : KLate k) (hs : Sem2 k K mg g r) (ha : PE X a (teR K mg Γ W ma)) (hb : PE X b (teR K mg Γ W mb)) : PE X (.BinOp a op b pos) (teG k K mg Γ W (e2 g ma mb)) :=
  pe_imp (pe_op ho ha hb) (t2_of kl hs)
theorem g_un {op : UnaryOp} {r : V → Hp → VK → Prop} {g : Op1} (ho : UnR X (unaryOp op) r) (kl : KLate k) (hs : Sem1 k K mg g r) (ha : PE X a (teR K mg Γ W ma)) : PE X (.UnaryOp op a pos) (teG k K mg Γ W (e1 g ma)) :=
  pe_imp (pe_un ho ha) (t1_of kl hs)
theorem g_cmp {op : CmpOp} {r : R2} {g : Op2} (ho : OpR X (compareOp op) r) (hs : Sem2 kV K mg g r) (ha : PE X a (teR K mg Γ W ma)) (hb : PE X b (teR K mg Γ W mb)) (hm : behindInMarks op b = false) : PE X (.Compare a [op] [b] pos) (teV K mg Γ W (e2 g ma mb)) :=
  pe_imp (pe_cmpR ho ha hb hm) (t2_of kV_late hs)
theorem g_ix {r : R2} {g : Op2} (hr : IxR X r) (hs : Sem2 kV K mg g r) (ha : PE X a (teR K mg Γ W ma)) (hb : PE X b (teR K mg Γ W mb)) (hx : PlainIx b := by exact fun _ _ => rfl) : PE X (.Subscript a b pos) (teV K mg Γ W (e2 g ma mb)) :=
  pe_imp (pe_ix hr ha hb hx) (t2_of kV_late hs)
/-- a op1 b op2 c, the answers truth values -/
def eChain (g g' : Op2) (ma mb mc : EDen) : EDen := fun ρ st => (ma ρ st).bind fun x st1 => (mb ρ st1).bind fun y st2 => (g x y st2).bind fun z st3 => match z with
  | .bl true => (mc ρ st3).bind fun u st4 => g' y u st4
  | .bl false => .ok (.bl false) st3
  | _ => .bad
theorem g_chain {op op' : CmpOp} {r r' : R2} {g g' : Op2} (ho : OpR X (compareOp op) r) (ho' : OpR X (compareOp op') r') (hs : Sem2 kV K mg g r) (hs' : Sem2 kV K mg g' r') (ha : PE X a (teR K mg Γ W ma)) (hb : PE X b (teR K mg Γ W mb)) (hc : PE X c (teR K mg Γ W mc))
    (hm : lastMarks [op, op'] [b, c] = false := by with_unfolding_all rfl) : PE X (.Compare a [op, op'] [b, c] pos) (teV K mg Γ W (eChain g g' ma mb mc)) := by
  refine pe_imp (pe_chain ho ho' ha hb hc hm) fun σ H Q ⟨F, L, ρ, st, rl, p⟩ => ?_
  refine ⟨F, L, ρ, st, rl, p.bind.imp fun F1 L1 H1 st1 x s1 o1 p1 v kv => ?_⟩
  have rl1 := rl.step s1 o1
  refine ⟨F1, L1, ρ, st1, rl1, p1.bind.imp fun F2 L2 H2 st2 y s2 o2 p2 u ku => ?_⟩
  have rl2 := rl1.step s2 o2
  refine hs Γ W F2 L2 σ H2 ρ st2 x y v u _ rl2 (kR.step kv s2) ku (p2.bind.imp fun F3 L3 H3 st3 z s3 o3 p3 w kw => ?_)
  have rl3 := rl2.step s3 o3
  split at p3
  · obtain rfl := kw.bl
    refine ⟨true, rfl, ?_⟩
    rw [if_pos rfl]
    refine ⟨F3, L3, ρ, st3, rl3, p3.bind.imp fun F4 L4 H4 st4 u' s4 o4 p4 v' kv' => ?_⟩
    have rl4 := rl3.step s4 o4
    exact hs' Γ W F4 L4 σ H4 ρ st4 y u' u v' Q rl4 (kR.step (H0 := H2) (H := H3) (kR.step ku s3) s4) kv' p4
  · obtain rfl := kw.bl
    refine ⟨false, rfl, ?_⟩
    rw [if_neg Bool.false_ne_true]
    exact p3.here o3 _ (.inr rfl)
  · exact p3.elim
end
end Gh
/-! Gh2: tests, arguments, displays, calls, attributes. -/
namespace Gh
open L2 PyProof.Rows PySem.Spec PySem

/-! ### tests -/
section
variable {X : Cx} {K : PySem.W.Frag} {mg : Glob} {Γ : Ent} {W : WX} {e a b c : Expr} {m ma mb mc : EDen} {t u : TDen} {pos : Pos} {k : Kd}
def tB (m : EDen) : TDen := fun ρ st => (m ρ st).bind fun d st1 => match d with
  | .bl b => .ok b st1
  | _ => .bad
/-- a value's truth -/
def truth : D → Option Bool
  | .non => some false
  | .bl b => some b
  | .int i => some (i != 0)
  | .str s => if s.length ≤ sizeLine then some ((s.length : Int) != 0) else none
  | .lst ds => some (!ds.isEmpty)
  | .tup ds => some (!ds.isEmpty)
  | _ => none
def tTr (m : EDen) : TDen := fun ρ st => (m ρ st).bind fun d st1 => match truth d with
  | some b => .ok b st1
  | none => .bad
theorem g_tb (h : PE X a (teR K mg Γ W m)) (he : ∀ whole, isTrue a X.env whole = (do let v ← whole; standAt a.pos; holding [v] (truthy v)) := by intro _; rfl) : PT X a (ttG K mg Γ W (tB m)) := by
  refine pt_imp (pt_val h he) fun σ H Q ⟨F, L, ρ, st, rl, p⟩ => ⟨F, L, ρ, st, rl, p.bind.imp fun F1 L1 H1 st1 d s o p1 v kv => ?_⟩
  split at p1
  · rename_i b
    rcases kv with kv | ⟨i, h1, _⟩
    · exact ⟨b, kv.bl, p1.here o⟩
    · obtain ⟨_, _, _, _, _, hs⟩ := (rl.step s o).so i _ h1
      exact hs.elim
  · exact p1.elim
theorem kR.truth {F H H0 : Hp} {L : List Addr} {σ : St} {ρ : REnv} {st : Store} {d : D} {v : V} {b : Bool} (rl : Rl K mg Γ F L σ H ρ st) (kv : kR K mg σ H0 ρ F L H d v) (e : truth d = some b) : TruV K v H b := by
  cases d with
  | non =>
    rcases kv with kv | ⟨i, h1, _⟩
    · rw [kv.non]; cases e; rfl
    · obtain ⟨_, _, _, _, _, hs⟩ := rl.so i _ h1; exact hs.elim
  | bl x =>
    rcases kv with kv | ⟨i, h1, _⟩
    · rw [kv.bl]; cases e; rfl
    · obtain ⟨_, _, _, _, _, hs⟩ := rl.so i _ h1; exact hs.elim
  | int x =>
    rcases kv with kv | ⟨i, h1, _⟩
    · rw [kv.int]; cases e; rfl
    · obtain ⟨_, _, _, _, _, hs⟩ := rl.so i _ h1; exact hs.elim
  | str x =>
    rcases kv with kv | ⟨i, h1, _⟩
    · rw [kv.str]
      have e : (if x.length ≤ sizeLine then some ((x.length : Int) != 0) else none) = some b := e
      split at e
      · rename_i hl; cases e; exact ⟨hl, rfl⟩
      · cases e
    · obtain ⟨_, _, _, _, _, hs⟩ := rl.so i _ h1; exact hs.elim
  | lst ds =>
    cases e
    rcases kv with kv | ⟨i, h1, h2⟩
    · rcases kv with ⟨n, a, q, _⟩ | kv
      · cases q
      · obtain ⟨a, vs, rfl, h3, h4⟩ := kv
        exact .inl ⟨vs, .inl (.inl (rl.sto.ex.lst h3)), by rw [h4.nil_iff]⟩
    · obtain ⟨a, g1, _, _, _, vs, g2, g3⟩ := rl.so i _ h1
      rw [g1] at h2; cases h2
      exact .inl ⟨vs, .inl (.inl g2), by rw [g3.nil_iff]⟩
  | tup ds =>
    cases e
    rcases kv with kv | ⟨i, h1, h2⟩
    · rcases kv with ⟨n, a, q, _⟩ | kv
      · cases q
      · obtain ⟨a, vs, rfl, h3, h4⟩ := kv
        exact .inr (.inl ⟨vs, rl.sto.ex.t h3, by rw [h4.nil_iff]⟩)
    · obtain ⟨_, _, _, _, _, hs⟩ := rl.so i _ h1; exact hs.elim
  | scr ds => cases e
  | dct ds => cases e
  | ins c fs => cases e
  | loc n => cases e
theorem g_tr (hK : X.K = K) (h : PE X a (teR K mg Γ W m)) (he : ∀ whole, isTrue a X.env whole = (do let v ← whole; standAt a.pos; holding [v] (truthy v)) := by intro _; rfl) : PT X a (ttG K mg Γ W (tTr m)) := by
  refine pt_imp (pt_truth h he) fun σ H Q ⟨F, L, ρ, st, rl, p⟩ => ⟨F, L, ρ, st, rl, p.bind.imp fun F1 L1 H1 st1 d s o p1 v kv => ?_⟩
  split at p1
  · rename_i b e
    exact ⟨b, by rw [hK]; exact kv.truth (rl.step s o) e, p1.here o⟩
  · exact p1.elim
def tAnd (t u : TDen) : TDen := fun ρ st => (t ρ st).bind fun b st1 => if b then u ρ st1 else .ok false st1
def tOr (t u : TDen) : TDen := fun ρ st => (t ρ st).bind fun b st1 => if b then .ok true st1 else u ρ st1
def tNot (t : TDen) : TDen := fun ρ st => (t ρ st).bind fun b st1 => .ok (!b) st1
theorem g_and {rest : List Expr} (ha : PT X a (ttG K mg Γ W t)) (hb : PW X (.BoolOp .And (b :: rest) pos) (ttG K mg Γ W u)) : PW X (.BoolOp .And (a :: b :: rest) pos) (ttG K mg Γ W (tAnd t u)) := by
  refine pw_imp (pw_and ha hb) fun σ H Q ⟨F, L, ρ, st, rl, p⟩ => ⟨F, L, ρ, st, rl, p.bind.imp fun F1 L1 H1 st1 d s o p1 => ?_⟩
  cases d with
  | true => exact iteT ⟨F1, L1, ρ, st1, rl.step s o, p1⟩
  | false => exact iteF (p1.here o)
theorem g_or {rest : List Expr} (ha : PT X a (ttG K mg Γ W t)) (hb : PW X (.BoolOp .Or (b :: rest) pos) (ttG K mg Γ W u)) : PW X (.BoolOp .Or (a :: b :: rest) pos) (ttG K mg Γ W (tOr t u)) := by
  refine pw_imp (pw_or ha hb) fun σ H Q ⟨F, L, ρ, st, rl, p⟩ => ⟨F, L, ρ, st, rl, p.bind.imp fun F1 L1 H1 st1 d s o p1 => ?_⟩
  cases d with
  | true => exact iteT (p1.here o)
  | false => exact iteF ⟨F1, L1, ρ, st1, rl.step s o, p1⟩
theorem g_not (ha : PT X a (ttG K mg Γ W t)) : PT X (.UnaryOp .Not a pos) (ttG K mg Γ W (tNot t)) :=
  pt_imp (pt_not ha) fun σ H Q ⟨F, L, ρ, st, rl, p⟩ => ⟨F, L, ρ, st, rl, p.bind.imp fun F1 L1 H1 st1 d s o p1 => p1.here o⟩
/-- x or y, x and y, not x as values -/
def eOr (ma mb : EDen) : EDen := fun ρ st => (ma ρ st).bind fun d st1 => match truth d with
  | some true => .ok d st1
  | some false => mb ρ st1
  | none => .bad
def eAnd (ma mb : EDen) : EDen := fun ρ st => (ma ρ st).bind fun d st1 => match truth d with
  | some false => .ok d st1
  | some true => mb ρ st1
  | none => .bad
def eNot (ma : EDen) : EDen := fun ρ st => (ma ρ st).bind fun d st1 => match truth d with
  | some b => .ok (.bl (!b)) st1
  | none => .bad
theorem g_orV (hK : X.K = K) {rest : List Expr} (ha : PE X a (teV K mg Γ W ma)) (hb : PE X (.BoolOp .Or (b :: rest) pos) (teV K mg Γ W mb)) : PE X (.BoolOp .Or (a :: b :: rest) pos) (teV K mg Γ W (eOr ma mb)) := by
  refine pe_imp (pe_orT ha hb) fun σ H Q ⟨F, L, ρ, st, rl, p⟩ => ⟨F, L, ρ, st, rl, p.bind.imp fun F1 L1 H1 st1 d s o p1 v kv => ?_⟩
  have tr : ∀ b, truth d = some b → TruV X.K v H1 b := fun b e => by rw [hK]; exact kR.truth (H0 := H) (rl.step s o) (.inl kv) e
  split at p1
  · rename_i e
    exact ⟨true, tr _ e, iteT (p1.here o v kv)⟩
  · rename_i e
    exact ⟨false, tr _ e, iteF ⟨F1, L1, ρ, st1, rl.step s o, p1⟩⟩
  · exact p1.elim
theorem g_andV (hK : X.K = K) {rest : List Expr} (ha : PE X a (teV K mg Γ W ma)) (hb : PE X (.BoolOp .And (b :: rest) pos) (teV K mg Γ W mb)) : PE X (.BoolOp .And (a :: b :: rest) pos) (teV K mg Γ W (eAnd ma mb)) := by
  refine pe_imp (pe_andT ha hb) fun σ H Q ⟨F, L, ρ, st, rl, p⟩ => ⟨F, L, ρ, st, rl, p.bind.imp fun F1 L1 H1 st1 d s o p1 v kv => ?_⟩
  have tr : ∀ b, truth d = some b → TruV X.K v H1 b := fun b e => by rw [hK]; exact kR.truth (H0 := H) (rl.step s o) (.inl kv) e
  split at p1
  · rename_i e
    exact ⟨false, tr _ e, iteF (p1.here o v kv)⟩
  · rename_i e
    exact ⟨true, tr _ e, iteT ⟨F1, L1, ρ, st1, rl.step s o, p1⟩⟩
  · exact p1.elim
theorem g_notV (hK : X.K = K) (ha : PE X a (teR K mg Γ W ma)) : PE X (.UnaryOp .Not a pos) (teV K mg Γ W (eNot ma)) := by
  refine pe_imp (pe_notT ha) fun σ H Q ⟨F, L, ρ, st, rl, p⟩ => ⟨F, L, ρ, st, rl, p.bind.imp fun F1 L1 H1 st1 d s o p1 v kv => ?_⟩
  split at p1
  · rename_i b e
    exact ⟨b, by rw [hK]; exact kv.truth (rl.step s o) e, p1.here o _ (.inr rfl)⟩
  · exact p1.elim
theorem g_one {op : BoolOp} (ha : PE X a (teG k K mg Γ W ma)) : PE X (.BoolOp op [a] pos) (teG k K mg Γ W ma) := pe_one ha
def eIf (t : TDen) (ma mb : EDen) : EDen := fun ρ st => (t ρ st).bind fun b st1 => if b then ma ρ st1 else mb ρ st1
theorem g_if (kl : KLate k) (ht : PT X c (ttG K mg Γ W t)) (ha : PE X a (teG k K mg Γ W ma)) (hb : PE X b (teG k K mg Γ W mb)) : PE X (.IfExp c a b pos) (teG k K mg Γ W (eIf t ma mb)) := by
  refine pe_imp (pe_ifExp ht ha hb) fun σ H Q ⟨F, L, ρ, st, rl, p⟩ => ⟨F, L, ρ, st, rl, p.bind.imp fun F1 L1 H1 st1 d s o p1 => ?_⟩
  have mo := s.more o
  cases d with
  | true => exact iteT ⟨F1, L1, ρ, st1, rl.step s o, p1.imp fun F2 L2 H2 st2 x s2 o2 q v kv => q v (kl mo kv)⟩
  | false => exact iteF ⟨F1, L1, ρ, st1, rl.step s o, p1.imp fun F2 L2 H2 st2 x s2 o2 q v kv => q v (kl mo kv)⟩
end

/-! ### arguments and displays -/
def aNil : ADen := fun _ st => .ok [] st
def aCons (m : EDen) (r : ADen) : ADen := fun ρ st => (m ρ st).bind fun d st1 => (r ρ st1).bind fun ds st2 => .ok (d :: ds) st2
/-- *e, e a tuple or a list -/
def starOf : D → Option (List D)
  | .tup es => some es
  | .lst es => some es
  | _ => none
def aStar (m : EDen) (r : ADen) : ADen := fun ρ st => (m ρ st).bind fun d st1 => match starOf d with
  | some es => (r ρ st1).bind fun ds st2 => .ok (es ++ ds) st2
  | none => .bad
def isLoc : D → Bool
  | .loc _ => true
  | _ => false
/-- items of a display: no object of the store among them -/
def flatL (ds : List D) : Bool := ds.all fun d => !isLoc d
section
variable {K : PySem.W.Frag} {mg : Glob} {L : List Addr} {F : Hp}
theorem VRep.flat {d : D} {v : V} (h : VRep K mg L F d v) (n : isLoc d = false) : Rep K mg F d v := by
  rcases h with ⟨m, a, e, _⟩ | h
  · rw [e] at n; cases n
  · exact h
theorem VRepL.flat : ∀ {ds : List D} {vs : List V}, VRepL K mg L F ds vs → flatL ds = true → RepL K mg F ds vs
  | [], vs, h, _ => h
  | d :: ds, vs, h, n => by
    obtain ⟨v, r, h1, h2, h3⟩ := h
    unfold flatL at n
    rw [List.all_cons, Bool.and_eq_true] at n
    exact ⟨v, r, h1, h2.flat (by simpa using n.1), VRepL.flat h3 n.2⟩
theorem RepL.up : ∀ {ds : List D} {vs : List V}, RepL K mg F ds vs → VRepL K mg L F ds vs
  | [], vs, h => h
  | d :: ds, vs, h => by
    obtain ⟨v, r, h1, h2, h3⟩ := h
    exact ⟨v, r, h1, .inr h2, RepL.up h3⟩
theorem VRepL.append : ∀ {ds : List D} {vs : List V} {es : List D} {ws : List V}, VRepL K mg L F ds vs → VRepL K mg L F es ws → VRepL K mg L F (ds ++ es) (vs ++ ws)
  | [], vs, es, ws, h, h' => by
    have h : vs = [] := h
    subst h
    exact h'
  | d :: ds, vs, es, ws, h, h' => by
    obtain ⟨v, r, rfl, h2, h3⟩ := h
    exact ⟨v, r ++ ws, rfl, h2, VRepL.append h3 h'⟩
end
section
variable {X : Cx} {K : PySem.W.Frag} {mg : Glob} {Γ : Ent} {W : WX} {e a b c : Expr} {es : List Expr} {m ma mb mc : EDen} {ms : ADen} {pos p : Pos} {k : Kd}
theorem g_nil : PA X [] (taG K mg Γ W aNil) := pa_imp pa_nil fun σ H Q ⟨F, L, ρ, st, rl, q⟩ => q.here rl.sto [] rfl
theorem g_cons (ha : PE X e (teV K mg Γ W m)) (hr : PA X es (taG K mg Γ W ms)) (hs : starEach (e :: es) X.env = (false, eval e X.env) :: starEach es X.env := by rfl) : PA X (e :: es) (taG K mg Γ W (aCons m ms)) := by
  refine pa_imp (pa_cons ha hr hs) fun σ H Q ⟨F, L, ρ, st, rl, q⟩ => ⟨F, L, ρ, st, rl, q.bind.imp fun F1 L1 H1 st1 d s o q1 v kv => ?_⟩
  refine ⟨F1, L1, ρ, st1, rl.step s o, q1.bind.imp fun F2 L2 H2 st2 ds s2 o2 q2 vs kvs => ?_⟩
  exact q2.here o2 (v :: vs) ⟨v, vs, rfl, s2.vrep kv, kvs⟩
theorem kR.star {F H H0 : Hp} {L : List Addr} {σ : St} {ρ : REnv} {st : Store} {d : D} {v : V} {es : List D} (rl : Rl K mg Γ F L σ H ρ st) (kv : kR K mg σ H0 ρ F L H d v) (e : d = .tup es ∨ d = .lst es) :
    ∃ a vs, v = .ref a ∧ (SqT K H a vs ∨ SqL K H a vs) ∧ RepL K mg F es vs := by
  rcases e with rfl | rfl
  · rcases kv with kv | ⟨i, h1, h2⟩
    · rcases kv with ⟨n, a, q, _⟩ | kv
      · cases q
      · obtain ⟨a, vs, rfl, h3, h4⟩ := kv
        exact ⟨a, vs, rfl, .inl (rl.sto.ex.t h3), h4⟩
    · obtain ⟨_, _, _, _, _, hs⟩ := rl.so i _ h1; exact hs.elim
  · rcases kv with kv | ⟨i, h1, h2⟩
    · rcases kv with ⟨n, a, q, _⟩ | kv
      · cases q
      · obtain ⟨a, vs, rfl, h3, h4⟩ := kv
        exact ⟨a, vs, rfl, .inr (.inl (.inl (rl.sto.ex.lst h3))), h4⟩
    · obtain ⟨a, g1, _, _, _, vs, g2, g3⟩ := rl.so i _ h1
      rw [g1] at h2; cases h2
      exact ⟨a, vs, rfl, .inr (.inl (.inl g2)), g3⟩
theorem g_star (hK : X.K = K) (ha : PE X e (teR K mg Γ W m)) (hr : PA X es (taG K mg Γ W ms)) (hs : starEach (.Starred e p :: es) X.env = (true, eval e X.env) :: starEach es X.env := by rfl) : PA X (.Starred e p :: es) (taG K mg Γ W (aStar m ms)) := by
  refine pa_imp (StX.pa_star ha hr hs) fun σ H Q ⟨F, L, ρ, st, rl, q⟩ => ⟨F, L, ρ, st, rl, q.bind.imp fun F1 L1 H1 st1 d s o q1 v kv => ?_⟩
  have rl1 := rl.step s o
  split at q1
  · rename_i es e
    have e : d = .tup es ∨ d = .lst es := by
      cases d with
      | tup _ => cases e; exact .inl rfl
      | lst _ => cases e; exact .inr rfl
      | _ => cases e
    obtain ⟨a, vs, rfl, h1, h2⟩ := kv.star rl1 e
    refine ⟨a, vs, rfl, by rw [hK]; exact h1, F1, L1, ρ, st1, rl1, q1.bind.imp fun F2 L2 H2 st2 ds s2 o2 q3 ws kws => ?_⟩
    exact q3.here o2 (vs ++ ws) ((s2.vrepl h2.up).append kws)
  · exact q1.elim

/-- (a, b, ..), [a, b, ..] -/
def eTup (ms : ADen) : EDen := fun ρ st => (ms ρ st).bind fun ds st1 => if flatL ds = true ∧ ds.length ≤ 1000 then .ok (.tup ds) st1 else .bad
def eLst (ms : ADen) : EDen := fun ρ st => (ms ρ st).bind fun ds st1 => if flatL ds = true ∧ ds.length ≤ 100000 then .ok (.lst ds) st1 else .bad
theorem Sto.lay {F H : Hp} {L : List Addr} {st : Store} {p : Addr} {o : HO} (x : Sto K mg F L H st) (n : H p = none) : Stp F L H (upd F p o) L (upd H p o) ∧ Sto K mg (upd F p o) L (upd H p o) st := ⟨Stp.still x.ex n, x.still n⟩
theorem g_tup {x1} (h : PA X es (taG K mg Γ W ms)) : PE X (.Tuple es x1 pos) (teV K mg Γ W (eTup ms)) := by
  refine pe_imp (pe_tup h) fun σ H Q ⟨F, L, ρ, st, rl, q⟩ => ⟨F, L, ρ, st, rl, q.bind.imp fun F1 L1 H1 st1 ds s o q1 vs kvs => ?_⟩
  split at q1
  · rename_i c
    have r := kvs.flat c.1
    refine ⟨by rw [← r.length]; have := c.2; rw [sizeLine_eq]; omega, fun p np => ?_⟩
    obtain ⟨s2, o2⟩ := o.lay (o := .tup vs) np
    refine q1 _ _ _ s2 o2 _ (.inr ⟨p, vs, rfl, .inl (.inl upd_same), RepL.mono s2.ex ds r⟩)
  · exact q1.elim
theorem g_lst (h : PA X es (taG K mg Γ W ms)) : PE X (.List es pos) (teO K mg Γ W (eLst ms)) := by
  refine pe_imp (pe_lst h) fun σ H Q ⟨F, L, ρ, st, rl, q⟩ => ⟨F, L, ρ, st, rl, q.bind.imp fun F1 L1 H1 st1 ds s o q1 vs kvs => ?_⟩
  split at q1
  · rename_i c
    have r := kvs.flat c.1
    refine ⟨by rw [← r.length]; have := c.2; rw [sizeLine_eq]; omega, fun p np => ?_⟩
    have rl1 := rl.step s o
    refine q1 _ _ _ (Stp.fresh np) (o.fresh np) _ ⟨p, rfl, ?_, rl1.newF np, rl1.newL np, vs, upd_same, r⟩
    cases h : H p with
    | none => rfl
    | some u => exact absurd np (s.more o p (by rw [h]; simp))
  · exact q1.elim

/-! ### calls -/
/-- what a def promises: what m tells -/
def spG (K : PySem.W.Frag) (mg : Glob) (m : CallF) : Sp := fun vs H Q E => ∃ F L ds st, Sto K mg F L H st ∧ VRepL K mg L F ds vs ∧
  Post K mg (fun c d _ H' => E c d H') [] F L H (m ds st) fun F' L' H' _ d => ∀ v, VRep K mg L' F' d v → Q v H'
theorem Post.wish {α : Type} {F H : Hp} {L : List Addr} {σ : St} {r : RC α} {ok : Hp → List Addr → Hp → Store → α → Prop} (h : Post K mg W σ F L H r ok) : Post K mg (fun c d _ H' => WE W σ c d H') [] F L H r ok := by
  cases r with
  | ok d st => exact h
  | exc c fs st => exact h
  | bad => exact h.elim
abbrev eCall (f : CallF) (ms : ADen) : EDen := eN f ms
theorem spG_of {Q : VK} {f : CallF} {σ : St} {H : Hp} {t : TA} (kl : ∀ {d v F L}, VRep K mg L F d v → VRep K mg L F d v) (h : teV K mg Γ W (eCall f ms) σ H Q) : taG K mg Γ W ms σ H fun vs H1 => spG K mg f vs H1 Q (WE W σ) := by
  obtain ⟨F, L, ρ, st, rl, q⟩ := h
  exact ⟨F, L, ρ, st, rl, q.bind.imp fun F1 L1 H1 st1 ds s o q1 vs kvs => ⟨F1, L1, ds, st1, o, kvs, Post.wish q1⟩⟩
section
variable {kk : Nat} {f C : Addr} {fd : FuncData} {ps : List Str} {x mname : Str} {cf : CallF} {apos : Pos}
theorem g_call (F : FnOk X.prog X.w X.K X.mg X.base (L2.CX X.prog X.w) kk f fd ps (spG K mg cf)) (hr : Room kk X.A) (hm : X.mg x = some (.ref f)) (hk : PySem.W.keepIn X.K (.ref f) = true) (hb : Binds X.K fd ps []) (tk : Takes X W)
    (ha : PA X (e :: es) (taG K mg Γ W ms)) (hg : Gl X x := by rfl) (hdb : (x == ("__debug__" : Str)) = false := by decide) (he : starEach (e :: es) X.env = (false, eval e X.env) :: starEach es X.env := by rfl) (hpl : (backTo pos (starEach es X.env)).any (·.1) = false := by rfl) :
    PE X (.Call (.Name x p) (e :: es) [] pos) (teV K mg Γ W (eCall cf ms)) :=
  pe_imp (pe_callS F hr hg hm hk hb (passAt tk) ha hdb he hpl) fun σ H Q h => spG_of (t := tNil) (fun h => h) h
theorem g_call0 (F : FnOk X.prog X.w X.K X.mg X.base (L2.CX X.prog X.w) kk f fd ps (spG K mg cf)) (hr : Room kk X.A) (hm : X.mg x = some (.ref f)) (hk : PySem.W.keepIn X.K (.ref f) = true) (hb : Binds X.K fd ps []) (tk : Takes X W)
    (hg : Gl X x := by rfl) (hdb : (x == ("__debug__" : Str)) = false := by decide) : PE X (.Call (.Name x p) [] [] pos) (teV K mg Γ W (eCall cf aNil)) := by
  refine ⟨fun pins s σ H Q I ⟨F', L, ρ, st, rl, q⟩ => ?_⟩
  exact wpAny_Call_Name_kw (ld_glob I hg hm (PySem.W.callWith_K0 I.kIn hk (run_fnS (us := []) (E := WE W) F hr hb (passAt tk σ) I .nil ⟨F', L, [], st, rl.sto, rfl, Post.wish q⟩)) hdb)
/-- an instance, still or in the store -/
theorem inst_at {F H : Hp} {L : List Addr} {st : Store} {d : D} {v : V} {c : Str} {fs : List (Str × D)} (o : Sto K mg F L H st) (kv : VRep K mg L F d v) (e : d = .ins c fs ∨ ∃ n : Nat, d = .loc n ∧ st[n]? = some (.ins c fs)) :
    ∃ a C dx fv, v = .ref a ∧ mg c = some (.ref C) ∧ H a = some (.ins C dx fv) ∧ RepF K mg F fs fv := by
  rcases e with rfl | ⟨n, rfl, e⟩
  · rcases kv with ⟨n, a, q, _⟩ | ⟨a, C, dx, fv, rfl, h1, h2, h3⟩
    · cases q
    · exact ⟨a, C, dx, fv, rfl, h1, o.ex.ins h2, h3⟩
  · obtain ⟨a, h1, rfl⟩ := kv.loc
    obtain ⟨nF, C, dx, fv, h2, h3, h4⟩ := o.at_ n a _ h1 e
    exact ⟨a, C, dx, fv, rfl, h2, h3, h4⟩
/-- the class of the instance, as eMeth and eAtt look for it -/
def instOf (st : Store) : D → Option (Str × List (Str × D))
  | .ins c fs => some (c, fs)
  | .loc n => (match st[n]? with
    | some (.ins c fs) => some (c, fs)
    | _ => none)
  | _ => none
theorem instOf_at {st : Store} {d : D} {c : Str} {fs : List (Str × D)} (h : instOf st d = some (c, fs)) : d = .ins c fs ∨ ∃ n : Nat, d = .loc n ∧ st[n]? = some (.ins c fs) := by
  cases d with
  | ins c' fs' => cases h; exact .inl rfl
  | loc n =>
    have h : (match st[n]? with
      | some (.ins c fs) => some (c, fs)
      | _ => none) = some (c, fs) := h
    split at h
    · rename_i c' fs' e
      cases h
      exact .inr ⟨n, rfl, e⟩
    · cases h
  | _ => cases h
/-- o.m(..), o of the class c -/
def eMeth (c m : Str) (f : CallF) (mo : EDen) (ms : ADen) : EDen := fun ρ st => (mo ρ st).bind fun d st1 => match instOf st1 d with
  | some (c', fs) => if c' = c ∧ (fs.lookup m).isNone = true then (ms ρ st1).bind fun ds st2 => f (d :: ds) st2 else .bad
  | none => .bad
theorem meth_go {Q : VK} {mo : EDen} {c : Str} {σ : St} {H : Hp} (hmg : X.mg = mg) (hC : mg c = some (.ref C)) (h : teV K mg Γ W (eMeth c mname cf mo ms) σ H Q) : teV K mg Γ W mo σ H fun x H1 => ∃ a dx fs, x = .ref a ∧ H1 a = some (.ins C dx fs) ∧ fs.lookup mname = none ∧
    taG K mg Γ W ms σ H1 fun vs H2 => spG K mg cf (x :: vs) H2 Q (WE W σ) := by
  obtain ⟨F, L, ρ, st, rl, q⟩ := h
  refine ⟨F, L, ρ, st, rl, q.bind.imp fun F1 L1 H1 st1 d s o q1 v kv => ?_⟩
  split at q1
  · rename_i c' fs e
    split at q1
    · rename_i hc
      obtain ⟨rfl, hn⟩ := hc
      obtain ⟨a, C', dx, fv, rfl, h1, h2, h3⟩ := inst_at o kv (instOf_at e)
      rw [hC] at h1; cases h1
      refine ⟨a, dx, fv, rfl, h2, h3.lookNone (by simpa using hn), F1, L1, ρ, st1, rl.step s o, q1.bind.imp fun F2 L2 H2 st2 ds s2 o2 q2 vs kvs => ?_⟩
      exact ⟨F2, L2, d :: ds, st2, o2, ⟨_, vs, rfl, s2.vrep kv, kvs⟩, Post.wish q2⟩
    · exact q1.elim
  · exact q1.elim
theorem g_meth {o : Expr} {mo : EDen} {c : Str} {pl : Sem Bool} (hmg : X.mg = mg) (ho : PE X o (teV K mg Γ W mo)) (hC : mg c = some (.ref C)) (cl : Cls X.K C) (hm : Meth X.K C mname f) (F : FnOk X.prog X.w X.K X.mg X.base (L2.CX X.prog X.w) kk f fd ps (spG K mg cf)) (hr : Room kk X.A)
    (hb : Binds X.K fd ps []) (tk : Takes X W) (ha : PA X (e :: es) (taG K mg Γ W ms)) (hst : starEach (e :: es) X.env = (false, eval e X.env) :: starEach es X.env := by rfl) (hpl : (backTo pos (starEach es X.env)).any (·.1) = false := by rfl)
    (ht : eval (.Call (.Attribute o mname apos) (e :: es) [] pos) X.env = (do let ov ← eval o X.env; standAt apos.atName; let (f, first) ← holding [ov] (getMethod ov mname pl); callWith pos f first (backTo pos (starEach (e :: es) X.env)) (backToKw pos (keywordEach [] X.env))) := by rfl) :
    PE X (.Call (.Attribute o mname apos) (e :: es) [] pos) (teV K mg Γ W (eMeth c mname cf mo ms)) := by
  refine ⟨fun pins s σ H Q I h => PySem.W.methodCall_KW (pl := pl) (thn (ho.run pins s σ H _ I (meth_go hmg hC h)) fun u s1 hh => ?_) ht⟩
  obtain ⟨x, H1, I1, rx, a, dx, fs, ex, ea, l, q⟩ := hh
  cases ex
  cases (show u = Value.ref a from rx)
  exact getmeth_ok I1 ea cl hm l (PySem.W.callWith_K (first := [.ref a]) (h₀ := X.base) I.ok.mod.kin hm.kp (thn (ha.run pos pins s1 σ H1 _ I1 q) fun us s2 ⟨vs, H2, I2, r, q2⟩ =>
    ⟨I2.kIn, run_fnS (us := .ref a :: us) (vs := .ref a :: vs) (E := WE W) F hr hb (passAt tk σ) I2 (.cons rfl r) q2⟩) hst hpl)
theorem g_meth0 {o : Expr} {mo : EDen} {c : Str} {pl : Sem Bool} (hmg : X.mg = mg) (ho : PE X o (teV K mg Γ W mo)) (hC : mg c = some (.ref C)) (cl : Cls X.K C) (hm : Meth X.K C mname f) (F : FnOk X.prog X.w X.K X.mg X.base (L2.CX X.prog X.w) kk f fd ps (spG K mg cf)) (hr : Room kk X.A)
    (hb : Binds X.K fd ps []) (tk : Takes X W)
    (ht : eval (.Call (.Attribute o mname apos) [] [] pos) X.env = (do let ov ← eval o X.env; standAt apos.atName; let (f, first) ← holding [ov] (getMethod ov mname pl); callWith pos f first (backTo pos (starEach [] X.env)) (backToKw pos (keywordEach [] X.env))) := by rfl) :
    PE X (.Call (.Attribute o mname apos) [] [] pos) (teV K mg Γ W (eMeth c mname cf mo aNil)) := by
  refine ⟨fun pins s σ H Q I h => PySem.W.methodCall_KW (pl := pl) (thn (ho.run pins s σ H _ I (meth_go hmg hC h)) fun u s1 hh => ?_) ht⟩
  obtain ⟨x, H1, I1, rx, a, dx, fs, ex, ea, l, F', L', ρ', st', rl', q⟩ := hh
  cases ex
  cases (show u = Value.ref a from rx)
  obtain ⟨F2, L2', ds, st2, o2, k2, q2⟩ := q.here rl'.sto [] rfl
  exact getmeth_ok I1 ea cl hm l (PySem.W.callWith_K0 (first := [.ref a]) I1.kIn hm.kp (run_fnS (us := [.ref a]) (vs := [.ref a]) (E := WE W) F hr hb (passAt tk σ) I1 (.cons rfl .nil) ⟨F2, L2', ds, st2, o2, k2, q2⟩))
/-- o.f -/
def eAtt (f : Str) : Op1 := fun d st => match instOf st d with
  | some (_, fs) => (match fs.lookup f with
    | some x => .ok x st
    | none => .bad)
  | none => .bad
/-- what the text must have for the attribute f of any class of cs -/
def AttOk (K : PySem.W.Frag) (mg : Glob) (f : Str) (cs : List Str) : Prop := ∀ c ∈ cs, ∀ C, mg c = some (.ref C) → Cls K C ∧ NoAttr K C f
def eAttC (f : Str) (cs : List Str) : Op1 := fun d st => match instOf st d with
  | some (c, fs) => if c ∈ cs then (match fs.lookup f with
    | some x => .ok x st
    | none => .bad) else .bad
  | none => .bad
theorem g_att {o : Expr} {mo : EDen} {fn : Str} {cs : List Str} (hK : X.K = K) (A : AttOk K mg fn cs) (ho : PE X o (teV K mg Γ W mo)) (hb : attributeBase o fn X.env (eval o X.env) = eval o X.env := by rfl) : PE X (.Attribute o fn pos) (teV K mg Γ W (e1 (eAttC fn cs) mo)) := by
  refine pe_imp (pe_fld ho hb) fun σ H Q ⟨F, L, ρ, st, rl, q⟩ => ⟨F, L, ρ, st, rl, q.bind.imp fun F1 L1 H1 st1 d s o q1 v kv => ?_⟩
  unfold eAttC at q1
  split at q1
  · rename_i c fs e
    split at q1
    · rename_i hc
      split at q1
      · rename_i x ex
        obtain ⟨a, C, dx, fv, rfl, h1, h2, h3⟩ := inst_at o kv (instOf_at e)
        obtain ⟨w, hw, rw'⟩ := h3.look ex
        obtain ⟨cl, na⟩ := A c hc C h1
        exact ⟨a, C, dx, fv, w, rfl, h2, by rw [hK]; exact cl, by rw [hK]; exact na, hw, q1.here o w (.inr rw')⟩
      · exact q1.elim
    · exact q1.elim
  · exact q1.elim
end
end
end Gh
/-! Gh3: instances made; statements. -/
namespace Gh
open L2 PyProof.Rows PySem.Spec PySem

section
variable {K : PySem.W.Frag} {mg : Glob} {F F' H H' : Hp} {L M : List Addr} {st st' : Store}
theorem Sto.take (o : Sto K mg F (L ++ M) H st) : Sto K mg F L H (st.take L.length) := by
  have hl := o.len
  rw [List.length_append] at hl
  refine ⟨o.ex, (List.nodup_append.mp o.nd).1, by rw [List.length_take]; omega, fun n a d h1 h2 => ?_⟩
  obtain ⟨hn, _⟩ := List.getElem?_eq_some_iff.mp h1
  rw [List.getElem?_take_of_lt hn] at h2
  exact o.at_ n a d (by rw [List.getElem?_append_left hn]; exact h1) h2
theorem Stp.take (s : Stp F L H F' (L ++ M) H') : Stp F L H F' L H' :=
  ⟨s.ex, ⟨[], (List.append_nil L).symm⟩, fun a o h n => ⟨(s.kp a o h n).1, (s.kp a o h n).2.1, n⟩⟩
theorem Sto.add {a : Addr} {d : D} (o : Sto K mg F L H st) (h : Has K mg F H a d) (nF : F a = none) (nL : a ∉ L) : Sto K mg F (L ++ [a]) H (st ++ [d]) := by
  refine ⟨o.ex, ?_, by rw [List.length_append, List.length_append, o.len] <;> rfl, fun n b e h1 h2 => ?_⟩
  · rw [List.nodup_append]
    refine ⟨o.nd, List.nodup_cons.mpr ⟨by simp, List.nodup_nil⟩, fun x hx y hy => ?_⟩
    have : y = a := by simpa using hy
    rw [this]
    exact fun z => nL (z ▸ hx)
  · by_cases hn : n < L.length
    · rw [List.getElem?_append_left hn] at h1
      rw [List.getElem?_append_left (by rw [← o.len]; exact hn)] at h2
      exact o.at_ n b e h1 h2
    · have hn' : L.length ≤ n := Nat.not_lt.mp hn
      rw [List.getElem?_append_right hn'] at h1
      rw [List.getElem?_append_right (by rw [← o.len]; exact hn')] at h2
      cases q : n - L.length with
      | zero =>
        rw [q] at h1
        rw [← o.len, q] at h2
        cases h1; cases h2
        exact ⟨nF, h⟩
      | succ k => rw [q] at h1; simp at h1
end

section
variable {X : Cx} {K : PySem.W.Frag} {mg : Glob} {Γ : Ent} {W : WX} {e a b : Expr} {es : List Expr} {m ma mb : EDen} {ms : ADen} {pos p : Pos} {k : Kd}
variable {kk : Nat} {f C : Addr} {fd : FuncData} {ps : List Str} {x c : Str} {cf : CallF}
/-- a new instance, in the store, behind its __init__ -/
def initD (c : Str) (f : CallF) (ds : List D) (st : Store) : RC D := (f (.loc st.length :: ds) (st ++ [.ins c []])).bind fun d st2 => match d with
  | .non => .ok (.loc st.length) st2
  | _ => .bad
/-- C(..), to be changed by methods: an object of the store -/
def eMakeM (c : Str) (f : CallF) (ms : ADen) : EDen := fun ρ st => (ms ρ st).bind fun ds st1 => initD c f ds st1
/-- C(..), never changed behind __init__ -/
def stillD (n : Nat) (r : RC D) : RC D := match r with
  | .ok _ st => (match st[n]? with
    | some d => .ok d (st.take n)
    | none => .bad)
  | .exc c fs st => .exc c fs (st.take n)
  | .bad => .bad
def eMake (c : Str) (f : CallF) (ms : ADen) : EDen := fun ρ st => (ms ρ st).bind fun ds st1 => stillD st1.length (initD c f ds st1)
theorem run_mkS {pins : List (Addr × Obj)} {σ : St} {H : Hp} {s : Shared} {Q : VK} {us : List Value} {vs : List V} {sp : Sp} {CX : CXT} {E : St → XK} (M : Mk X.K C f) (F : FnOk X.prog X.w X.K X.mg X.base CX kk f fd ps sp) (hr : Room (kk + 1) X.A) (hb : Binds X.K fd ps [])
    (hx : PassesAt CX X σ (E σ)) (I : Inv X pins σ H s) (r : Vals vs us)
    (h : ∀ x dx, H x = none → H dx = none → dx ≠ x → sp (.ref x :: vs) (upd (upd H dx (.own x)) x (.ins C dx [])) (fun v H2 => v = .non ∧ Q (.ref x) H2) (E σ)) :
    wpAny (model X.prog X.w) X.A (call (.ref C) us) (EP X pins σ Q) X.xe s := by
  have q0 := h (s.heap.objs.size + 1) s.heap.objs.size (I.hok.fresh (Nat.le_succ _)) (I.hok.fresh (Nat.le_refl _)) (Nat.ne_of_lt (Nat.lt_succ_self _))
  have J := Inv.made (C := C) I
  have rr : Vals (V.ref (s.heap.objs.size + 1) :: vs) (Value.ref (s.heap.objs.size + 1) :: us) := .cons rfl r
  have hl : (Value.ref (s.heap.objs.size + 1) :: us).length = ps.length := by rw [← rr.length]; exact F.len _ _ _ _ q0
  have bb := hb { s with heap := (s.heap.push PySem.W.emptyDict).push (PySem.W.instObj C s.heap.objs.size) } (Value.ref (s.heap.objs.size + 1) :: us) J.kIn (by rw [List.append_nil]; exact hl)
  rw [List.append_nil] at bb
  refine wpAny_call (make_map (f := f) I.kIn M.makes M.init (beq_iff_eq.mp M.fn) (codeAny_mono (F.run _ X.stack _ _ ⟨Value.ref (s.heap.objs.size + 1) :: us, []⟩ (Value.ref (s.heap.objs.size + 1) :: us) _ _ (E σ) (hr.make C us []) (J.env0.make C us []) bb rr q0) fun z s' hz => ?_))
  cases z with
  | error e => exact hx pins _ _ e s' J hz
  | ok fl =>
    cases fl with
    | ret u =>
      obtain ⟨v, H', I3, rv, ev, q3⟩ := J.after hz
      cases ev
      exact ⟨rv, V.ref (s.heap.objs.size + 1), H', I3, rfl, q3⟩
    | _ => exact hz.elim
theorem Post.stillD {n : Nat} {F H : Hp} {L : List Addr} {σ : St} {r : RC D} {ok : Hp → List Addr → Hp → Store → D → Prop} (hl : L.length = n) (h : Post K mg W σ F L H (stillD n r) ok) :
    Post K mg W σ F L H r fun _ L' H' _ _ => ∀ a : Addr, L'[n]? = some a → H a = none → ∃ F2 st2 e, Stp F L H F2 L H' ∧ Rep K mg F2 e (.ref a) ∧ ok F2 L H' st2 e := by
  cases r with
  | bad => exact h.elim
  | exc c fs st' =>
    intro F' L' H' cls dd s o x
    obtain ⟨M, e⟩ := s.pre
    subst e
    exact h F' L H' cls dd s.take (by rw [← hl]; exact o.take) x
  | ok d st' =>
    intro F' L' H' s o a ha hn
    obtain ⟨M, e⟩ := s.pre
    subst e
    have h : Post K mg W σ F L H (match st'[n]? with
      | some d => RC.ok d (st'.take n)
      | none => .bad) ok := h
    split at h
    · rename_i e he
      obtain ⟨nF, hs⟩ := o.at_ n a e ha he
      obtain ⟨u, hu⟩ := hs.there
      have nL : a ∉ L := fun z => by
        obtain ⟨m, hm, e⟩ := List.getElem_of_mem z
        have h1 : (L ++ M)[m]? = some a := by rw [List.getElem?_append_left hm, List.getElem?_eq_getElem hm, e]
        obtain ⟨hn1, e1⟩ := List.getElem?_eq_some_iff.mp ha
        obtain ⟨hm1, e2⟩ := List.getElem?_eq_some_iff.mp h1
        have := (List.getElem_inj o.nd).mp (e1.trans e2.symm)
        omega
      have o1 : Sto K mg F' L H' (st'.take n) := by rw [← hl]; exact o.take
      have s1 := (s.take).freeze (o := u) hn nF
      exact ⟨_, _, e, s1, hs.still hu nF, h _ _ _ s1 (o1.freeze hu nL nF)⟩
    · exact h.elim
theorem init_goL {F H : Hp} {L : List Addr} {σ : St} {st : Store} {ds : List D} {vs : List V} {Q : VK} {ok : Hp → List Addr → Hp → Store → D → Prop} (hC : mg c = some (.ref C)) (o : Sto K mg F L H st) (kvs : VRepL K mg L F ds vs)
    (q : Post K mg W σ F L H (initD c cf ds st) ok) (hq : ∀ F' L' H' st' x, H x = none → L'[st.length]? = some x → ok F' L' H' st' (.loc st.length) → Q (.ref x) H') (x dx : Addr) (nx : H x = none) (ndx : H dx = none) (ne : dx ≠ x) :
    spG K mg cf (.ref x :: vs) (upd (upd H dx (.own x)) x (.ins C dx [])) (fun v H2 => v = .non ∧ Q (.ref x) H2) (WE W σ) := by
  have nL : x ∉ L := fun z => by
    obtain ⟨u, hu⟩ := (o.mem z).2
    rw [nx] at hu; cases hu
  have hn : (upd H dx (.own x)) x = none := by rw [upd_ne (Ne.symm ne)]; exact nx
  have s1 : Stp F L H F L (upd (upd H dx (.own x)) x (.ins C dx [])) := (Stp.fresh ndx).trans (Stp.fresh hn)
  have o1 : Sto K mg F L (upd (upd H dx (.own x)) x (.ins C dx [])) st := (o.fresh ndx).fresh hn
  have nF : F x = none := o.ex.free nx
  have o2 : Sto K mg F (L ++ [x]) (upd (upd H dx (.own x)) x (.ins C dx [])) (st ++ [.ins c []]) := o1.add (d := .ins c []) ⟨C, dx, [], hC, upd_same, rfl⟩ nF nL
  have s2 : Stp F L H F (L ++ [x]) (upd (upd H dx (.own x)) x (.ins C dx [])) := by
    refine ⟨s1.ex, ⟨[x], rfl⟩, fun a u h n => ⟨(s1.kp a u h n).1, rfl, fun z => ?_⟩⟩
    rcases List.mem_append.mp z with z | z
    · exact n z
    · have : a = x := by simpa using z
      rw [this, nx] at h; cases h
  have lx : (L ++ [x])[st.length]? = some x := by rw [← o.len]; simp
  refine ⟨F, L ++ [x], .loc st.length :: ds, st ++ [.ins c []], o2, ⟨_, vs, rfl, .inl ⟨st.length, x, rfl, lx, rfl⟩, kvs.mono (Ex.refl F)⟩, ?_⟩
  refine Post.wish (W := W) (σ := σ) ((Post.step q.bind s2).imp fun F' L' H' st' d s' o' p v kv => ?_)
  split at p
  · refine ⟨kv.non, hq F' L' H' st' x nx ?_ (p.here o')⟩
    obtain ⟨M, e⟩ := s'.pre
    rw [e, List.getElem?_append_left (by rw [← o.len]; simp)]
    exact lx
  · exact p.elim
theorem g_make (M : Mk X.K C f) (F : FnOk X.prog X.w X.K X.mg X.base (L2.CX X.prog X.w) kk f fd ps (spG K mg cf)) (hr : Room (kk + 1) X.A) (hm : X.mg c = some (.ref C)) (hmg : mg c = some (.ref C)) (hb : Binds X.K fd ps []) (tk : Takes X W) (ha : PA X (e :: es) (taG K mg Γ W ms))
    (hg : Gl X c := by rfl) (hdb : (c == ("__debug__" : Str)) = false := by decide) (he : starEach (e :: es) X.env = (false, eval e X.env) :: starEach es X.env := by rfl) (hpl : (backTo pos (starEach es X.env)).any (·.1) = false := by rfl) :
    PE X (.Call (.Name c p) (e :: es) [] pos) (teV K mg Γ W (eMake c cf ms)) := by
  refine ⟨fun pins s σ H Q I ⟨F', L, ρ, st, rl, q⟩ => wpAny_Call_Name_kw (ld_glob I hg hm ?_ hdb)⟩
  have q' : taG K mg Γ W ms σ H fun vs H1 => ∀ x dx, H1 x = none → H1 dx = none → dx ≠ x → spG K mg cf (.ref x :: vs) (upd (upd H1 dx (.own x)) x (.ins C dx [])) (fun v H2 => v = .non ∧ Q (.ref x) H2) (WE W σ) := by
    refine ⟨F', L, ρ, st, rl, q.bind.imp fun F1 L1 H1 st1 ds s1 o1 q1 vs kvs => ?_⟩
    exact init_goL hmg o1 kvs (Post.stillD o1.len q1) fun F2 L2 H2 st2 x nx lx h => by
      obtain ⟨F3, st3, d, s3, r3, h3⟩ := h x lx nx
      exact h3 _ (.inr r3)
  exact PySem.W.callWith_K (h₀ := X.base) I.ok.mod.kin M.kp (thn (ha.run pos pins s σ H _ I q') fun us s1 ⟨vs, H1, I1, r, q⟩ => ⟨I1.kIn, run_mkS (E := WE W) M F hr hb (passAt tk σ) I1 r q⟩) he hpl
theorem g_makeM (M : Mk X.K C f) (F : FnOk X.prog X.w X.K X.mg X.base (L2.CX X.prog X.w) kk f fd ps (spG K mg cf)) (hr : Room (kk + 1) X.A) (hm : X.mg c = some (.ref C)) (hmg : mg c = some (.ref C)) (hb : Binds X.K fd ps []) (tk : Takes X W) (ha : PA X (e :: es) (taG K mg Γ W ms))
    (hg : Gl X c := by rfl) (hdb : (c == ("__debug__" : Str)) = false := by decide) (he : starEach (e :: es) X.env = (false, eval e X.env) :: starEach es X.env := by rfl) (hpl : (backTo pos (starEach es X.env)).any (·.1) = false := by rfl) :
    PE X (.Call (.Name c p) (e :: es) [] pos) (teV K mg Γ W (eMakeM c cf ms)) := by
  refine ⟨fun pins s σ H Q I ⟨F', L, ρ, st, rl, q⟩ => wpAny_Call_Name_kw (ld_glob I hg hm ?_ hdb)⟩
  have q' : taG K mg Γ W ms σ H fun vs H1 => ∀ x dx, H1 x = none → H1 dx = none → dx ≠ x → spG K mg cf (.ref x :: vs) (upd (upd H1 dx (.own x)) x (.ins C dx [])) (fun v H2 => v = .non ∧ Q (.ref x) H2) (WE W σ) := by
    refine ⟨F', L, ρ, st, rl, q.bind.imp fun F1 L1 H1 st1 ds s1 o1 q1 vs kvs => ?_⟩
    exact init_goL hmg o1 kvs q1 fun F2 L2 H2 st2 x nx lx h => h _ (.inl ⟨_, x, rfl, lx, rfl⟩)
  exact PySem.W.callWith_K (h₀ := X.base) I.ok.mod.kin M.kp (thn (ha.run pos pins s σ H _ I q') fun us s1 ⟨vs, H1, I1, r, q⟩ => ⟨I1.kIn, run_mkS (E := WE W) M F hr hb (passAt tk σ) I1 r q⟩) he hpl
theorem g_makeM0 (M : Mk X.K C f) (F : FnOk X.prog X.w X.K X.mg X.base (L2.CX X.prog X.w) kk f fd ps (spG K mg cf)) (hr : Room (kk + 1) X.A) (hm : X.mg c = some (.ref C)) (hmg : mg c = some (.ref C)) (hb : Binds X.K fd ps []) (tk : Takes X W)
    (hg : Gl X c := by rfl) (hdb : (c == ("__debug__" : Str)) = false := by decide) : PE X (.Call (.Name c p) [] [] pos) (teV K mg Γ W (eMakeM c cf aNil)) := by
  refine ⟨fun pins s σ H Q I ⟨F', L, ρ, st, rl, q⟩ => wpAny_Call_Name_kw (ld_glob I hg hm ?_ hdb)⟩
  have q1 := q.bind.here (d := []) (st := st) rl.sto
  exact PySem.W.callWith_K0 I.kIn M.kp (run_mkS (us := []) (vs := []) (E := WE W) M F hr hb (passAt tk σ) I .nil fun x dx nx ndx ne =>
    init_goL hmg rl.sto (show VRepL K mg L F' [] [] from rfl) q1 (fun F2 L2 H2 st2 x nx lx h => h _ (.inl ⟨_, x, rfl, lx, rfl⟩)) x dx nx ndx ne)
end
end Gh
/-! Gh4: statements. -/
namespace Gh
open L2 PyProof.Rows PySem.Spec PySem

/-! ### slots changed -/
section
variable {K : PySem.W.Frag} {mg : Glob} {Γ : Ent} {F F' H H' : Hp} {L L' : List Addr} {σ : St} {ρ : REnv} {st st' : Store} {d e : D} {v : V} {a : Addr} {i : Nat}
theorem set_get {α : Type} {l : List α} {i j : Nat} {x y : α} (h : (l.set i x)[j]? = some y) : (j = i ∧ y = x ∧ i < l.length) ∨ (j ≠ i ∧ l[j]? = some y) := by
  by_cases e : j = i
  · subst e
    have hl : j < l.length := by
      have := (List.getElem?_eq_some_iff.mp h).1
      rwa [List.length_set] at this
    rw [List.getElem?_set_self hl] at h
    cases h
    exact .inl ⟨rfl, rfl, hl⟩
  · rw [List.getElem?_set_ne (Ne.symm e)] at h
    exact .inr ⟨e, h⟩
/-- a slot gets something: x by ρ, z by σ -/
theorem Rl.set (r : Rl K mg Γ F L σ H ρ st) (i : Nat) (x : Sl) (z : Option V) (hv : ∀ d, x = .val d → ∃ v, z = some v ∧ VRep K mg L F d v)
    (ho : ∀ d, x = .own d → ∃ a, z = some (.ref a) ∧ F a = none ∧ a ∉ L ∧ Γ.H0 a = none ∧ Has K mg F H a d ∧ ∀ (j : Nat) (e : D), j ≠ i → ρ[j]? = some (Sl.own e) → σ[j]? ≠ some (some (.ref a)))
    (hx : ∀ c fs, x = .exc c fs → ∃ a cls dd, Γ.x = some (i, a, cls, dd) ∧ z = some (.ref a) ∧ Exc K mg F c fs cls dd) : Rl K mg Γ F L (σ.set i z) H (ρ.set i x) st := by
  have sg : ∀ {j : Nat} {w : Option V}, j ≠ i → σ[j]? = some w → (σ.set i z)[j]? = some w := fun {j w} n h => by rw [List.getElem?_set_ne (Ne.symm n)]; exact h
  have ss : i < ρ.length → (σ.set i z)[i]? = some z := fun h => List.getElem?_set_self (by rw [← r.len]; exact h)
  refine ⟨r.sto, r.stp, fun j d h => ?_, fun j d h => ?_, fun j l d e b h1 h2 h3 h4 => ?_, fun j c fs h => ?_, by rw [List.length_set, List.length_set]; exact r.len⟩
  · rcases set_get h with ⟨rfl, q, hl⟩ | ⟨n, h⟩
    · obtain ⟨v, rfl, h2⟩ := hv d q.symm
      exact ⟨v, ss hl, h2⟩
    · obtain ⟨v, h1, h2⟩ := r.sl j d h
      exact ⟨v, sg n h1, h2⟩
  · rcases set_get h with ⟨rfl, q, hl⟩ | ⟨n, h⟩
    · obtain ⟨a, rfl, h2, h3, h4, h5, _⟩ := ho d q.symm
      exact ⟨a, ss hl, h2, h3, h4, h5⟩
    · obtain ⟨a, h1, h2⟩ := r.so j d h
      exact ⟨a, sg n h1, h2⟩
  · rcases set_get h1 with ⟨rfl, q, hl⟩ | ⟨n, g1⟩
    · rcases set_get h2 with ⟨rfl, q2, _⟩ | ⟨n2, g2⟩
      · rfl
      · obtain ⟨a, e1, _, _, _, _, hu⟩ := ho d q.symm
        rw [ss hl, e1] at h3
        cases h3
        rw [List.getElem?_set_ne (Ne.symm n2)] at h4
        exact absurd h4 (hu l e n2 g2)
    · rcases set_get h2 with ⟨rfl, q2, hl⟩ | ⟨n2, g2⟩
      · obtain ⟨a, e1, _, _, _, _, hu⟩ := ho e q2.symm
        rw [ss hl, e1] at h4
        cases h4
        rw [List.getElem?_set_ne (Ne.symm n)] at h3
        exact absurd h3 (hu j d n g1)
      · rw [List.getElem?_set_ne (Ne.symm n)] at h3
        rw [List.getElem?_set_ne (Ne.symm n2)] at h4
        exact r.sd j l d e b g1 g2 h3 h4
  · rcases set_get h with ⟨rfl, q, hl⟩ | ⟨n, h⟩
    · obtain ⟨a, cls, dd, h1, rfl, h3⟩ := hx c fs q.symm
      exact ⟨a, cls, dd, h1, ss hl, h3⟩
    · obtain ⟨a, cls, dd, h1, h2, h3⟩ := r.sx j c fs h
      exact ⟨a, cls, dd, h1, sg n h2, h3⟩
theorem Rl.setV (r : Rl K mg Γ F L σ H ρ st) (i : Nat) (h : VRep K mg L F d v) : Rl K mg Γ F L (σ.set i (some v)) H (ρ.set i (.val d)) st :=
  r.set i _ _ (fun e q => by cases q; exact ⟨v, rfl, h⟩) (fun e q => by cases q) (fun c fs q => by cases q)
theorem Rl.setU (r : Rl K mg Γ F L σ H ρ st) (i : Nat) (z : Option V) : Rl K mg Γ F L (σ.set i z) H (ρ.set i .un) st :=
  r.set i _ _ (fun e q => by cases q) (fun e q => by cases q) (fun c fs q => by cases q)
theorem Rl.setO (r : Rl K mg Γ F L σ H ρ st) (i : Nat) (nF : F a = none) (nL : a ∉ L) (n0 : Γ.H0 a = none) (hs : Has K mg F H a d) (hu : ∀ (j : Nat) (e : D), ρ[j]? = some (Sl.own e) → σ[j]? ≠ some (some (.ref a))) :
    Rl K mg Γ F L (σ.set i (some (.ref a))) H (ρ.set i (.own d)) st :=
  r.set i _ _ (fun e q => by cases q) (fun e q => by cases q; exact ⟨a, rfl, nF, nL, n0, hs, fun j e _ h => hu j e h⟩) (fun c fs q => by cases q)
/-- what a slot owns is changed -/
theorem Rl.mut (r : Rl K mg Γ F L σ H ρ st) {i : Nat} {o : HO} (h1 : ρ[i]? = some (Sl.own d)) (h2 : σ[i]? = some (some (.ref a))) (hs : ∀ H', H' a = some o → Has K mg F H' a e) : Rl K mg Γ F L σ (upd H a o) (ρ.set i (.own e)) st := by
  obtain ⟨b, e1, nF, nL, n0, hh⟩ := r.so i d h1
  rw [h2] at e1; cases e1
  have sto : Sto K mg F L (upd H a o) st := by
    refine ⟨fun b u q => ?_, r.sto.nd, r.sto.len, fun n b u q1 q2 => ?_⟩
    · have hb : b ≠ a := fun z => by rw [z, nF] at q; cases q
      rw [upd_ne hb]
      exact r.sto.ex b u q
    · obtain ⟨g1, g2⟩ := r.sto.at_ n b u q1 q2
      have hb : b ≠ a := fun z => nL (z ▸ List.mem_of_getElem? q1)
      exact ⟨g1, g2.mono (Ex.refl F) fun w q => by rw [upd_ne hb]; exact q⟩
  have stp : Stp Γ.F0 Γ.L0 Γ.H0 F L (upd H a o) := by
    refine ⟨r.stp.ex, r.stp.pre, fun b u q n => ?_⟩
    obtain ⟨g1, g2, g3⟩ := r.stp.kp b u q n
    have hb : b ≠ a := fun z => by rw [z, n0] at q; cases q
    exact ⟨by rw [upd_ne hb]; exact g1, g2, g3⟩
  have base : Rl K mg Γ F L σ (upd H a o) (ρ.set i .un) st := by
    have r' := r.setU i (some (.ref a))
    have es : σ.set i (some (V.ref a)) = σ := by
      apply List.ext_getElem? 
      intro j
      by_cases hj : j = i
      · subst hj
        rw [List.getElem?_set_self (List.getElem?_eq_some_iff.mp h2).1, h2]
      · rw [List.getElem?_set_ne (Ne.symm hj)]
    rw [es] at r'
    refine ⟨sto, stp, r'.sl, fun j u q => ?_, r'.sd, r'.sx, r'.len⟩
    obtain ⟨b, g1, g2, g3, g4, g5⟩ := r'.so j u q
    refine ⟨b, g1, g2, g3, g4, g5.mono (Ex.refl F) fun w z => ?_⟩
    have hb : b ≠ a := fun z => by
      subst z
      rcases set_get q with ⟨_, q, _⟩ | ⟨n, q⟩
      · cases q
      · exact n (r.sd j i u d b q h1 g1 h2)
    rw [upd_ne hb]; exact z
  have fin := base.setO (d := e) (a := a) i nF nL n0 (hs _ upd_same) (fun j u q => ?_)
  · have es : σ.set i (some (V.ref a)) = σ := by
      apply List.ext_getElem? 
      intro j
      by_cases hj : j = i
      · subst hj
        rw [List.getElem?_set_self (List.getElem?_eq_some_iff.mp h2).1, h2]
      · rw [List.getElem?_set_ne (Ne.symm hj)]
    rw [es, List.set_set] at fin
    exact fin
  · rcases set_get q with ⟨_, q, _⟩ | ⟨n, q⟩
    · cases q
    · exact fun z => n (r.sd j i u d a q h1 z h2)
/-- what a slot owns stands still from now on -/
theorem Rl.frz (r : Rl K mg Γ F L σ H ρ st) {i : Nat} (h1 : ρ[i]? = some (Sl.own d)) : ∃ F', Ex F F' ∧ Rl K mg Γ F' L σ H (ρ.set i (.val d)) st := by
  obtain ⟨a, h2, nF, nL, n0, hs⟩ := r.so i d h1
  obtain ⟨o, ho⟩ := hs.there
  have ex : Ex F (upd F a o) := Ex.new nF
  have sto := r.sto.freeze ho nL nF
  have stp : Stp Γ.F0 Γ.L0 Γ.H0 (upd F a o) L H := r.stp.freeze n0 nF
  have es : σ.set i (some (V.ref a)) = σ := by
    apply List.ext_getElem? 
    intro j
    by_cases hj : j = i
    · subst hj
      rw [List.getElem?_set_self (List.getElem?_eq_some_iff.mp h2).1, h2]
    · rw [List.getElem?_set_ne (Ne.symm hj)]
  have r1 := r.setU i (some (.ref a))
  rw [es] at r1
  have r2 : Rl K mg Γ (upd F a o) L σ H (ρ.set i .un) st := by
    refine ⟨sto, stp, fun j u q => ?_, fun j u q => ?_, r1.sd, fun j c fs q => ?_, r1.len⟩
    · obtain ⟨v, g1, g2⟩ := r1.sl j u q
      refine ⟨v, g1, ?_⟩
      have := g2.mono (M := []) ex
      rwa [List.append_nil] at this
    · obtain ⟨b, g1, g2, g3, g4, g5⟩ := r1.so j u q
      have hb : b ≠ a := fun z => by
        subst z
        rcases set_get q with ⟨_, q, _⟩ | ⟨n, q⟩
        · cases q
        · exact n (r.sd j i u d b q h1 g1 h2)
      exact ⟨b, g1, by rw [upd_ne hb]; exact g2, g3, g4, g5.mono ex fun w z => z⟩
    · obtain ⟨b, cls, dd, g1, g2, g3⟩ := r1.sx j c fs q
      exact ⟨b, cls, dd, g1, g2, g3.mono ex⟩
  have r3 := r2.setV (d := d) (v := .ref a) i (.inr (hs.still ho nF))
  rw [es, List.set_set] at r3
  exact ⟨_, ex, r3⟩
end

/-! ### readings of statements -/
def SPost (K : PySem.W.Frag) (mg : Glob) (Γ : Ent) (W : WX) (D' : Ends) (r : SR) : Prop := match r with
  | .nx ρ st => ∀ F L σ H, Rl K mg Γ F L σ H ρ st → D'.nx σ H
  | .rt d st => ∀ F L σ H ρ v, Rl K mg Γ F L σ H ρ st → VRep K mg L F d v → D'.rt v H
  | .bk ρ st => ∀ F L σ H, Rl K mg Γ F L σ H ρ st → D'.bk σ H
  | .ct ρ st => ∀ F L σ H, Rl K mg Γ F L σ H ρ st → D'.ct σ H
  | .exc c fs ρ st => ∀ F L σ H cls dd, Rl K mg Γ F L σ H ρ st → Exc K mg F c fs cls dd → W cls dd σ H
  | .bad => False
def tsG (K : PySem.W.Frag) (mg : Glob) (Γ : Ent) (W : WX) (m : SDen) : TS := fun D' σ H => ∃ F L ρ st, Rl K mg Γ F L σ H ρ st ∧ SPost K mg Γ W D' (m ρ st)
/-- an expression's outcome, then .. -/
def RC.s {α : Type} (r : RC α) (ρ : REnv) (f : α → Store → SR) : SR := match r with
  | .ok d st => f d st
  | .exc c fs st => .exc c fs ρ st
  | .bad => .bad
@[simp] theorem RC.s_ok {α : Type} (d : α) (st : Store) (ρ : REnv) (f : α → Store → SR) : (RC.ok d st).s ρ f = f d st := rfl
@[simp] theorem RC.s_exc {α : Type} (c : Str) (fs : List (Str × D)) (st : Store) (ρ : REnv) (f : α → Store → SR) : (RC.exc c fs st : RC α).s ρ f = .exc c fs ρ st := rfl
@[simp] theorem RC.s_bad {α : Type} (ρ : REnv) (f : α → Store → SR) : (RC.bad : RC α).s ρ f = .bad := rfl
section
variable {K : PySem.W.Frag} {mg : Glob} {Γ : Ent} {W : WX} {F H : Hp} {L : List Addr} {σ : St} {ρ : REnv} {st : Store} {D' : Ends}
theorem SPost.s {α : Type} {r : RC α} {f : α → Store → SR} (h : SPost K mg Γ W D' (r.s ρ f)) (rl : Rl K mg Γ F L σ H ρ st) : Post K mg W σ F L H r fun _ _ _ st' d => SPost K mg Γ W D' (f d st') := by
  cases r with
  | ok d st' => exact fun F' L' H' s o => h
  | exc c fs st' => exact fun F' L' H' cls dd s o x => h F' L' σ H' cls dd (rl.step s o) x
  | bad => exact h.elim
end
section
variable {X : Cx} {K : PySem.W.Frag} {mg : Glob} {Γ : Ent} {W : WX} {e a b c : Expr} {es : List Expr} {m ma mb : EDen} {ms : ADen} {pos pos' tpos p : Pos} {k : Kd} {sa sb : SDen} {st0 : Stmt} {rest body orelse : List Stmt} {t : TDen}
def sNil : SDen := fun ρ st => .nx ρ st
def sSeq (sa sb : SDen) : SDen := fun ρ st => match sa ρ st with
  | .nx ρ' st' => sb ρ' st'
  | r => r
theorem s_nil : PSs X [] (tsG K mg Γ W sNil) := pss_imp pss_nil fun D' σ H ⟨F, L, ρ, st, rl, q⟩ => q F L σ H rl
theorem s_cons (h1 : PS X st0 (tsG K mg Γ W sa)) (h2 : PSs X rest (tsG K mg Γ W sb)) : PSs X (st0 :: rest) (tsG K mg Γ W (sSeq sa sb)) := by
  refine pss_imp (pss_cons h1 h2) fun D' σ H ⟨F, L, ρ, st, rl, q⟩ => ⟨F, L, ρ, st, rl, ?_⟩
  unfold sSeq at q
  cases h : sa ρ st with
  | nx ρ' st' => rw [h] at q; exact fun F' L' σ' H' rl' => ⟨F', L', ρ', st', rl', q⟩
  | _ => rw [h] at q; exact q
theorem s_one (h1 : PS X st0 (tsG K mg Γ W sa)) : PSs X [st0] (tsG K mg Γ W sa) := pss_one h1
def sPass : SDen := sNil
theorem s_pass : PS X (.Pass pos) (tsG K mg Γ W sPass) := ps_imp ps_pass fun D' σ H ⟨F, L, ρ, st, rl, q⟩ => q F L σ H rl
def sBrk : SDen := fun ρ st => .bk ρ st
def sCnt : SDen := fun ρ st => .ct ρ st
theorem s_brk : PS X (.Break pos) (tsG K mg Γ W sBrk) := ps_imp ps_break fun D' σ H ⟨F, L, ρ, st, rl, q⟩ => q F L σ H rl
theorem s_cnt : PS X (.Continue pos) (tsG K mg Γ W sCnt) := ps_imp ps_continue fun D' σ H ⟨F, L, ρ, st, rl, q⟩ => q F L σ H rl
/-- an expression alone -/
def sDrop (m : EDen) : SDen := fun ρ st => (m ρ st).s ρ fun _ st' => .nx ρ st'
theorem s_drop (h : PE X e (teV K mg Γ W m)) (hs : swapsWith e none pos.line X.env = pure false := by rfl) : PS X (.Expr e pos) (tsG K mg Γ W (sDrop m)) :=
  ps_imp (ps_expr h hs) fun D' σ H ⟨F, L, ρ, st, rl, q⟩ => ⟨F, L, ρ, st, rl, (SPost.s q rl).imp fun F' L' H' st' d s o q' v kv => q' F' L' σ H' (rl.step s o)⟩
def sRet (m : EDen) : SDen := fun ρ st => (m ρ st).s ρ fun d st' => .rt d st'
theorem s_ret (h : PE X e (teV K mg Γ W m)) : PS X (.Return (some e) pos) (tsG K mg Γ W (sRet m)) :=
  ps_imp (ps_ret h) fun D' σ H ⟨F, L, ρ, st, rl, q⟩ => ⟨F, L, ρ, st, rl, (SPost.s q rl).imp fun F' L' H' st' d s o q' v kv => q' F' L' σ H' ρ v (rl.step s o) kv⟩
def sRetN : SDen := fun _ st => .rt .non st
theorem s_retN : PS X (.Return none pos) (tsG K mg Γ W sRetN) := ps_imp ps_retN fun D' σ H ⟨F, L, ρ, st, rl, q⟩ => q F L σ H ρ .non rl (.inr rfl)
def sIf (t : TDen) (sa sb : SDen) : SDen := fun ρ st => (t ρ st).s ρ fun b st' => if b then sa ρ st' else sb ρ st'
theorem s_if (ht : PT X c (ttG K mg Γ W t)) (ha : PSs X body (tsG K mg Γ W sa)) (hb : PSs X orelse (tsG K mg Γ W sb)) : PS X (.If c body orelse pos) (tsG K mg Γ W (sIf t sa sb)) := by
  refine ps_imp (ps_if ht ha hb) fun D' σ H ⟨F, L, ρ, st, rl, q⟩ => ⟨F, L, ρ, st, rl, (SPost.s q rl).imp fun F' L' H' st' d s o q' => ?_⟩
  cases d with
  | true => exact iteT ⟨F', L', ρ, st', rl.step s o, q'⟩
  | false => exact iteF ⟨F', L', ρ, st', rl.step s o, q'⟩
/-- x = e -/
def sAsg (i : Nat) (m : EDen) : SDen := fun ρ st => (m ρ st).s ρ fun d st' => .nx (ρ.set i (.val d)) st'
theorem s_asg {x : Str} {pos' : Pos} {i : Nat} (hN : X.N.Nodup) (h : PE X e (teV K mg Γ W m)) (hi : X.N[i]? = some x := by rfl) (hx : Loc X.env.scope x := by first | exact Or.inl rfl | exact Or.inr rfl) (hs : swapsWith e (some (.Name x pos')) pos.line X.env = pure false := by rfl)
    (hf : X.fn x = true ∨ X.env.scope.names.lookup x = some .local := by first | exact .inl rfl | exact .inr rfl | assumption) : PS X (.Assign [.Name x pos'] e pos) (tsG K mg Γ W (sAsg i m)) :=
  ps_imp (ps_set hN hi hx h hs hf) fun D' σ H ⟨F, L, ρ, st, rl, q⟩ => ⟨F, L, ρ, st, rl, (SPost.s q rl).imp fun F' L' H' st' d s o q' v kv => q' F' L' _ H' ((rl.step s o).setV i kv)⟩
/-- .. a list or dict of the frame's own from now on -/
def sAsgO (i : Nat) (m : EDen) : SDen := fun ρ st => (m ρ st).s ρ fun d st' => .nx (ρ.set i (.own d)) st'
theorem Rl.setN {F H F' H' : Hp} {L L' : List Addr} {σ : St} {ρ : REnv} {st st' : Store} {d : D} {a : Addr} (rl : Rl K mg Γ F L σ H ρ st) (s : Stp F L H F' L' H') (o : Sto K mg F' L' H' st') (i : Nat) (n : H a = none) (nF : F' a = none) (nL : a ∉ L') (hs : Has K mg F' H' a d) :
    Rl K mg Γ F' L' (σ.set i (some (.ref a))) H' (ρ.set i (.own d)) st' :=
  (rl.step s o).setO i nF nL (rl.new0 n) hs fun j e h z => by
    obtain ⟨b, g1, _, _, _, hh⟩ := rl.so j e h
    rw [g1] at z; cases z
    obtain ⟨u, hu⟩ := hh.there
    rw [n] at hu; cases hu
theorem s_asgO {x : Str} {pos' : Pos} {i : Nat} (hN : X.N.Nodup) (h : PE X e (teO K mg Γ W m)) (hi : X.N[i]? = some x := by rfl) (hx : Loc X.env.scope x := by first | exact Or.inl rfl | exact Or.inr rfl) (hs : swapsWith e (some (.Name x pos')) pos.line X.env = pure false := by rfl)
    (hf : X.fn x = true ∨ X.env.scope.names.lookup x = some .local := by first | exact .inl rfl | exact .inr rfl | assumption) : PS X (.Assign [.Name x pos'] e pos) (tsG K mg Γ W (sAsgO i m)) := by
  refine ps_imp (ps_set hN hi hx h hs hf) fun D' σ H ⟨F, L, ρ, st, rl, q⟩ => ⟨F, L, ρ, st, rl, (SPost.s q rl).imp fun F' L' H' st' d s o q' v kv => ?_⟩
  obtain ⟨a, rfl, n, nF, nL, hs⟩ := kv
  exact q' F' L' _ H' (rl.setN s o i n nF nL hs)
/-- slots that own stand still ahead of a statement -/
def frzE (ρ : REnv) (i : Nat) : REnv := match ρ[i]? with
  | some (.own d) => ρ.set i (.val d)
  | _ => ρ
def sFrz (is : List Nat) (s : SDen) : SDen := fun ρ st => s (is.foldl frzE ρ) st
theorem Rl.frzE {F H : Hp} {L : List Addr} {σ : St} {ρ : REnv} {st : Store} (rl : Rl K mg Γ F L σ H ρ st) (i : Nat) : ∃ F', Rl K mg Γ F' L σ H (frzE ρ i) st := by
  unfold Gh.frzE
  split
  · rename_i d h
    obtain ⟨F', _, r⟩ := rl.frz h
    exact ⟨F', r⟩
  · exact ⟨F, rl⟩
theorem Rl.frzEs {H : Hp} {L : List Addr} {σ : St} {st : Store} : ∀ (is : List Nat) {F : Hp} {ρ : REnv}, Rl K mg Γ F L σ H ρ st → ∃ F', Rl K mg Γ F' L σ H (is.foldl Gh.frzE ρ) st
  | [], F, ρ, rl => ⟨F, rl⟩
  | i :: is, F, ρ, rl => by
    obtain ⟨F', r⟩ := rl.frzE i
    exact Rl.frzEs is r
theorem s_frz (is : List Nat) (h : PS X st0 (tsG K mg Γ W sa)) : PS X st0 (tsG K mg Γ W (sFrz is sa)) := by
  refine ps_imp h fun D' σ H ⟨F, L, ρ, st, rl, q⟩ => ?_
  obtain ⟨F', r⟩ := rl.frzEs is
  exact ⟨F', L, _, st, r, q⟩
end
end Gh
/-! Gh5: what is walked; targets; loops; comprehensions. -/
namespace Gh
open L2 PyProof.Rows PySem.Spec PySem

abbrev LDen := REnv → Store → RC (List D)
/-- the turns of J are ds: as long as F stands -/
def ItG (K : PySem.W.Frag) (mg : Glob) (J : It) (ds : List D) (F : Hp) : Prop := ∀ F1 L1 H1 st1, Ex F F1 → Sto K mg F1 L1 H1 st1 →
  J.stop ds.length H1 ∧ ∀ (i : Nat) (d : D), ds[i]? = some d → J.go i H1 ∧ ∀ x H2, J.yld i H1 x H2 → ∃ F2, Stp F1 L1 H1 F2 L1 H2 ∧ Sto K mg F2 L1 H2 st1 ∧ Rep K mg F2 d x
/-- .. as long as all stands but the store -/
def ItC (K : PySem.W.Frag) (mg : Glob) (J : It) (ds : List D) (F : Hp) (L : List Addr) (H : Hp) : Prop := ∀ F1 L1 H1 st1, Stp F L H F1 L1 H1 → Sto K mg F1 L1 H1 st1 →
  J.stop ds.length H1 ∧ ∀ (i : Nat) (d : D), ds[i]? = some d → J.go i H1 ∧ ∀ x H2, J.yld i H1 x H2 → ∃ F2, Stp F1 L1 H1 F2 L1 H2 ∧ Sto K mg F2 L1 H2 st1 ∧ Rep K mg F2 d x
def tiG (K : PySem.W.Frag) (mg : Glob) (Γ : Ent) (W : WX) (m : LDen) : TI := fun σ H R => ∃ F L ρ st, Rl K mg Γ F L σ H ρ st ∧
  Post K mg W σ F L H (m ρ st) fun F' L' H' _ ds => ∀ J, ItG K mg J ds F' → R J H'
def tiC (K : PySem.W.Frag) (mg : Glob) (Γ : Ent) (W : WX) (m : LDen) : TI := fun σ H R => ∃ F L ρ st, Rl K mg Γ F L σ H ρ st ∧
  Post K mg W σ F L H (m ρ st) fun F' L' H' _ ds => ∀ J, ItC K mg J ds F' L' H' → R J H'
theorem pi_imp {X : Cx} {tg e : Expr} {t t' : TI} (h : PI X tg e t) (k : ∀ σ H R, t' σ H R → t σ H R) : PI X tg e t' := ⟨fun pins s σ H R I q => h.run pins s σ H R I (k σ H R q)⟩
theorem pi_or {X : Cx} {tg e : Expr} {t t' : TI} (h : PI X tg e t) (h' : PI X tg e t') : PI X tg e (fun σ H R => t σ H R ∨ t' σ H R) := ⟨fun pins s σ H R I q => q.elim (h.run pins s σ H R I) (h'.run pins s σ H R I)⟩
theorem i_gc {X : Cx} {K : PySem.W.Frag} {mg : Glob} {Γ : Ent} {W : WX} {tg e : Expr} {m : LDen} (h : PI X tg e (tiG K mg Γ W m)) : PI X tg e (tiC K mg Γ W m) :=
  pi_imp h fun σ H R ⟨F, L, ρ, st, rl, q⟩ => ⟨F, L, ρ, st, rl, q.imp fun F' L' H' st' ds s o q J j => q J fun F1 L1 H1 st1 s1 o1 => j F1 L1 H1 st1 s1.ex o1⟩
section
variable {X : Cx} {K : PySem.W.Frag} {mg : Glob} {Γ : Ent} {W : WX} {tg e a b : Expr} {m ma mb : EDen} {ms : ADen} {pos p : Pos}
/-- the items of a list, a tuple -/
def seqOf : D → Option (List D)
  | .lst ds => some ds
  | .tup ds => some ds
  | .scr ds => some ds
  | _ => none
def lSeq (m : EDen) : LDen := fun ρ st => (m ρ st).bind fun d st1 => match seqOf d with
  | some ds => .ok ds st1
  | none => .bad
theorem itG_list {J : It} {F : Hp} {ds : List D} {vs : List V} {a : Addr} (hs : ∀ F1 L1 H1 st1, Ex F F1 → Sto K mg F1 L1 H1 st1 → SqL K H1 a vs) (r : RepL K mg F ds vs) : ItG K mg (Itl K a) ds F := fun F1 L1 H1 st1 x o => by
  have h := hs F1 L1 H1 st1 x o
  refine ⟨⟨vs, h, by rw [r.length]; exact Nat.le_refl _⟩, fun i d e => ?_⟩
  obtain ⟨v, e1, e2⟩ := r.get e
  refine ⟨⟨vs, v, h, e1⟩, fun z H2 y => ?_⟩
  obtain ⟨rfl, q⟩ := y
  have := q vs h
  rw [e1] at this; cases this
  exact ⟨F1, Stp.refl, o, Rep.mono x d e2⟩
theorem itG_tup {J : It} {F : Hp} {ds : List D} {vs : List V} {a : Addr} (hs : ∀ F1 L1 H1 st1, Ex F F1 → Sto K mg F1 L1 H1 st1 → SqT K H1 a vs) (r : RepL K mg F ds vs) : ItG K mg (Itt K a) ds F := fun F1 L1 H1 st1 x o => by
  have h := hs F1 L1 H1 st1 x o
  refine ⟨⟨vs, h, by rw [r.length]; exact Nat.le_refl _⟩, fun i d e => ?_⟩
  obtain ⟨v, e1, e2⟩ := r.get e
  refine ⟨⟨vs, v, h, e1⟩, fun z H2 y => ?_⟩
  obtain ⟨rfl, q⟩ := y
  have := q vs h
  rw [e1] at this; cases this
  exact ⟨F1, Stp.refl, o, Rep.mono x d e2⟩
theorem i_seq (hK : X.K = K) (h : PE X e (teV K mg Γ W m)) : PI X tg e (tiG K mg Γ W (lSeq m)) := by
  refine pi_imp (pi_or (pi_list h) (pi_tup h)) fun σ H R ⟨F, L, ρ, st, rl, q⟩ => ?_
  have q := q.bind
  cases hm : m ρ st with
  | bad => rw [hm] at q; exact q.elim
  | exc c fs st' =>
    refine .inl ⟨F, L, ρ, st, rl, ?_⟩
    rw [hm] at q ⊢
    exact q
  | ok d st' =>
    rw [hm] at q
    have lst : ∀ ds, (∀ v F' L' H', Sto K mg F' L' H' st' → VRep K mg L' F' d v → ∃ a vs, v = .ref a ∧ RepL K mg F' ds vs ∧ SqL K H' a vs ∧ ∀ F1 L1 H1 st1, Ex F' F1 → Sto K mg F1 L1 H1 st1 → SqL K H1 a vs) → seqOf d = some ds → iList X.K (teV K mg Γ W m) σ H R := fun ds hd hs => by
      refine ⟨F, L, ρ, st, rl, ?_⟩
      rw [hm]
      intro F' L' H' s o v kv
      have q' := q F' L' H' s o
      dsimp only at q'
      rw [hs] at q'
      obtain ⟨a, vs, rfl, r, h0, h1⟩ := hd v F' L' H' o kv
      rw [hK]
      exact ⟨a, rfl, ⟨vs, h0⟩, (q'.here o) _ (itG_list (J := Itl K a) h1 r)⟩
    cases d with
    | lst ds =>
      refine .inl (lst ds (fun v F' L' H' o kv => ?_) rfl)
      rcases kv with ⟨_, _, e, _⟩ | ⟨a, vs, rfl, h1, h2⟩
      · cases e
      · exact ⟨a, vs, rfl, h2, .inl (.inl (o.ex.lst h1)), fun F1 L1 H1 st1 x o1 => .inl (.inl (o1.ex.lst (x _ _ h1)))⟩
    | scr ds =>
      refine .inl (lst ds (fun v F' L' H' o kv => ?_) rfl)
      rcases kv with ⟨_, _, e, _⟩ | ⟨a, vs, rfl, h1, h2⟩
      · cases e
      · exact ⟨a, vs, rfl, h2, o.ex.l h1, fun F1 L1 H1 st1 x o1 => o1.ex.l (ex_l x h1)⟩
    | tup ds =>
      refine .inr ⟨F, L, ρ, st, rl, ?_⟩
      rw [hm]
      intro F' L' H' s o v kv
      have q' := q F' L' H' s o
      rcases kv with ⟨_, _, e, _⟩ | ⟨a, vs, rfl, h1, h2⟩
      · cases e
      · rw [hK]
        exact ⟨a, rfl, ⟨vs, o.ex.t h1⟩, (q'.here o) _ (itG_tup (J := Itt K a) (fun F1 L1 H1 st1 x o1 => o1.ex.t (ex_t x h1)) h2)⟩
    | _ =>
      refine .inl ⟨F, L, ρ, st, rl, ?_⟩
      rw [hm]
      intro F' L' H' s o v kv
      exact (q F' L' H' s o).elim
/-- range(n), range(a, b) -/
def upto (lo : Int) (n : Nat) : List D := (List.range n).map fun (i : Nat) => D.int (lo + (i : Int))
theorem upto_get {lo : Int} {n i : Nat} {d : D} (h : (upto lo n)[i]? = some d) : i < n ∧ d = .int (lo + (i : Int)) := by
  unfold upto at h
  rw [List.getElem?_map] at h
  by_cases hi : i < n
  · rw [List.getElem?_range hi] at h
    cases h
    exact ⟨hi, rfl⟩
  · rw [List.getElem?_eq_none (by rw [List.length_range]; omega)] at h
    cases h
theorem upto_len {lo : Int} {n : Nat} : (upto lo n).length = n := by unfold upto; rw [List.length_map, List.length_range]
theorem itG_range {lo : Int} {n : Nat} {F : Hp} : ItG K mg (Itr lo n) (upto lo n) F := fun F1 L1 H1 st1 x o => by
  refine ⟨by rw [upto_len]; exact Nat.le_refl n, fun i d e => ?_⟩
  obtain ⟨hi, rfl⟩ := upto_get e
  refine ⟨hi, fun z H2 y => ?_⟩
  obtain ⟨rfl, rfl⟩ := y
  exact ⟨F1, Stp.refl, o, rfl⟩
def lRange1 (ms : ADen) : LDen := fun ρ st => (ms ρ st).bind fun ds st1 => match ds with
  | [.int n] => if -1000000000 ≤ n ∧ n ≤ 1000000000 then .ok (upto 0 n.toNat) st1 else .bad
  | _ => .bad
def lRange2 (ms : ADen) : LDen := fun ρ st => (ms ρ st).bind fun ds st1 => match ds with
  | [.int i, .int j] => if -1000000000 ≤ i ∧ i ≤ 1000000000 ∧ -1000000000 ≤ j ∧ j ≤ 1000000000 then .ok (upto i (j - i).toNat) st1 else .bad
  | _ => .bad
theorem i_range1 (hm : X.mg "range" = none) (ha : PA X [a] (taG K mg Γ W ms)) (hg : Gl X "range" := by rfl) (hs : starEach [a] X.env = [(false, eval a X.env)] := by rfl) : PI X tg (.Call (.Name "range" p) [a] [] pos) (tiG K mg Γ W (lRange1 ms)) := by
  refine pi_imp (pi_range1 hg hm ha hs) fun σ H R ⟨F, L, ρ, st, rl, q⟩ => ⟨F, L, ρ, st, rl, q.bind.imp fun F1 L1 H1 st1 ds s o q1 vs kvs => ?_⟩
  split at q1
  · rename_i n
    split at q1
    · rename_i hc
      obtain ⟨v, r, rfl, kv, rr⟩ := kvs
      cases (show r = [] from rr)
      exact ⟨n, by rw [kv.int], by omega, by omega, q1.here o _ itG_range⟩
    · exact q1.elim
  · exact q1.elim
theorem i_range2 (hm : X.mg "range" = none) (ha : PA X [a, b] (taG K mg Γ W ms)) (hg : Gl X "range" := by rfl) (hs : starEach [a, b] X.env = [(false, eval a X.env), (false, eval b X.env)] := by rfl) (hs2 : starEach [b] X.env = [(false, eval b X.env)] := by rfl) :
    PI X tg (.Call (.Name "range" p) [a, b] [] pos) (tiG K mg Γ W (lRange2 ms)) := by
  refine pi_imp (pi_range2 hg hm ha hs hs2) fun σ H R ⟨F, L, ρ, st, rl, q⟩ => ⟨F, L, ρ, st, rl, q.bind.imp fun F1 L1 H1 st1 ds s o q1 vs kvs => ?_⟩
  split at q1
  · rename_i i j
    split at q1
    · rename_i hc
      obtain ⟨v, r, rfl, kv, w, r2, rfl, kw, rr⟩ := kvs
      cases (show r2 = [] from rr)
      exact ⟨i, j, by rw [kv.int, kw.int], ⟨by omega, by omega, by omega, by omega⟩, q1.here o _ itG_range⟩
    · exact q1.elim
  · exact q1.elim
/-- the signs of a text -/
def signs (s : Str) : List D := s.cps.toList.map fun c => D.str ⟨#[c]⟩
def lStr (m : EDen) : LDen := fun ρ st => (m ρ st).bind fun d st1 => match d with
  | .str s => .ok (signs s) st1
  | _ => .bad
theorem itG_str {s : Str} {F : Hp} : ItG K mg (Its s) (signs s) F := fun F1 L1 H1 st1 x o => by
  refine ⟨by show s.cps.size ≤ (signs s).length; unfold signs; rw [List.length_map, Array.length_toList]; exact Nat.le_refl _, fun i d e => ?_⟩
  unfold signs at e
  rw [List.getElem?_map] at e
  cases h : s.cps.toList[i]? with
  | none => rw [h] at e; cases e
  | some c =>
    rw [h] at e
    cases e
    have hc : s.cps[i]? = some c := by rw [← Array.getElem?_toList]; exact h
    refine ⟨(Array.getElem?_eq_some_iff.mp hc).1, fun z H2 y => ?_⟩
    obtain ⟨rfl, c', h1, rfl⟩ := y
    rw [hc] at h1
    cases h1
    exact ⟨F1, Stp.refl, o, rfl⟩
theorem i_str (h : PE X e (teV K mg Γ W m)) : PI X tg e (tiG K mg Γ W (lStr m)) := by
  refine pi_imp (pi_str h) fun σ H R ⟨F, L, ρ, st, rl, q⟩ => ⟨F, L, ρ, st, rl, q.bind.imp fun F1 L1 H1 st1 d s o q1 v kv => ?_⟩
  split at q1
  · rename_i x
    exact ⟨x, kv.str, q1.here o _ itG_str⟩
  · exact q1.elim
/-- enumerate of a list -/
def numbered (ds : List D) : List D := (List.range ds.length).map fun (i : Nat) => D.tup [.int (i : Int), ds.getD i .non]
def lEnum (ms : ADen) : LDen := fun ρ st => (ms ρ st).bind fun ds st1 => match ds with
  | [.lst xs] => .ok (numbered xs) st1
  | _ => .bad
theorem numbered_get {ds : List D} {i : Nat} {d : D} (h : (numbered ds)[i]? = some d) : ∃ x, ds[i]? = some x ∧ d = .tup [.int (i : Int), x] := by
  unfold numbered at h
  rw [List.getElem?_map] at h
  by_cases hi : i < ds.length
  · rw [List.getElem?_range hi] at h
    cases h
    refine ⟨ds[i], List.getElem?_eq_getElem hi, ?_⟩
    show D.tup [.int (i : Int), ds.getD i .non] = _
    rw [List.getD_eq_getElem?_getD, List.getElem?_eq_getElem hi]
    rfl
  · rw [List.getElem?_eq_none (by rw [List.length_range]; omega)] at h
    cases h
theorem itG_enum {F : Hp} {ds : List D} {vs : List V} {a : Addr} (hs : ∀ F1 L1 H1 st1, Ex F F1 → Sto K mg F1 L1 H1 st1 → SqL K H1 a vs) (r : RepL K mg F ds vs) : ItG K mg (Ite K a) (numbered ds) F := fun F1 L1 H1 st1 x o => by
  have h := hs F1 L1 H1 st1 x o
  have hl : (numbered ds).length = ds.length := by unfold numbered; rw [List.length_map, List.length_range]
  refine ⟨⟨vs, h, by rw [hl, r.length]; exact Nat.le_refl _⟩, fun i d e => ?_⟩
  obtain ⟨y, ey, rfl⟩ := numbered_get e
  obtain ⟨v, e1, e2⟩ := r.get ey
  refine ⟨⟨vs, v, h, e1⟩, fun z H2 w => ?_⟩
  obtain ⟨T, x', rfl, nT, rfl, q⟩ := w
  have := q vs h
  rw [e1] at this; cases this
  obtain ⟨s2, o2⟩ := o.lay (o := .tup [.int (i : Nat), v]) nT
  exact ⟨_, s2, o2, T, _, rfl, .inl (.inl upd_same), _, _, rfl, rfl, _, _, rfl, Rep.mono s2.ex _ (Rep.mono x _ e2), rfl⟩
theorem i_enum {elts : List Expr} {kk : Nat} {tpos : Pos} (hK : X.K = K) (hm : X.mg "enumerate" = none) (ha : PA X [e] (taG K mg Γ W ms)) (hg : Gl X "enumerate" := by rfl) (hs : starEach [e] X.env = [(false, eval e X.env)] := by rfl) :
    PI X (.Tuple elts kk tpos) (.Call (.Name "enumerate" p) [e] [] pos) (tiG K mg Γ W (lEnum ms)) := by
  refine pi_imp (pi_enum hg hm ha hs) fun σ H R ⟨F, L, ρ, st, rl, q⟩ => ⟨F, L, ρ, st, rl, q.bind.imp fun F1 L1 H1 st1 ds s o q1 vs kvs => ?_⟩
  split at q1
  · rename_i xs
    obtain ⟨v, r, rfl, kv, rr⟩ := kvs
    cases (show r = [] from rr)
    rcases kv with ⟨_, _, e, _⟩ | ⟨a, vs, rfl, h1, h2⟩
    · cases e
    · rw [hK]
      exact ⟨a, vs, rfl, .inl (.inl (o.ex.lst h1)), q1.here o _ (itG_enum (fun F1 L1 H1 st1 x o1 => .inl (.inl (o1.ex.lst (x _ _ h1)))) h2)⟩
  · exact q1.elim
/-- zip of two lists -/
def paired (xs ys : List D) : List D := (xs.zip ys).map fun p => D.tup [p.1, p.2]
def lZip (ms : ADen) : LDen := fun ρ st => (ms ρ st).bind fun ds st1 => match ds with
  | [.lst xs, .lst ys] => .ok (paired xs ys) st1
  | _ => .bad
theorem itG_zip {F : Hp} {ds es : List D} {vs us : List V} {a b : Addr} (hs : ∀ F1 L1 H1 st1, Ex F F1 → Sto K mg F1 L1 H1 st1 → SqL K H1 a vs ∧ SqL K H1 b us) (r : RepL K mg F ds vs) (r2 : RepL K mg F es us) : ItG K mg (Itz K a b) (paired ds es) F := fun F1 L1 H1 st1 x o => by
  obtain ⟨h, h'⟩ := hs F1 L1 H1 st1 x o
  have hl : (paired ds es).length = min ds.length es.length := by unfold paired; rw [List.length_map, List.length_zip]
  refine ⟨⟨vs, us, h, h', by rw [hl, r.length, r2.length]; omega⟩, fun i d e => ?_⟩
  unfold paired at e
  rw [List.getElem?_map] at e
  cases hz : (ds.zip es)[i]? with
  | none => rw [hz] at e; cases e
  | some q =>
    rw [hz] at e
    cases e
    obtain ⟨z1, z2⟩ := List.getElem?_zip_eq_some.mp hz
    obtain ⟨v, e1, e2⟩ := r.get z1
    obtain ⟨u, f1, f2⟩ := r2.get z2
    refine ⟨⟨vs, us, v, u, h, h', e1, f1⟩, fun z H2 w => ?_⟩
    obtain ⟨T, x', y', rfl, nT, rfl, q1, q2⟩ := w
    have := q1 vs h
    rw [e1] at this; cases this
    have := q2 us h'
    rw [f1] at this; cases this
    obtain ⟨s2, o2⟩ := o.lay (o := .tup [v, u]) nT
    exact ⟨_, s2, o2, T, _, rfl, .inl (.inl upd_same), _, _, rfl, Rep.mono s2.ex _ (Rep.mono x _ e2), _, _, rfl, Rep.mono s2.ex _ (Rep.mono x _ f2), rfl⟩
theorem i_zip {elts : List Expr} {kk : Nat} {tpos : Pos} (hK : X.K = K) (hm : X.mg "zip" = none) (ha : PA X [a, b] (taG K mg Γ W ms)) (hg : Gl X "zip" := by rfl) (hs : starEach [a, b] X.env = (false, eval a X.env) :: starEach [b] X.env := by rfl) (hpl : (backTo pos (starEach [b] X.env)).any (·.1) = false := by rfl) :
    PI X (.Tuple elts kk tpos) (.Call (.Name "zip" p) [a, b] [] pos) (tiG K mg Γ W (lZip ms)) := by
  refine pi_imp (pi_zip hg hm ha hs hpl) fun σ H R ⟨F, L, ρ, st, rl, q⟩ => ⟨F, L, ρ, st, rl, q.bind.imp fun F1 L1 H1 st1 ds s o q1 vs kvs => ?_⟩
  split at q1
  · rename_i xs ys
    obtain ⟨v, r, rfl, kv, w, r2, rfl, kw, rr⟩ := kvs
    cases (show r2 = [] from rr)
    rcases kv with ⟨_, _, e, _⟩ | ⟨a, vs, rfl, h1, h2⟩
    · cases e
    · rcases kw with ⟨_, _, e, _⟩ | ⟨b, us, rfl, g1, g2⟩
      · cases e
      · rw [hK]
        exact ⟨a, b, vs, us, rfl, .inl (.inl (o.ex.lst h1)), .inl (.inl (o.ex.lst g1)), q1.here o _ (itG_zip (fun F1 L1 H1 st1 x o1 => ⟨.inl (.inl (o1.ex.lst (x _ _ h1))), .inl (.inl (o1.ex.lst (x _ _ g1)))⟩) h2 g2)⟩
  · exact q1.elim
end

/-! ### targets -/
abbrev BDen := D → REnv → Option REnv
/-- slots but those of vs are as they were -/
def OffS (vs : List Nat) (σ σ' : St) : Prop := σ'.length = σ.length ∧ ∀ j, j ∉ vs → σ'[j]? = σ[j]?
def tgG (K : PySem.W.Frag) (mg : Glob) (Γ : Ent) (vs : List Nat) (bd : BDen) : TG := fun v σ H Q => ∃ F L ρ st d ρ', Rl K mg Γ F L σ H ρ st ∧ Rep K mg F d v ∧ bd d ρ = some ρ' ∧ ∀ σ', OffS vs σ σ' → Rl K mg Γ F L σ' H ρ' st → Q σ' H
def tgsG (K : PySem.W.Frag) (mg : Glob) (Γ : Ent) (vs : List Nat) (bd : List D → REnv → Option REnv) : TGs := fun ws σ H Q => ∃ F L ρ st ds ρ', Rl K mg Γ F L σ H ρ st ∧ RepL K mg F ds ws ∧ bd ds ρ = some ρ' ∧ ∀ σ', OffS vs σ σ' → Rl K mg Γ F L σ' H ρ' st → Q σ' H
section
variable {X : Cx} {K : PySem.W.Frag} {mg : Glob} {Γ : Ent} {W : WX} {tg e a b : Expr} {es : List Expr} {pos p : Pos} {vs ws : List Nat} {bd : BDen} {bds : List D → REnv → Option REnv}
theorem OffS.refl {σ : St} : OffS vs σ σ := ⟨rfl, fun _ _ => rfl⟩
theorem OffS.trans {σ σ1 σ2 : St} (h : OffS vs σ σ1) (h' : OffS ws σ1 σ2) : OffS (vs ++ ws) σ σ2 := ⟨h'.1.trans h.1, fun j hj => by
  rw [List.mem_append, not_or] at hj
  rw [h'.2 j hj.2, h.2 j hj.1]⟩
theorem OffS.set {σ : St} {i : Nat} {z : Option V} : OffS [i] σ (σ.set i z) := ⟨by rw [List.length_set], fun j hj => by
  have : i ≠ j := fun e => hj (by rw [e]; simp)
  rw [List.getElem?_set_ne this]⟩
theorem pg_imp {t t' : TG} (h : PG X tg t) (k : ∀ v σ H Q, t' v σ H Q → t v σ H Q) : PG X tg t' := ⟨fun pins s σ H v u Q I r q => h.run pins s σ H v u Q I r (k v σ H Q q)⟩
theorem pgs_imp {t t' : TGs} (h : PGs X es t) (k : ∀ v σ H Q, t' v σ H Q → t v σ H Q) : PGs X es t' := ⟨fun pins s σ H v u Q I r q => h.run pins s σ H v u Q I r (k v σ H Q q)⟩
def bName (i : Nat) : BDen := fun d ρ => some (ρ.set i (.val d))
theorem b_name {x : Str} (i : Nat) (hN : X.N.Nodup) (hi : X.N[i]? = some x := by rfl) (hx : Loc X.env.scope x := by first | exact Or.inl rfl | exact Or.inr rfl) (hf : X.fn x = true ∨ X.env.scope.names.lookup x = some .local := by first | exact .inl rfl | exact .inr rfl | assumption) :
    PG X (.Name x pos) (tgG K mg Γ [i] (bName i)) :=
  pg_imp (pg_name hN hi hx hf) fun v σ H Q ⟨F, L, ρ, st, d, ρ', rl, r, e, q⟩ => by
    cases e
    exact q _ OffS.set (rl.setV i (.inr r))
def bNil : List D → REnv → Option REnv := fun ds ρ => match ds with
  | [] => some ρ
  | _ => none
def bCons (bd : BDen) (bds : List D → REnv → Option REnv) : List D → REnv → Option REnv := fun ds ρ => match ds with
  | d :: r => (bd d ρ).bind (bds r)
  | _ => none
def bTup (n : Nat) (bds : List D → REnv → Option REnv) : BDen := fun d ρ => match d with
  | .tup ds => if ds.length = n then bds ds ρ else none
  | _ => none
theorem b_nil : PGs X [] (tgsG K mg Γ [] bNil) := pgs_imp pgs_nil fun v σ H Q ⟨F, L, ρ, st, ds, ρ', rl, r, e, q⟩ => by
  cases ds with
  | nil => cases e; exact ⟨r, q σ OffS.refl rl⟩
  | cons => cases e
theorem b_cons (h1 : PG X e (tgG K mg Γ vs bd)) (h2 : PGs X es (tgsG K mg Γ ws bds)) (hs : (assignEach (e :: es) X.env).map (·.2) = assign e X.env :: (assignEach es X.env).map (·.2) := by rfl) : PGs X (e :: es) (tgsG K mg Γ (vs ++ ws) (bCons bd bds)) :=
  pgs_imp (pgs_cons h1 h2 hs) fun v σ H Q ⟨F, L, ρ, st, ds, ρ', rl, r, e, q⟩ => by
    cases ds with
    | nil => cases e
    | cons d ds =>
      obtain ⟨v, vr, rfl, r1, r2⟩ := r
      have e : (bd d ρ).bind (bds ds) = some ρ' := e
      cases h : bd d ρ with
      | none => rw [h] at e; cases e
      | some ρ1 =>
        rw [h] at e
        exact ⟨v, vr, rfl, F, L, ρ, st, d, ρ1, rl, r1, h, fun σ1 o1 rl1 => ⟨F, L, ρ1, st, ds, ρ', rl1, r2, e, fun σ2 o2 rl2 => q σ2 (o1.trans o2) rl2⟩⟩
theorem b_tup {k n : Nat} (hK : X.K = K) (hc : X.calm = true) (h : PGs X es (tgsG K mg Γ vs bds)) (hn : (assignEach es X.env).length = n := by rfl) (hst : (assignEach es X.env).findIdx? (·.1) = none := by rfl) : PG X (.Tuple es k pos) (tgG K mg Γ vs (bTup n bds)) :=
  pg_imp (pg_tup hc h hn hst) fun v σ H Q ⟨F, L, ρ, st, d, ρ', rl, r, e, q⟩ => by
    cases d with
    | tup ds =>
      obtain ⟨a, ws, rfl, r1, r2⟩ := r
      have e : (if ds.length = n then bds ds ρ else none) = some ρ' := e
      split at e
      · rename_i hl
        exact ⟨a, ws, rfl, by rw [hK]; exact rl.sto.ex.t r1, by rw [← r2.length]; exact hl, F, L, ρ, st, ds, ρ', rl, r2, e, q⟩
      · cases e
    | _ => cases e
end
end Gh
/-! Gh6: for, while, comprehensions. -/
namespace Gh
open L2 PyProof.Rows PySem.Spec PySem

/-! ### the entry moved to where a loop begins -/
section
variable {K : PySem.W.Frag} {mg : Glob} {Γ : Ent} {W : WX} {F Fs H Hs : Hp} {L Ls : List Addr} {σ σs : St} {ρ ρs : REnv} {st sts : Store} {D' : Ends}
abbrev Ent.at (Γ : Ent) (Fs : Hp) : Ent := { Γ with F0 := Fs }
theorem Rl.anchor (r : Rl K mg Γ Fs Ls σs Hs ρs sts) : Rl K mg (Γ.at Fs) Fs Ls σs Hs ρs sts :=
  ⟨r.sto, ⟨Ex.refl Fs, r.stp.pre, fun a o h n => ⟨(r.stp.kp a o h n).1, rfl, (r.stp.kp a o h n).2.2⟩⟩, r.sl, r.so, r.sd, r.sx, r.len⟩
theorem Rl.off (b : Rl K mg Γ Fs Ls σs Hs ρs sts) (r : Rl K mg (Γ.at Fs) F L σ H ρ st) : Rl K mg Γ F L σ H ρ st :=
  ⟨r.sto, ⟨b.stp.ex.trans r.stp.ex, r.stp.pre, fun a o h n => ⟨(r.stp.kp a o h n).1, (r.stp.kp a o h n).2.1.trans (b.stp.kp a o h n).2.1, (r.stp.kp a o h n).2.2⟩⟩, r.sl, r.so, r.sd, r.sx, r.len⟩
theorem SPost.anchor {r : SR} (b : Rl K mg Γ Fs Ls σs Hs ρs sts) (h : SPost K mg Γ W D' r) : SPost K mg (Γ.at Fs) W D' r := by
  cases r with
  | nx ρ st => exact fun F L σ H rl => h F L σ H (b.off rl)
  | rt d st => exact fun F L σ H ρ v rl => h F L σ H ρ v (b.off rl)
  | bk ρ st => exact fun F L σ H rl => h F L σ H (b.off rl)
  | ct ρ st => exact fun F L σ H rl => h F L σ H (b.off rl)
  | exc c fs ρ st => exact fun F L σ H cls dd rl => h F L σ H cls dd (b.off rl)
  | bad => exact h.elim
end

/-! ### for -/
def forGo (bd : BDen) (body : SDen) : List D → REnv → Store → SR
  | [], ρ, st => .nx ρ st
  | d :: ds, ρ, st => match bd d ρ with
    | none => .bad
    | some ρ1 => match body ρ1 st with
      | .nx ρ2 st2 => forGo bd body ds ρ2 st2
      | .ct ρ2 st2 => forGo bd body ds ρ2 st2
      | .bk ρ2 st2 => .nx ρ2 st2
      | r => r
def sFor (mi : LDen) (bd : BDen) (body : SDen) : SDen := fun ρ st => (mi ρ st).s ρ fun ds st1 => forGo bd body ds ρ st1
section
variable {X : Cx} {K : PySem.W.Frag} {mg : Glob} {Γ : Ent} {W : WX} {tg iter c : Expr} {stmts : List Stmt} {pos p : Pos} {vs : List Nat} {bd : BDen} {mi : LDen} {mb : SDen} {t : TDen}
theorem drop_cons {α : Type} {l : List α} {i : Nat} (h : i < l.length) : l.drop i = l[i] :: l.drop (i + 1) := List.drop_eq_getElem_cons h
theorem s_for (hp : PassesOwn (model X.prog X.w) X.A X.env X.xe) (hc : X.calm = true) (hi : PI X tg iter (tiG K mg Γ W mi)) (hg : ∀ Γ, PG X tg (tgG K mg Γ vs bd)) (hb : ∀ Γ' : Ent, Γ'.x = Γ.x → PSs X stmts (tsG K mg Γ' W mb))
    (hs : ∀ x, foldedSetIterable iter X.env x = pure x := by intro _; rfl) : PS X (.For tg iter stmts [] pos) (tsG K mg Γ W (sFor mi bd mb)) := by
  refine ⟨fun pins s σ H D' I ⟨F, L, ρ, st, rl, q⟩ => ?_⟩
  -- the wish of the loop, for the F at which the iterator is made
  have key : tiG K mg Γ W mi σ H fun J H1 => ∃ Fs, tFor (fun _ H R => R J H) (tgG K mg (Γ.at Fs) vs bd) (tsG K mg (Γ.at Fs) W mb) D' σ H1 := by
    refine ⟨F, L, ρ, st, rl, (SPost.s q rl).imp fun F1 L1 H1 st1 ds s1 o1 q1 J hJ => ⟨F1, ?_⟩⟩
    have b := rl.step s1 o1
    refine ⟨fun i m σ' H' => m + i = ds.length ∧ ∃ F' L' ρ' st', Rl K mg (Γ.at F1) F' L' σ' H' ρ' st' ∧ SPost K mg (Γ.at F1) W D' (forGo bd mb (ds.drop i) ρ' st'), ⟨ds.length, rfl, F1, L1, ρ, st1, b.anchor, q1.anchor b⟩, ?_⟩
    rintro i m σ' H' ⟨hm, F', L', ρ', st', rl', q'⟩
    obtain ⟨hstop, hgo⟩ := hJ F' L' H' st' rl'.stp.ex rl'.sto
    by_cases hi : i < ds.length
    · right
      rw [drop_cons hi] at q'
      unfold forGo at q'
      obtain ⟨g1, g2⟩ := hgo i ds[i] (List.getElem?_eq_getElem hi)
      refine ⟨g1, fun σ2 H2 => ∃ F2 L2 ρ2 st2, Rl K mg (Γ.at F1) F2 L2 σ2 H2 ρ2 st2 ∧ SPost K mg (Γ.at F1) W D' (forGo bd mb (ds.drop (i + 1)) ρ2 st2), fun σ2 H2 h => ⟨m - 1, by omega, by omega, h⟩, fun x H2 y => ?_⟩
      obtain ⟨F2, s2, o2, r2⟩ := g2 x H2 y
      have rl2 := rl'.step s2 o2
      cases hb1 : bd ds[i] ρ' with
      | none => rw [hb1] at q'; exact q'.elim
      | some ρ1 =>
        rw [hb1] at q'
        refine ⟨F2, L', ρ', st', ds[i], ρ1, rl2, r2, hb1, fun σ3 _ rl3 => ⟨F2, L', ρ1, st', rl3, ?_⟩⟩
        dsimp only at q'
        cases hb2 : mb ρ1 st' with
        | nx ρ2 st2 => rw [hb2] at q'; exact fun F3 L3 σ4 H4 rl4 => ⟨F3, L3, ρ2, st2, rl4, q'⟩
        | ct ρ2 st2 => rw [hb2] at q'; exact fun F3 L3 σ4 H4 rl4 => ⟨F3, L3, ρ2, st2, rl4, q'⟩
        | bk ρ2 st2 => rw [hb2] at q'; exact q'
        | rt d st2 => rw [hb2] at q'; exact q'
        | exc c fs ρ2 st2 => rw [hb2] at q'; exact q'
        | bad => rw [hb2] at q'; exact q'.elim
    · left
      have e : i = ds.length := by omega
      subst e
      rw [List.drop_length] at q'
      exact ⟨hstop, q' F' L' σ' H' rl'⟩
  -- the statement's own rule, at a reading of target and body that is chosen when the iterator stands
  have g' : PG X tg (fun v σ H Q => ∃ Fs, tgG K mg (Γ.at Fs) vs bd v σ H Q) := ⟨fun pins s σ H v u Q I r ⟨Fs, q⟩ => (hg (Γ.at Fs)).run pins s σ H v u Q I r q⟩
  have b' : PSs X stmts (fun D σ H => ∃ Fs, tsG K mg (Γ.at Fs) W mb D σ H) := ⟨fun pins s σ H D I ⟨Fs, q⟩ => (hb (Γ.at Fs) rfl).run pins s σ H D I q⟩
  refine (ps_for hp hc hi g' b' hs).run pins s σ H D' I ?_
  obtain ⟨F, L, ρ, st, rl, k⟩ := key
  refine ⟨F, L, ρ, st, rl, k.imp fun F1 L1 H1 st1 ds s1 o1 q1 J hJ => ?_⟩
  obtain ⟨Fs, Wi, hW, turn⟩ := q1 J hJ
  refine ⟨Wi, hW, fun i m σ' H' w => ?_⟩
  rcases turn i m σ' H' w with h | ⟨g1, N, hN, g2⟩
  · exact .inl h
  · exact .inr ⟨g1, N, hN, fun x H2 y => ⟨Fs, by
      obtain ⟨F, L, ρ, st, d, ρ', r1, r2, r3, r4⟩ := g2 x H2 y
      exact ⟨F, L, ρ, st, d, ρ', r1, r2, r3, fun σ' o rl' => ⟨Fs, r4 σ' o rl'⟩⟩⟩⟩

/-! ### while -/
def whileGo (t : TDen) (body : SDen) : Nat → REnv → Store → SR
  | 0, _, _ => .bad
  | n + 1, ρ, st => (t ρ st).s ρ fun b st1 => if b then (match body ρ st1 with
    | .nx ρ2 st2 => whileGo t body n ρ2 st2
    | .ct ρ2 st2 => whileGo t body n ρ2 st2
    | .bk ρ2 st2 => .nx ρ2 st2
    | r => r) else .nx ρ st1
def sWhile (n : Nat) (t : TDen) (body : SDen) : SDen := fun ρ st => whileGo t body n ρ st
theorem s_while (n : Nat) (hp : PassesOwn (model X.prog X.w) X.A X.env X.xe) (ht : PT X c (ttG K mg Γ W t)) (hb : PSs X stmts (tsG K mg Γ W mb)) : PS X (.While c stmts [] pos) (tsG K mg Γ W (sWhile n t mb)) := by
  refine ps_imp (ps_while hp ht hb) fun D' σ H ⟨F, L, ρ, st, rl, q⟩ => ?_
  refine ⟨fun m σ' H' => ∃ F' L' ρ' st', Rl K mg Γ F' L' σ' H' ρ' st' ∧ SPost K mg Γ W D' (whileGo t mb m ρ' st'), ⟨n, F, L, ρ, st, rl, q⟩, ?_⟩
  rintro m σ' H' ⟨F', L', ρ', st', rl', q'⟩
  cases m with
  | zero => exact q'.elim
  | succ m =>
    unfold whileGo at q'
    refine ⟨F', L', ρ', st', rl', (SPost.s q' rl').imp fun F1 L1 H1 st1 b s1 o1 q1 => ?_⟩
    have rl1 := rl'.step s1 o1
    cases b with
    | false => exact iteF (q1 F1 L1 σ' H1 rl1)
    | true =>
      refine iteT ⟨fun σ2 H2 => ∃ F' L' ρ' st', Rl K mg Γ F' L' σ2 H2 ρ' st' ∧ SPost K mg Γ W D' (whileGo t mb m ρ' st'), fun σ2 H2 h => ⟨m, Nat.lt_succ_self m, h⟩, F1, L1, ρ', st1, rl1, ?_⟩
      rw [if_pos rfl] at q1
      cases hb2 : mb ρ' st1 with
      | nx ρ2 st2 => rw [hb2] at q1; exact fun F3 L3 σ4 H4 rl4 => ⟨F3, L3, ρ2, st2, rl4, q1⟩
      | ct ρ2 st2 => rw [hb2] at q1; exact fun F3 L3 σ4 H4 rl4 => ⟨F3, L3, ρ2, st2, rl4, q1⟩
      | bk ρ2 st2 => rw [hb2] at q1; exact q1
      | rt d st2 => rw [hb2] at q1; exact q1
      | exc c fs ρ2 st2 => rw [hb2] at q1; exact q1
      | bad => rw [hb2] at q1; exact q1.elim
end

/-! ### comprehensions -/
abbrev W0 : WX := fun _ _ _ _ => False
def noX {α : Type} (r : RC α) : RC α := match r with
  | .exc _ _ _ => .bad
  | r => r
def compGo (bd : BDen) (t : TDen) (me : EDen) (ρ : REnv) : List D → Store → RC (List D)
  | [], st => .ok [] st
  | d :: ds, st => match bd d ρ with
    | none => .bad
    | some ρ1 => (t ρ1 st).bind fun b st1 => if b then (me ρ1 st1).bind fun y st2 => if isLoc y then .bad else (compGo bd t me ρ ds st2).bind fun ys st3 => .ok (y :: ys) st3
      else compGo bd t me ρ ds st1
def wipeR (ρ : REnv) : List Nat → REnv
  | [] => ρ
  | v :: vs => (wipeR ρ vs).set v .un
def tYes : TDen := fun _ st => .ok true st
/-- [elt for target in iter if ..]; vs: the slots of its own names -/
def eComp (mi : LDen) (bd : BDen) (t : TDen) (me : EDen) (vs : List Nat) : EDen := fun ρ st => (mi ρ st).bind fun ds st1 => if ds.length < 100000 then (noX (compGo bd t me (wipeR ρ vs) ds st1)).bind fun ys st2 => .ok (.lst ys) st2 else .bad
section
variable {X : Cx} {K : PySem.W.Frag} {mg : Glob} {Γ : Ent} {W : WX} {tg iter elt : Expr} {ifs : List Expr} {pos p : Pos} {bd : BDen} {mi : LDen} {me : EDen} {t : TDen} {scope : Scope} {own : List (Str × Nat)} {ws : List Nat}
theorem Post.noX {α : Type} {F H : Hp} {L : List Addr} {σ σ' : St} {r : RC α} {ok : Hp → List Addr → Hp → Store → α → Prop} (h : Post K mg W σ F L H (noX r) ok) : Post K mg W0 σ' F L H r ok := by
  cases r with
  | ok d st => exact h
  | exc c fs st => exact h.elim
  | bad => exact h.elim
theorem Rl.wipe {F H : Hp} {L : List Addr} {σ : St} {ρ : REnv} {st : Store} (r : Rl K mg Γ F L σ H ρ st) : ∀ vs : List Nat, Rl K mg Γ F L (L2.wipe σ vs) H (wipeR ρ vs) st
  | [] => r
  | v :: vs => (Rl.wipe r vs).setU v none
theorem wipe_off {σ σ' : St} {vs ws : List Nat} (h : OffS vs (wipe σ ws) σ') (hs : ∀ j ∈ vs, j ∈ ws) : wipe σ' ws = wipe σ ws := by
  have idem : ∀ j, j ∈ ws → ∀ τ : St, j < τ.length → (wipe τ ws)[j]? = some none := by
    clear h hs
    induction ws with
    | nil => intro j hj; simp at hj
    | cons v ws ih =>
      intro j hj τ hl
      unfold wipe
      by_cases e : v = j
      · subst e
        rw [List.getElem?_set_self (by rw [wipe_length]; exact hl)]
      · rw [List.getElem?_set_ne e]
        rcases List.mem_cons.mp hj with z | z
        · exact absurd z.symm e
        · exact ih j z τ hl
  apply List.ext_getElem?
  intro j
  by_cases hj : j ∈ ws
  · have hl : σ'.length = σ.length := by rw [h.1, wipe_length]
    by_cases hb : j < σ.length
    · rw [idem j hj σ' (by omega), idem j hj σ hb]
    · rw [List.getElem?_eq_none (by rw [wipe_length]; omega), List.getElem?_eq_none (by rw [wipe_length]; omega)]
  · rw [wipe_out hj, h.2 j (fun z => hj (hs j z))]
theorem comp_core {F1 H1 : Hp} {L1 : List Addr} {σ : St} {ρ : REnv} {st1 : Store} {ds : List D} {J : It} {Q : VK} {vs : List Nat} (hw : ∀ j ∈ ws, j ∈ vs) (rl1 : Rl K mg Γ F1 L1 σ H1 ρ st1) (hlen : ds.length < 100000) (hJ : ItC K mg J ds F1 L1 H1)
    (q2 : Post K mg W σ F1 L1 H1 (noX (compGo bd t me (wipeR ρ vs) ds st1)) (fun F' L' H' _ ys => ∀ v, kO K mg σ H1 ρ F' L' H' (.lst ys) v → Q v H')) : ∀ Dl, H1 Dl = none → ∃ Wi : Nat → Nat → Hp → Prop, (∃ m, Wi 0 m (upd H1 Dl (.lst []))) ∧ ∀ i m H, Wi i m H →
      (J.stop i H ∧ Q (.ref Dl) H) ∨ (J.go i H ∧ ∃ Nx : Hp → Prop, (∀ H', Nx H' → ∃ m', m' < m ∧ Wi (i + 1) m' H') ∧ ∀ x H', J.yld i H x H' → tgG K mg Γ ws bd x (L2.wipe σ vs) H' fun σ2 H2 => L2.wipe σ2 vs = L2.wipe σ vs ∧ ttG K mg Γ W0 t σ2 H2 fun b H3 =>
        if b = true then teV K mg Γ W0 me σ2 H3 fun y H4 => ∃ acc, H4 Dl = some (.lst acc) ∧ acc.length < sizeLine ∧ Nx (upd H4 Dl (.lst (acc ++ [y]))) else Nx H3) := by
  intro Dl nD
  cases hgo : compGo bd t me (wipeR ρ (vs)) ds st1 with
  | exc c fs st' => rw [hgo] at q2; exact q2.elim
  | bad => rw [hgo] at q2; exact q2.elim
  | ok total stE =>
    rw [hgo] at q2
    have q2 : Post K mg W σ F1 L1 H1 (.ok total stE) _ := q2
    let Inv' : Nat → Nat → Hp → Prop := fun i m H' => m + i = ds.length ∧ ∃ F' L' st' acc accD rest, Stp F1 L1 H1 F' L' H' ∧ Sto K mg F' L' H' st' ∧ F' Dl = none ∧ Dl ∉ L' ∧ H' Dl = some (.lst acc) ∧ RepL K mg F' accD acc ∧ accD.length ≤ i ∧
      compGo bd t me (wipeR ρ (vs)) (ds.drop i) st' = .ok rest stE ∧ accD ++ rest = total
    have nF1 : F1 Dl = none := rl1.sto.ex.free nD
    have nL1 : Dl ∉ L1 := rl1.newL nD
    refine ⟨Inv', ⟨ds.length, rfl, F1, L1, st1, [], [], total, Stp.fresh nD, rl1.sto.fresh nD, nF1, nL1, upd_same, rfl, Nat.le_refl 0, hgo, rfl⟩, ?_⟩
    rintro i m H' ⟨hm, F', L', st', acc, accD, rest, s', o', nF', nL', hD, hr, hlA, hc', hT⟩
    obtain ⟨hstop, hgo'⟩ := hJ F' L' H' st' s' o'
    by_cases hi : i < ds.length
    · right
      rw [drop_cons hi] at hc'
      unfold compGo at hc'
      obtain ⟨g1, g2⟩ := hgo' i ds[i] (List.getElem?_eq_getElem hi)
      refine ⟨g1, Inv' (i + 1) (m - 1), fun H2 h => ⟨m - 1, by omega, h⟩, fun x H2 y => ?_⟩
      obtain ⟨F2, s2, o2, r2⟩ := g2 x H2 y
      have rl2 : Rl K mg Γ F2 L' (wipe σ (vs)) H2 (wipeR ρ (vs)) st' := ((rl1.step s' o').step s2 o2).wipe _
      have hD2 := s2.kp Dl _ hD nL'
      cases hb1 : bd ds[i] (wipeR ρ (vs)) with
      | none => rw [hb1] at hc'; cases hc'
      | some ρ1 =>
        rw [hb1] at hc'
        dsimp only at hc'
        refine ⟨F2, L', _, st', ds[i], ρ1, rl2, r2, hb1, fun σ3 off rl3 => ⟨wipe_off off hw, F2, L', ρ1, st', rl3, ?_⟩⟩
        cases ht1 : t ρ1 st' with
        | bad => rw [ht1] at hc'; cases hc'
        | exc c fs st2 => rw [ht1] at hc'; cases hc'
        | ok b st2 =>
          rw [ht1] at hc'
          simp only [RC.bind_ok] at hc'
          intro F3 L3 H3 s3 o3
          have hD3 := s3.kp Dl _ hD2.1 hD2.2.2
          have rl4 := rl3.step s3 o3
          cases b with
          | false =>
            refine iteF ⟨by omega, F3, L3, st2, acc, accD, rest, (s'.trans s2).trans s3, o3, ?_, hD3.2.2, hD3.1, RepL.mono s3.ex _ (RepL.mono s2.ex _ hr), by omega, ?_, hT⟩
            · rw [hD3.2.1, hD2.2.1]; exact nF'
            · simpa using hc'
          | true =>
            rw [if_pos rfl] at hc'
            refine iteT ⟨F3, L3, ρ1, st2, rl4, ?_⟩
            cases he1 : me ρ1 st2 with
            | bad => rw [he1] at hc'; cases hc'
            | exc c fs st3 => rw [he1] at hc'; cases hc'
            | ok y st3 =>
              rw [he1] at hc'
              simp only [RC.bind_ok] at hc'
              intro F4 L4 H4 s4 o4 v kv
              have hD4 := s4.kp Dl _ hD3.1 hD3.2.2
              split at hc'
              · cases hc'
              · rename_i hloc
                have ry : Rep K mg F4 y v := VRep.flat kv (by simpa using hloc)
                cases hc2 : compGo bd t me (wipeR ρ (vs)) (ds.drop (i + 1)) st3 with
                | bad => rw [hc2] at hc'; cases hc'
                | exc c fs st4 => rw [hc2] at hc'; cases hc'
                | ok ys st4 =>
                  rw [hc2] at hc'
                  simp only [RC.bind_ok, RC.ok.injEq] at hc'
                  obtain ⟨e1, e2⟩ := hc'
                  subst e2
                  have nF4 : F4 Dl = none := by rw [hD4.2.1, hD3.2.1, hD2.2.1]; exact nF'
                  have lA : acc.length = accD.length := hr.length.symm
                  refine ⟨acc, hD4.1, by rw [sizeLine_eq]; omega, by omega, F4, L4, st3, acc ++ [v], accD ++ [y], ys, ?_, ?_, nF4, hD4.2.2, upd_same, ?_, by rw [List.length_append]; show accD.length + 1 ≤ i + 1; omega, hc2, ?_⟩
                  · have s5 := ((s'.trans s2).trans s3).trans s4
                    refine ⟨s5.ex, s5.pre, fun b u h n => ?_⟩
                    obtain ⟨k1, k2, k3⟩ := s5.kp b u h n
                    have hb : b ≠ Dl := ne_of_none h nD
                    exact ⟨by rw [upd_ne hb]; exact k1, k2, k3⟩
                  · refine ⟨fun b u h => ?_, o4.nd, o4.len, fun n b u h1 h2 => ?_⟩
                    · have hb : b ≠ Dl := fun z => by rw [z, nF4] at h; cases h
                      rw [upd_ne hb]; exact o4.ex b u h
                    · obtain ⟨k1, k2⟩ := o4.at_ n b u h1 h2
                      have hb : b ≠ Dl := fun z => hD4.2.2 (z ▸ List.mem_of_getElem? h1)
                      exact ⟨k1, k2.mono (Ex.refl F4) fun w z => by rw [upd_ne hb]; exact z⟩
                  · exact (RepL.mono s4.ex _ (RepL.mono s3.ex _ (RepL.mono s2.ex _ hr))).snoc ry
                  · rw [List.append_assoc]
                    show accD ++ (y :: ys) = total
                    rw [e1]; exact hT
    · left
      have e : i = ds.length := by omega
      subst e
      rw [List.drop_length] at hc'
      unfold compGo at hc'
      cases hc'
      rw [List.append_nil] at hT
      subst hT
      refine ⟨hstop, ?_⟩
      exact q2 F' L' H' s' o' _ ⟨Dl, rfl, nD, nF', nL', acc, hD, hr⟩
theorem g_comp {wi : TI} (hc : X.calm = true) (hN : X.N.Nodup) (hi : PI X tg iter (tiC K mg Γ W mi)) (ok : BlkOk X.N X.env.scope scope own)
    (hg : ∀ (s : Shared) (H : Hp) (C : Addr) (cl : List (Str × Addr)) (fp : List Addr), PG (X.blk s H scope (compEnvC scope cl C X.env) fp) tg (tgG K mg Γ ws bd))
    (ht : ∀ (s : Shared) (H : Hp) (C : Addr) (cl : List (Str × Addr)) (fp : List Addr), PTs (X.blk s H scope (compEnvC scope cl C X.env) fp) ifs (ttG K mg Γ W0 t))
    (he : ∀ (s : Shared) (H : Hp) (C : Addr) (cl : List (Str × Addr)) (fp : List Addr), PE (X.blk s H scope (compEnvC scope cl C X.env) fp) elt (teV K mg Γ W0 me)) (hw : ∀ j ∈ ws, j ∈ own.map (·.2) := by decide) :
    ∀ σ H Q, teO K mg Γ W (eComp mi bd t me (own.map (·.2))) σ H Q → tLc (tiC K mg Γ W mi) (tgG K mg Γ ws bd) (ttG K mg Γ W0 t) (teV K mg Γ W0 me) (own.map (·.2)) σ H Q := by
  rintro σ H Q ⟨F, L, ρ, st, rl, q⟩
  refine ⟨F, L, ρ, st, rl, q.bind.imp fun F1 L1 H1 st1 ds s1 o1 q1 J hJ => ?_⟩
  split at q1
  · rename_i hlen
    exact comp_core hw (rl.step s1 o1) hlen hJ (q1.bind.imp fun F2 L2 H2 st2 ys s2 o2 q2 v kv => q2.here o2 v (kO_late (fun a h => s1.more o1 a h) kv))
  · exact q1.elim
end
end Gh
/-! Gh7: comprehensions as rules; objects changed; lists and dicts changed; try, raise; defs. -/
namespace Gh
open L2 PyProof.Rows PySem.Spec PySem
section
variable {X : Cx} {K : PySem.W.Frag} {mg : Glob} {Γ : Ent} {W : WX} {tg iter elt : Expr} {ifs : List Expr} {pos p spos py : Pos} {bd : BDen} {mi : LDen} {me : EDen} {t : TDen} {scope : Scope} {own : List (Str × Nat)} {ws : List Nat}
theorem ts_nil : PTs X [] (ttG K mg Γ W tYes) := ⟨fun pins s σ H Q I ⟨F, L, ρ, st, rl, q⟩ => pts_nil.run pins s σ H Q I (q.here rl.sto)⟩
theorem ts_one {c : Expr} (h : PT X c (ttG K mg Γ W t)) : PTs X [c] (ttG K mg Γ W t) := pts_one h
theorem g_lc (hc : X.calm = true) (hN : X.N.Nodup) (hi : PI X tg iter (tiC K mg Γ W mi)) (ok : BlkOk X.N X.env.scope scope own)
    (hg : ∀ (s : Shared) (H : Hp) (C : Addr) (cl : List (Str × Addr)) (fp : List Addr), PG (X.blk s H scope (compEnvC scope cl C X.env) fp) tg (tgG K mg Γ ws bd))
    (ht : ∀ (s : Shared) (H : Hp) (C : Addr) (cl : List (Str × Addr)) (fp : List Addr), PTs (X.blk s H scope (compEnvC scope cl C X.env) fp) ifs (ttG K mg Γ W0 t))
    (he : ∀ (s : Shared) (H : Hp) (C : Addr) (cl : List (Str × Addr)) (fp : List Addr), PE (X.blk s H scope (compEnvC scope cl C X.env) fp) elt (teV K mg Γ W0 me)) (hw : ∀ j ∈ ws, j ∈ own.map (·.2) := by decide) (hs : ∀ x, foldedSetIterable iter X.env x = pure x := by intro _; rfl) :
    PE X (.ListComp elt [⟨tg, iter, ifs, 0⟩] scope pos) (teO K mg Γ W (eComp mi bd t me (own.map (·.2)))) :=
  pe_imp (pe_lc hc hN hi ok hg ht he hs) (g_comp (wi := tiC K mg Γ W mi) hc hN hi ok hg ht he hw)
theorem s_asgLc {i : Nat} {y : Str} (hc : X.calm = true) (hN : X.N.Nodup) (hsw : swapsWith (.ListComp elt [⟨tg, iter, ifs, 0⟩] scope pos) (some (.Name y py)) spos.line X.env = pure true) (hi : PI X tg iter (tiC K mg Γ W mi)) (ok : BlkOk X.N X.env.scope scope own)
    (hg : ∀ (s : Shared) (H : Hp) (C : Addr) (cl : List (Str × Addr)) (fp : List Addr), PG (X.blk s H scope (compEnvC scope cl C X.env) fp) tg (tgG K mg Γ ws bd))
    (ht : ∀ (s : Shared) (H : Hp) (C : Addr) (cl : List (Str × Addr)) (fp : List Addr), PTs (X.blk s H scope (compEnvC scope cl C X.env) fp) ifs (ttG K mg Γ W0 t))
    (he : ∀ (s : Shared) (H : Hp) (C : Addr) (cl : List (Str × Addr)) (fp : List Addr), PE (X.blk s H scope (compEnvC scope cl C X.env) fp) elt (teV K mg Γ W0 me)) (hw : ∀ j ∈ ws, j ∈ own.map (·.2) := by decide)
    (hy : X.N[i]? = some y := by rfl) (hyl : X.env.scope.names.lookup y = some .local := by rfl) (hs : ∀ x, foldedSetIterable iter X.env x = pure x := by intro _; rfl) :
    PS X (.Assign [.Name y py] (.ListComp elt [⟨tg, iter, ifs, 0⟩] scope pos) spos) (tsG K mg Γ W (sAsgO i (eComp mi bd t me (own.map (·.2))))) := by
  refine ps_imp (ps_setLc hc hN hy hyl hsw hi ok hg ht he hs) fun D' σ H ⟨F, L, ρ, st, rl, q⟩ => ?_
  have h : teO K mg Γ W (eComp mi bd t me (own.map (·.2))) σ H fun v H' => D'.nx (σ.set i (some v)) H' :=
    ⟨F, L, ρ, st, rl, (SPost.s q rl).imp fun F' L' H' st' d s o q' v kv => by
      obtain ⟨a, rfl, n, nF, nL, hs⟩ := kv
      exact q' F' L' _ H' (rl.setN s o i n nF nL hs)⟩
  exact g_comp (wi := tiC K mg Γ W mi) hc hN hi ok hg ht he hw σ H _ h
/-- a slot's own list, as a value from now on -/
def sVal (i : Nat) (s : SDen) : SDen := fun ρ st => match s ρ st with
  | .nx ρ' st' => .nx (frzE ρ' i) st'
  | r => r
theorem s_val {st0 : Stmt} {sa : SDen} (i : Nat) (h : PS X st0 (tsG K mg Γ W sa)) : PS X st0 (tsG K mg Γ W (sVal i sa)) := by
  refine ps_imp h fun D' σ H ⟨F, L, ρ, st, rl, q⟩ => ⟨F, L, ρ, st, rl, ?_⟩
  unfold sVal at q
  cases hs : sa ρ st with
  | nx ρ' st' =>
    rw [hs] at q
    intro F' L' σ' H' rl'
    obtain ⟨F2, rl2⟩ := rl'.frzE i
    exact q F2 L' σ' H' rl2
  | _ => rw [hs] at q; exact q
end

/-! ### objects of the store changed -/
section
variable {X : Cx} {K : PySem.W.Frag} {mg : Glob} {Γ : Ent} {W : WX} {o e v a b : Expr} {es : List Expr} {m ma mb mo mv : EDen} {pos p tpos apos cpos : Pos}
/-- an object of the store gets other contents -/
theorem Sto.put {F H : Hp} {L : List Addr} {st : Store} {n : Nat} {a : Addr} {d : D} {u : HO} (x : Sto K mg F L H st) (h1 : L[n]? = some a) (hs : ∀ H', H' a = some u → Has K mg F H' a d) : Sto K mg F L (upd H a u) (st.set n d) := by
  have nF : F a = none := (x.mem (List.mem_of_getElem? h1)).1
  refine ⟨fun b u q => ?_, x.nd, by rw [List.length_set]; exact x.len, fun k b w q1 q2 => ?_⟩
  · have hb : b ≠ a := fun z => by rw [z, nF] at q; cases q
    rw [upd_ne hb]
    exact x.ex b u q
  · rcases set_get q2 with ⟨rfl, rfl, hl⟩ | ⟨hn, q2⟩
    · rw [h1] at q1
      cases q1
      exact ⟨nF, hs _ upd_same⟩
    · obtain ⟨k1, k2⟩ := x.at_ k b w q1 q2
      have hb : b ≠ a := fun z => by
        subst z
        obtain ⟨l1, e1⟩ := List.getElem?_eq_some_iff.mp q1
        obtain ⟨l2, e2⟩ := List.getElem?_eq_some_iff.mp h1
        exact hn ((List.getElem_inj x.nd).mp (e1.trans e2.symm))
      exact ⟨k1, k2.mono (Ex.refl F) fun w z => by rw [upd_ne hb]; exact z⟩
theorem Stp.put {F H : Hp} {L : List Addr} {a : Addr} {u : HO} (h : a ∈ L) : Stp F L H F L (upd H a u) :=
  ⟨Ex.refl F, ⟨[], (List.append_nil L).symm⟩, fun b w q n => ⟨by rw [upd_ne (fun z => n (by rw [z]; exact h))]; exact q, rfl, n⟩⟩
/-- o.f = v, o an object of the store, of a class of cs -/
def sAtt (f : Str) (cs : List Str) (mo mv : EDen) : SDen := fun ρ st => (mv ρ st).s ρ fun x st1 => (mo ρ st1).s ρ fun y st2 => match y with
  | .loc n => (match st2[n]? with
    | some (.ins c fs) => if c ∈ cs ∧ isLoc x = false ∧ fs.length < 1000 then .nx ρ (st2.set n (.ins c (putFD f x fs))) else .bad
    | _ => .bad)
  | _ => .bad
theorem s_att {fn : Str} {cs : List Str} {pos' : Pos} (hK : X.K = K) (A : AttOk K mg fn cs) (ho : PE X o (teV K mg Γ W mo)) (hv : PE X v (teV K mg Γ W mv)) (hs : swapsWith v (some (.Attribute o fn pos')) pos.line X.env = pure false := by rfl) :
    PS X (.Assign [.Attribute o fn pos'] v pos) (tsG K mg Γ W (sAtt fn cs mo mv)) := by
  refine ps_imp (ps_fld ho hv hs) fun D' σ H ⟨F, L, ρ, st, rl, q⟩ => ⟨F, L, ρ, st, rl, (SPost.s q rl).imp fun F1 L1 H1 st1 x s1 o1 q1 u ku => ?_⟩
  have rl1 := rl.step s1 o1
  refine ⟨F1, L1, ρ, st1, rl1, (SPost.s q1 rl1).imp fun F2 L2 H2 st2 y s2 o2 q2 w kw => ?_⟩
  have rl2 := rl1.step s2 o2
  split at q2
  · rename_i n
    split at q2
    · rename_i c fs e
      split at q2
      · rename_i hc
        obtain ⟨hc1, hc2, hc3⟩ := hc
        obtain ⟨a, h1, rfl⟩ := kw.loc
        obtain ⟨nF, C, dx, fv, h2, h3, h4⟩ := o2.at_ n a _ h1 e
        obtain ⟨cl, na⟩ := A c hc1 C h2
        have ru : Rep K mg F2 x u := VRep.flat (s2.vrep ku) hc2
        refine ⟨a, C, dx, fv, rfl, h3, by rw [hK]; exact cl, by rw [hK]; exact na, by rw [← h4.length]; exact hc3, ?_⟩
        have o3 := o2.put (d := .ins c (putFD fn x fs)) (u := .ins C dx (putF fn u fv)) h1 fun H' h => ⟨C, dx, _, h2, h, h4.put ru fn⟩
        exact q2 F2 L2 σ _ (rl2.step (Stp.put (List.mem_of_getElem? h1)) o3)
      · exact q2.elim
    · exact q2.elim
  · exact q2.elim
/-- x.append(e), x a list of the frame's own -/
def sApp (i : Nat) (m : EDen) : SDen := fun ρ st => match ρ[i]? with
  | some (.own (.lst ds)) => (m ρ st).s ρ fun d st1 => if ds.length < 100000 ∧ isLoc d = false then .nx (ρ.set i (.own (.lst (ds ++ [d])))) st1 else .bad
  | _ => .bad
theorem s_app (i : Nat) {x : Str} {px : Pos} (hK : X.K = K) (h : PE X e (teV K mg Γ W m)) (hN : X.N[i]? = some x := by rfl) (hv : Vis X.env.scope x := by first | exact Or.inl rfl | exact Or.inr (Or.inl rfl) | exact Or.inr (Or.inr rfl)) (hd : (x == ("__debug__" : Str)) = false := by decide)
    (hcd : (x == ("__classdict__" : Str)) = false := by decide) (hsw : swapsWith (.Call (.Attribute (.Name x px) "append" apos) [e] [] cpos) none pos.line X.env = pure false := by rfl)
    (hbase : attributeBase (.Name x px) "append" X.env (eval (.Name x px) X.env) = eval (.Name x px) X.env := by rfl)
    (hfew : ((backTo cpos (starEach (e :: []) X.env)).all (fun x => !x.1) && (backToKw cpos (keywordEach [] X.env)).all (fun x => x.1.isSome)
      && decide ((e :: ([] : List Expr)).length + ([] : List Keyword).length + (if ([] : List Keyword).isEmpty then 0 else 1) < 30)) = true := by rfl)
    (hline : (apos.endLine == cpos.line) = true := by rfl) (hs : starEach (e :: []) X.env = (false, eval e X.env) :: starEach [] X.env := by rfl) (hplain : (backTo cpos (starEach [] X.env)).any (·.1) = false := by rfl) :
    PS X (.Expr (.Call (.Attribute (.Name x px) "append" apos) [e] [] cpos) pos) (tsG K mg Γ W (sApp i m)) := by
  refine ps_imp (ps_expr (pe_bm PySem.F.plainAttrs_list PySem.F.slot_list_append PySem.F.type_list_append mt_append (pe_var hN hv hd hcd) (pa_cons h pa_nil hs) hbase hfew hline hs hplain) hsw) fun D' σ H ⟨F, L, ρ, st, rl, q⟩ => ?_
  unfold sApp at q
  split at q
  · rename_i ds ei
    obtain ⟨a, e1, nF, nL, n0, vs, h1, h2⟩ := rl.so i _ ei
    refine ⟨_, e1, .inl ⟨rfl, vs, .inl (.inl h1)⟩, F, L, ρ, st, rl, (SPost.s q rl).imp fun F1 L1 H1 st1 d s o q1 v kv => ?_⟩
    split at q1
    · rename_i hc
      obtain ⟨k1, k2, k3⟩ := s.kp a _ h1 nL
      have r := RepL.mono s.ex ds h2
      refine ⟨a, vs, v, rfl, rfl, k1, by rw [sizeLine_eq, ← h2.length]; omega, ?_⟩
      exact q1 F1 L1 σ _ ((rl.step s o).mut ei e1 fun H' h => ⟨_, h, r.snoc (VRep.flat kv hc.2)⟩)
    · exact q1.elim
  · exact q.elim
/-- x += e, x a list of the frame's own, e a list or a tuple -/
def sExt (i : Nat) (m : EDen) : SDen := fun ρ st => match ρ[i]? with
  | some (.own (.lst ds)) => (m ρ st).s ρ fun d st1 => match d with
    | .lst es => if ds.length + es.length < 100000 then .nx (ρ.set i (.own (.lst (ds ++ es)))) st1 else .bad
    | _ => .bad
  | _ => .bad
theorem pip_ext : PIp X .Add rExt2 := fun pins s σ H x y v u Q I r r2 q => iop_ext pins s σ H x y v u Q I r r2 q
theorem s_ext (i : Nat) {x : Str} {px : Pos} (hN : X.N.Nodup) (h : PE X e (teV K mg Γ W m)) (hi : X.N[i]? = some x := by rfl) (hx : Loc X.env.scope x := by first | exact Or.inl rfl | exact Or.inr rfl) (hf : X.fn x = true ∨ X.env.scope.names.lookup x = some .local := by first | exact .inl rfl | exact .inr rfl | assumption) :
    PS X (.AugAssign (.Name x px) .Add e pos) (tsG K mg Γ W (sExt i m)) := by
  refine ps_imp (ps_aug hN hi hx h pip_ext hf) fun D' σ H ⟨F, L, ρ, st, rl, q⟩ => ?_
  unfold sExt at q
  split at q
  · rename_i ds ei
    obtain ⟨a, e1, nF, nL, n0, vs, h1, h2⟩ := rl.so i _ ei
    refine ⟨_, e1, F, L, ρ, st, rl, (SPost.s q rl).imp fun F1 L1 H1 st1 d s o q1 v kv => ?_⟩
    split at q1
    · rename_i es
      split at q1
      · rename_i hc
        obtain ⟨k1, k2, k3⟩ := s.kp a _ h1 nL
        have r := RepL.mono s.ex ds h2
        rcases kv with ⟨_, _, e, _⟩ | ⟨b, us, rfl, g1, g2⟩
        · cases e
        · refine ⟨a, b, vs, us, rfl, rfl, k1, o.ex.lst g1, by rw [sizeLine_eq, ← h2.length, ← g2.length]; omega, ?_⟩
          have m := (rl.step s o).mut (o := .lst (vs ++ us)) (e := .lst (ds ++ es)) ei e1 fun H' h => ⟨_, h, r.append g2⟩
          have es' : σ.set i (some (V.ref a)) = σ := by
            apply List.ext_getElem?
            intro j
            by_cases hj : j = i
            · subst hj
              rw [List.getElem?_set_self (List.getElem?_eq_some_iff.mp e1).1, e1]
            · rw [List.getElem?_set_ne (Ne.symm hj)]
          show D'.nx (σ.set i (some (V.ref a))) _
          rw [es']
          exact q1 F1 L1 σ _ m
      · exact q1.elim
    · exact q1.elim
  · exact q.elim
/-- x op= e, values -/
def sAug (i : Nat) (g : Op2) (m : EDen) : SDen := fun ρ st => match ρ[i]? with
  | some (.val x) => (m ρ st).s ρ fun y st1 => (g x y st1).s ρ fun z st2 => .nx (ρ.set i (.val z)) st2
  | _ => .bad
theorem s_aug (i : Nat) {x : Str} {px : Pos} {op : Operator} {r : R2} {g : Op2} (ho : OpR X (inplaceOp op) r) (hsem : Sem2 kV K mg g r) (hN : X.N.Nodup) (h : PE X e (teV K mg Γ W m)) (hi : X.N[i]? = some x := by rfl) (hx : Loc X.env.scope x := by first | exact Or.inl rfl | exact Or.inr rfl)
    (hf : X.fn x = true ∨ X.env.scope.names.lookup x = some .local := by first | exact .inl rfl | exact .inr rfl | assumption) : PS X (.AugAssign (.Name x px) op e pos) (tsG K mg Γ W (sAug i g m)) := by
  refine ps_imp (ps_aug (ti := r) hN hi hx h (fun pins s σ H x y v u Q I r r2 q => ho pins s σ H x y v u Q I r r2 q) hf) fun D' σ H ⟨F, L, ρ, st, rl, q⟩ => ?_
  unfold sAug at q
  split at q
  · rename_i d ei
    obtain ⟨v, e1, kv⟩ := rl.sl i _ ei
    refine ⟨_, e1, F, L, ρ, st, rl, (SPost.s q rl).imp fun F1 L1 H1 st1 y s o q1 u ku => ?_⟩
    have rl1 := rl.step s o
    exact hsem Γ W F1 L1 σ H1 ρ st1 d y v u _ rl1 (.inl (s.vrep kv)) (.inl ku) ((SPost.s q1 rl1).imp fun F2 L2 H2 st2 z s2 o2 q2 w kw => q2 F2 L2 _ H2 ((rl1.step s2 o2).setV i kw))
  · exact q.elim
/-- d[k] = v, d a dict of the frame's own -/
def keyOf : D → Option Key
  | .int i => some (.inl i)
  | .str s => some (.inr s)
  | _ => none
theorem keyOf_v {d : D} {k : Key} {F : Hp} {L : List Addr} {v : V} (h : keyOf d = some k) (r : VRep K mg L F d v) : v = L2.kV k := by
  cases d with
  | int i => cases h; exact r.int
  | str s => cases h; exact r.str
  | _ => cases h
def sDPut (i : Nat) (mk mv : EDen) : SDen := fun ρ st => (mv ρ st).s ρ fun x st1 => match ρ[i]? with
  | some (.own (.dct kvs)) => (mk ρ st1).s ρ fun y st2 => match keyOf y with
    | some k => if kvs.length < 100000 ∧ isLoc x = false then .nx (ρ.set i (.own (.dct (putD kvs k x)))) st2 else .bad
    | none => .bad
  | _ => .bad
theorem s_dput (i : Nat) {x : Str} {px pos' : Pos} {mk mv : EDen} (hu : X.A.units + 1 < cLine) (hk : PE X e (teV K mg Γ W mk)) (hv : PE X v (teV K mg Γ W mv)) (hN : X.N[i]? = some x := by rfl) (hvis : Vis X.env.scope x := by first | exact Or.inl rfl | exact Or.inr (Or.inl rfl) | exact Or.inr (Or.inr rfl))
    (hd : (x == ("__debug__" : Str)) = false := by decide) (hcd : (x == ("__classdict__" : Str)) = false := by decide) (hs : swapsWith v (some (.Subscript (.Name x px) e pos')) pos.line X.env = pure false := by rfl) :
    PS X (.Assign [.Subscript (.Name x px) e pos'] v pos) (tsG K mg Γ W (sDPut i mk mv)) := by
  refine ps_imp (ps_dput hu (pe_var hN hvis hd hcd) hk hv hs) fun D' σ H ⟨F, L, ρ, st, rl, q⟩ => ⟨F, L, ρ, st, rl, (SPost.s q rl).imp fun F1 L1 H1 st1 x s1 o1 q1 w kw => ?_⟩
  have rl1 := rl.step s1 o1
  split at q1
  · rename_i kvs ei
    obtain ⟨a, e1, nF, nL, n0, vs, h1, h2⟩ := rl1.so i _ ei
    refine ⟨_, e1, F1, L1, ρ, st1, rl1, (SPost.s q1 rl1).imp fun F2 L2 H2 st2 y s2 o2 q2 u ku => ?_⟩
    split at q2
    · rename_i k hk
      split at q2
      · rename_i hc
        obtain ⟨k1, k2, k3⟩ := s2.kp a _ h1 nL
        cases keyOf_v hk ku
        refine ⟨a, _, rfl, DPut.k (k := k) k1 (by rw [sizeLine_eq, ← h2.length]; omega), ?_⟩
        exact q2 F2 L2 σ _ ((rl1.step s2 o2).mut ei e1 fun H' h => ⟨_, h, (RepK.mono s2.ex _ h2).put k (VRep.flat (s2.vrep kw) hc.2)⟩)
      · exact q2.elim
    · exact q2.elim
  · exact q1.elim
end

/-! ### try, raise -/
section
variable {X : Cx} {K : PySem.W.Frag} {mg : Glob} {Γ : Ent} {W : WX} {e : Expr} {es : List Expr} {body suite : List Stmt} {b₀ : Stmt} {pos pos' np p : Pos} {mb mh : SDen} {ms : ADen}
/-- what is done with an exception's suite: the name's slot goes -/
def unset (i : Nat) (r : SR) : SR := match r with
  | .nx ρ st => .nx (ρ.set i .un) st
  | .bk ρ st => .bk (ρ.set i .un) st
  | .ct ρ st => .ct (ρ.set i .un) st
  | .rt d st => .rt d st
  | _ => .bad
/-- try: body, except x as n: suite; all: the classes that may come, cs: those that x takes -/
def sTryAs (i : Nat) (all cs : List Str) (mb mh : SDen) : SDen := fun ρ st => match mb ρ st with
  | .exc c fs ρ' st' => if c ∈ all then (if c ∈ cs then unset i (mh (ρ'.set i (.exc c fs)) st') else .exc c fs ρ' st') else .bad
  | r => r
def ExcAll (K : PySem.W.Frag) (mg : Glob) (h : Value) (all cs : List Str) : Prop := ∀ c ∈ all, ∀ C, mg c = some (.ref C) → PySem.W.exmOne K (.ref C) h = some (decide (c ∈ cs))
theorem s_tryAs {i : Nat} {x n : Str} {c : Value} {all cs : List Str} (hK : X.K = K) (hx0 : Γ.x = none) (hs : X.stack = X.env :: X.outer) (hf : X.env.frame = some X.env.locals) (hN : X.N.Nodup) (hc : Names X x c) (ha : ExcAll K mg c all cs) (tk : Takes X W)
    (hb : ∀ (W : WX) (pn : List (Addr × Obj)) (xe : Value → Shared → Prop), Takes (X.tr pn xe) W → PassesOwn (model X.prog X.w) X.A X.env xe → PSs (X.tr pn xe) body (tsG K mg Γ W mb))
    (hsu : ∀ (a : Addr) (oe : Obj) (cls : Value) (d : Option Addr) (pn : List (Addr × Obj)), Zc cls d oe → (∃ vs, oe.data = .fields vs) → PSs (X.suite a ((a, oe) :: pn)) (b₀ :: suite) (tsG K mg { Γ with x := some (i, a, cls, d) } W0 mh))
    (hi : X.N[i]? = some n := by rfl) (hln : X.env.kindOf n = some .local := by rfl) :
    PS X (.Try body [.ExceptHandler (some (.Name x np)) (some n) (b₀ :: suite) pos'] [] [] pos) (tsG K mg Γ W (sTryAs i all cs mb mh)) := by
  refine ps_imp (ps_try_as (ts := fun a cls d => tsG K mg { Γ with x := some (i, a, cls, d) } W0 mh) (tb := fun W => tsG K mg Γ W mb) hs hf hN hi hln hc tk hb hsu) fun D' σ H ⟨F, L, ρ, st, rl, q⟩ => ⟨F, L, ρ, st, rl, ?_⟩
  unfold sTryAs at q
  cases hm : mb ρ st with
  | exc c' fs ρ' st' =>
    rw [hm] at q
    dsimp only at q
    intro F' L' σ' H' cls dd rl' ex
    split at q
    · rename_i hall
      obtain ⟨C, d, fv, h1, rfl, rfl, h4, h5⟩ := id ex
      refine ⟨decide (c' ∈ cs), by rw [hK]; exact ha c' hall C h1, fun hy a na => ?_, fun hn => ?_⟩
      · have hin : c' ∈ cs := of_decide_eq_true hy
        rw [if_pos hin] at q
        have up : ∀ {F L σ H ρ st}, Rl K mg Γ F L σ H ρ st → Rl K mg { Γ with x := some (i, a, .ref C, some d) } F L σ H ρ st := fun r =>
          ⟨r.sto, r.stp, r.sl, r.so, r.sd, fun j c fs h => (by
            obtain ⟨_, _, _, z, _⟩ := r.sx j c fs h
            rw [hx0] at z
            cases z), r.len⟩
        have rl2 := (up rl').set i (.exc c' fs) (some (.ref a)) (fun e q => by cases q) (fun e q => by cases q) (fun c2 fs2 q => by cases q; exact ⟨a, _, _, rfl, rfl, ex⟩)
        have down : ∀ {F L σ H ρ st}, Rl K mg { Γ with x := some (i, a, .ref C, some d) } F L σ H ρ st → Rl K mg Γ F L (σ.set i none) H (ρ.set i .un) st := fun r => by
          have r' := r.setU i none
          refine ⟨r'.sto, r'.stp, r'.sl, r'.so, r'.sd, fun j c fs h => ?_, r'.len⟩
          obtain ⟨_, _, _, z, _⟩ := r'.sx j c fs h
          cases z
          rcases set_get h with ⟨_, z, _⟩ | ⟨z, _⟩
          · cases z
          · exact absurd rfl z
        refine ⟨F', L', _, st', rl2, ?_⟩
        cases hh : mh (ρ'.set i (.exc c' fs)) st' with
        | nx ρ2 st2 => rw [hh] at q; exact fun F3 L3 σ3 H3 r3 => q F3 L3 _ H3 (down r3)
        | bk ρ2 st2 => rw [hh] at q; exact fun F3 L3 σ3 H3 r3 => q F3 L3 _ H3 (down r3)
        | ct ρ2 st2 => rw [hh] at q; exact fun F3 L3 σ3 H3 r3 => q F3 L3 _ H3 (down r3)
        | rt d2 st2 => rw [hh] at q; exact fun F3 L3 σ3 H3 ρ3 v r3 kv => q F3 L3 _ H3 _ v (down r3) kv
        | exc c2 fs2 ρ2 st2 => rw [hh] at q; exact q.elim
        | bad => rw [hh] at q; exact q.elim
      · rw [if_neg (of_decide_eq_false hn)] at q
        exact q F' L' σ' H' _ _ rl' ex
    · exact q.elim
  | _ => rw [hm] at q; exact q
/-- .. without a name -/
def noXs (r : SR) : SR := match r with
  | .exc _ _ _ _ => .bad
  | r => r
def sTry (all cs : List Str) (mb mh : SDen) : SDen := fun ρ st => match mb ρ st with
  | .exc c fs ρ' st' => if c ∈ all then (if c ∈ cs then noXs (mh ρ' st') else .exc c fs ρ' st') else .bad
  | r => r
theorem s_try {x : Str} {c : Value} {all cs : List Str} (hK : X.K = K) (hs : X.stack = X.env :: X.outer) (hf : X.env.frame = some X.env.locals) (hc : Names X x c) (ha : ExcAll K mg c all cs) (tk : Takes X W)
    (hb : ∀ (W : WX) (pn : List (Addr × Obj)) (xe : Value → Shared → Prop), Takes (X.tr pn xe) W → PassesOwn (model X.prog X.w) X.A X.env xe → PSs (X.tr pn xe) body (tsG K mg Γ W mb))
    (hsu : ∀ (a : Addr) (oe : Obj) (cls : Value) (d : Option Addr) (pn : List (Addr × Obj)), Zc cls d oe → (∃ vs, oe.data = .fields vs) → PSs (X.suite a ((a, oe) :: pn)) (b₀ :: suite) (tsG K mg Γ W0 mh)) :
    PS X (.Try body [.ExceptHandler (some (.Name x np)) none (b₀ :: suite) pos'] [] [] pos) (tsG K mg Γ W (sTry all cs mb mh)) := by
  refine ps_imp (ps_try_only (ts := fun a cls d => tsG K mg Γ W0 mh) (tb := fun W => tsG K mg Γ W mb) hs hf hc tk hb hsu) fun D' σ H ⟨F, L, ρ, st, rl, q⟩ => ⟨F, L, ρ, st, rl, ?_⟩
  unfold sTry at q
  cases hm : mb ρ st with
  | exc c' fs ρ' st' =>
    rw [hm] at q
    dsimp only at q
    intro F' L' σ' H' cls dd rl' ex
    split at q
    · rename_i hall
      obtain ⟨C, d, fv, h1, rfl, rfl, h4, h5⟩ := id ex
      refine ⟨decide (c' ∈ cs), by rw [hK]; exact ha c' hall C h1, fun hy a na => ?_, fun hn => ?_⟩
      · rw [if_pos (of_decide_eq_true hy)] at q
        refine ⟨F', L', ρ', st', rl', ?_⟩
        cases hh : mh ρ' st' with
        | exc c2 fs2 ρ2 st2 => rw [hh] at q; exact q.elim
        | _ => rw [hh] at q; exact q
      · rw [if_neg (of_decide_eq_false hn)] at q
        exact q F' L' σ' H' _ _ rl' ex
    · exact q.elim
  | _ => rw [hm] at q; exact q
end

/-! ### an exception's own __init__ of one or two fields -/
def spInit2 (K : PySem.W.Frag) (f1 f2 : Str) : Sp := fun vs H Q E => ∃ (a C : Addr) (u w : V), vs = [.ref a, u, w] ∧ OexC K C ∧ PySem.W.findIn K (.ref C) f1 = some none ∧ PySem.W.findIn K (.ref C) f2 = some none ∧ H a = some (exo a C none) ∧
  ∀ dx, H dx = none → dx ≠ a → Q .non (upd (upd (upd H dx (exd dx [(f1, u)])) a (exo a C (some dx))) dx (exd dx [(f2, w), (f1, u)]))
def spInit1 (K : PySem.W.Frag) (f1 : Str) : Sp := fun vs H Q E => ∃ (a C : Addr) (u : V), vs = [.ref a, u] ∧ OexC K C ∧ PySem.W.findIn K (.ref C) f1 = some none ∧ H a = some (exo a C none) ∧
  ∀ dx, H dx = none → dx ≠ a → Q .non (upd (upd H dx (exd dx [(f1, u)])) a (exo a C (some dx)))
theorem read2 {K : PySem.W.Frag} {f1 f2 x y z : Str} {vs : List V} {H : Hp} {Q : VK} {E : XK} (h : spInit2 K f1 f2 vs H Q E) :
    (tSeq (tOst K f1 (tVar 0) (tVar 1)) (tOst K f2 (tVar 0) (tVar 2))) { nx := fun _ H' => Q .non H', rt := Q } (start [x, y, z] vs) H := by
  obtain ⟨a, C, u, w, rfl, T, n1, n2, ha, q⟩ := h
  refine ⟨u, rfl, .ref a, rfl, a, C, rfl, T, n1, .inl ⟨ha, fun dx nx ne => ?_⟩⟩
  refine ⟨w, rfl, .ref a, rfl, a, C, rfl, T, n2, .inr ⟨dx, [(f1, u)], upd_same, by rw [upd_ne ne, upd_same], by simp, q dx nx ne⟩⟩
theorem read1 {K : PySem.W.Frag} {f1 x y : Str} {vs : List V} {H : Hp} {Q : VK} {E : XK} (h : spInit1 K f1 vs H Q E) :
    (tOst K f1 (tVar 0) (tVar 1)) { nx := fun _ H' => Q .non H', rt := Q } (start [x, y] vs) H := by
  obtain ⟨a, C, u, rfl, T, n1, ha, q⟩ := h
  exact ⟨u, rfl, .ref a, rfl, a, C, rfl, T, n1, .inl ⟨ha, q⟩⟩
section
variable {X : Cx} {K : PySem.W.Frag} {mg : Glob} {Γ : Ent} {W : WX} {e e2 : Expr} {pos pos2 p : Pos} {ms : ADen} {kk : Nat} {c f1 f2 : Str} {C fI : Addr} {fd : FuncData} {ps : List Str}
def sRaise (c : Str) (fs : List Str) (ms : ADen) : SDen := fun ρ st => (ms ρ st).s ρ fun ds st' => if flatL ds = true ∧ ds.length = fs.length then .exc c (fs.zip ds).reverse ρ st' else .bad
theorem del_made {H : Hp} {a d : Addr} {o : HO} (na : H a = none) (ne : d ≠ a) (nd : H d = none) {H2 : Hp} (h : ∀ b, b ≠ a → b ≠ d → H2 b = H b) : upd (del H2 a) d o = upd H d o := by
  funext b
  by_cases hb : b = d
  · subst hb; rw [upd_same, upd_same]
  · rw [upd_ne hb, upd_ne hb]
    by_cases hc : b = a
    · subst hc; rw [del_same, na]
    · rw [del_ne hc, h b hc hb]
theorem s_raise2 (hK : X.K = K) (hcalm : X.calm = true) (tk : Takes X W) (T : OexC K C) (n1 : PySem.W.findIn K (.ref C) f1 = some none) (n2 : PySem.W.findIn K (.ref C) f2 = some none) (iC : PySem.W.findIn K (.ref C) "__init__" = some (some (.ref fI))) (tI : PySem.W.typeIn K (.ref fI) = some (.type "function"))
    (F1 : FnOk X.prog X.w X.K X.mg X.base (L2.CX X.prog X.w) kk fI fd ps (spInit2 K f1 f2)) (hr : Room (kk + 1) X.A) (hb : Binds X.K fd ps []) (hm : X.mg c = some (.ref C)) (hmg : mg c = some (.ref C)) (ha : PA X [e, e2] (taG K mg Γ W ms))
    (hg : Gl X c := by rfl) (hdb : (c == ("__debug__" : Str)) = false := by decide) (he : starEach (e :: [e2]) X.env = (false, eval e X.env) :: starEach [e2] X.env := by rfl) (hpl : (backTo pos (starEach [e2] X.env)).any (·.1) = false := by rfl) :
    PS X (.Raise (some (.Call (.Name c p) [e, e2] [] pos)) none pos2) (tsG K mg Γ W (sRaise c [f1, f2] ms)) := by
  subst hK
  refine ps_imp (ps_raise hcalm tk (pmk_oex T iC tI F1 hr hb .nil passL hg hm ha hdb he hpl)) fun D' σ H ⟨F, L, ρ, st, rl, q⟩ => ⟨F, L, ρ, st, rl, (SPost.s q rl).imp fun F1 L1 H1 st1 ds s o q1 vs kvs => ?_⟩
  split at q1
  · rename_i hc
    obtain ⟨h1, h2⟩ := hc
    match ds, h2, kvs with
    | [d1, d2], _, kvs =>
      have rr := kvs.flat h1
      obtain ⟨u, r, rfl, r1, w, r', rfl, r2, r3⟩ := rr
      cases (show r' = [] from r3)
      refine ⟨by show 2 ≤ 1000; decide, fun a na => ⟨a, C, u, w, rfl, T, n1, n2, upd_same, fun dx ndx ne => ?_⟩⟩
      have nd : H1 dx = none := by rw [upd_ne ne] at ndx; exact ndx
      refine ⟨rfl, dx, [(f2, w), (f1, u)], ?_, upd_same, nd, ?_⟩
      · rw [upd_ne (Ne.symm ne), upd_same]
      · have eq : upd (del (upd (upd (upd (upd H1 a (exo a C none)) dx (exd dx [(f1, u)])) a (exo a C (some dx))) dx (exd dx [(f2, w), (f1, u)])) a) dx (.xd [(f2, w), (f1, u)]) = upd H1 dx (.xd [(f2, w), (f1, u)]) :=
          del_made na ne nd fun b hb hd => by rw [upd_ne hd, upd_ne hb, upd_ne hd, upd_ne hb]
        rw [eq]
        obtain ⟨s2, o2⟩ := o.lay (o := .xd [(f2, w), (f1, u)]) nd
        exact q1 _ L1 σ _ _ _ ((rl.step s o).step s2 o2) ⟨C, dx, _, hmg, rfl, rfl, upd_same, w, _, rfl, Rep.mono s2.ex _ r2, u, _, rfl, Rep.mono s2.ex _ r1, rfl⟩
  · exact q1.elim
theorem s_raise1 (hK : X.K = K) (hcalm : X.calm = true) (tk : Takes X W) (T : OexC K C) (n1 : PySem.W.findIn K (.ref C) f1 = some none) (iC : PySem.W.findIn K (.ref C) "__init__" = some (some (.ref fI))) (tI : PySem.W.typeIn K (.ref fI) = some (.type "function"))
    (F1 : FnOk X.prog X.w X.K X.mg X.base (L2.CX X.prog X.w) kk fI fd ps (spInit1 K f1)) (hr : Room (kk + 1) X.A) (hb : Binds X.K fd ps []) (hm : X.mg c = some (.ref C)) (hmg : mg c = some (.ref C)) (ha : PA X [e] (taG K mg Γ W ms))
    (hg : Gl X c := by rfl) (hdb : (c == ("__debug__" : Str)) = false := by decide) (he : starEach (e :: []) X.env = (false, eval e X.env) :: starEach [] X.env := by rfl) (hpl : (backTo pos (starEach [] X.env)).any (·.1) = false := by rfl) :
    PS X (.Raise (some (.Call (.Name c p) [e] [] pos)) none pos2) (tsG K mg Γ W (sRaise c [f1] ms)) := by
  subst hK
  refine ps_imp (ps_raise hcalm tk (pmk_oex T iC tI F1 hr hb .nil passL hg hm ha hdb he hpl)) fun D' σ H ⟨F, L, ρ, st, rl, q⟩ => ⟨F, L, ρ, st, rl, (SPost.s q rl).imp fun F1 L1 H1 st1 ds s o q1 vs kvs => ?_⟩
  split at q1
  · rename_i hc
    obtain ⟨h1, h2⟩ := hc
    match ds, h2, kvs with
    | [d1], _, kvs =>
      have rr := kvs.flat h1
      obtain ⟨u, r, rfl, r1, r3⟩ := rr
      cases (show r = [] from r3)
      refine ⟨by show 1 ≤ 1000; decide, fun a na => ⟨a, C, u, rfl, T, n1, upd_same, fun dx ndx ne => ?_⟩⟩
      have nd : H1 dx = none := by rw [upd_ne ne] at ndx; exact ndx
      refine ⟨rfl, dx, [(f1, u)], upd_same, ?_, nd, ?_⟩
      · rw [upd_ne ne, upd_same]
      · have eq : upd (del (upd (upd (upd H1 a (exo a C none)) dx (exd dx [(f1, u)])) a (exo a C (some dx))) a) dx (.xd [(f1, u)]) = upd H1 dx (.xd [(f1, u)]) :=
          del_made na ne nd fun b hb hd => by rw [upd_ne hb, upd_ne hd, upd_ne hb]
        rw [eq]
        obtain ⟨s2, o2⟩ := o.lay (o := .xd [(f1, u)]) nd
        exact q1 _ L1 σ _ _ _ ((rl.step s o).step s2 o2) ⟨C, dx, _, hmg, rfl, rfl, upd_same, u, _, rfl, Rep.mono s2.ex _ r1, rfl⟩
  · exact q1.elim
/-- a field of the exception that the suite holds -/
def eXf (i : Nat) (cs : List Str) (f : Str) : EDen := fun ρ st => match ρ[i]? with
  | some (.exc c fs) => if c ∈ cs then (match fs.lookup f with
    | some d => .ok d st
    | none => .bad) else .bad
  | _ => .bad
theorem g_xf {a C : Addr} {oe : Obj} {cls : Value} {d : Option Addr} {pn : List (Addr × Obj)} {i : Nat} {x n : Str} (hK : X.K = K) (T : XfC K C) (hno : PySem.W.findIn K (.ref C) n = some none) (hmg : mg c = some (.ref C)) (hz : Zc cls d oe) (hf : ∃ vs, oe.data = .fields vs)
    (hN : X.N[i]? = some x := by rfl) (hv : Vis X.env.scope x := by first | exact Or.inl rfl | exact Or.inr (Or.inl rfl) | exact Or.inr (Or.inr rfl)) (hd : (x == ("__debug__" : Str)) = false := by decide) (hcd : (x == ("__classdict__" : Str)) = false := by decide)
    (hb : attributeBase (.Name x p) n X.env (eval (.Name x p) X.env) = eval (.Name x p) X.env := by rfl) :
    PE (X.suite a ((a, oe) :: pn)) (.Attribute (.Name x p) n pos) (teV K mg { Γ with x := some (i, a, cls, d) } W (eXf i [c] n)) := by
  subst hK
  refine pe_imp (pe_xf T hno hz hf (pe_var (i := i) hN hv hd hcd) hb) fun σ H Q ⟨F, L, ρ, st, rl, q⟩ => ?_
  unfold eXf at q
  split at q
  · rename_i c' fs ei
    split at q
    · rename_i hc
      have hc : c' = c := by simpa using hc
      subst hc
      split at q
      · rename_i y hy
        obtain ⟨a', cls', dd', e1, e2, C', d', fv, h1, rfl, rfl, h4, h5⟩ := rl.sx i _ _ ei
        cases e1
        rw [hmg] at h1; cases h1
        obtain ⟨w, hw, rw'⟩ := h5.look hy
        exact ⟨_, e2, rfl, rfl, d', fv, w, rfl, rl.sto.ex.xd h4, hw, q.here rl.sto w (.inr rw')⟩
      · exact q.elim
    · exact q.elim
  · exact q.elim
end

/-! ### defs -/
/-- a call's end: what was new in the store stands still -/
def finD (n : Nat) (d : D) (st : Store) : RC D := match d with
  | .loc k => if k < n then .ok (.loc k) (st.take n) else (match st[k]? with
    | some e => .ok e (st.take n)
    | none => .bad)
  | d => .ok d (st.take n)
/-- a def of np parameters and nl names by its body -/
def callD (np nl : Nat) (body : SDen) : CallF := fun ds st => if ds.length = np then (match body (ds.map Sl.val ++ List.replicate (nl - np) Sl.un) st with
  | .nx _ st' => finD st.length .non st'
  | .rt d st' => finD st.length d st'
  | .exc c fs _ st' => .exc c fs (st'.take st.length)
  | _ => .bad) else .bad
section
variable {P : Program} {w : World} {K : PySem.W.Frag} {mg : Glob} {base : Heap}
theorem vrepl_get {L : List Addr} {F : Hp} : ∀ {ds : List D} {vs : List V} {i : Nat} {d : D}, VRepL K mg L F ds vs → ds[i]? = some d → ∃ v, vs[i]? = some v ∧ VRep K mg L F d v := VRepL.get
theorem Rl.start {F H : Hp} {L : List Addr} {st : Store} {ds : List D} {vs : List V} {N : List Str} {nl : Nat} (o : Sto K mg F L H st) (kv : VRepL K mg L F ds vs) (hl : nl = N.length) :
    Rl K mg ⟨F, L, H, none⟩ F L (start N vs) H (ds.map Sl.val ++ List.replicate (nl - ds.length) Sl.un) st := by
  have e := kv.length
  have look : ∀ (i : Nat) (x : Sl), (ds.map Sl.val ++ List.replicate (nl - ds.length) Sl.un)[i]? = some x → (∃ d, x = .val d ∧ ds[i]? = some d) ∨ x = .un := fun i x h => by
    by_cases hi : i < ds.length
    · rw [List.getElem?_append_left (by rw [List.length_map]; exact hi), List.getElem?_map, List.getElem?_eq_getElem hi] at h
      cases h
      exact .inl ⟨ds[i], rfl, List.getElem?_eq_getElem hi⟩
    · rw [List.getElem?_append_right (by rw [List.length_map]; omega)] at h
      exact .inr (List.eq_of_mem_replicate (List.mem_of_getElem? h))
  refine ⟨o, Stp.refl, fun i d h => ?_, fun i d h => ?_, fun i j d e a h => ?_, fun i c fs h => ?_, ?_⟩
  · rcases look i _ h with ⟨x, z, hx⟩ | z
    · cases z
      obtain ⟨v, h1, h2⟩ := kv.get hx
      refine ⟨v, ?_, h2⟩
      unfold L2.start
      have hi := (List.getElem?_eq_some_iff.mp h1).1
      rw [List.getElem?_append_left (by rw [List.length_map]; exact hi), List.getElem?_map, h1] <;> rfl
    · cases z
  · rcases look i _ h with ⟨x, z, hx⟩ | z <;> cases z
  · rcases look i _ h with ⟨x, z, hx⟩ | z <;> cases z
  · rcases look i _ h with ⟨x, z, hx⟩ | z <;> cases z
  · unfold L2.start
    rw [List.length_append, List.length_append, List.length_map, List.length_map, List.length_replicate, List.length_replicate, e, hl]
/-- a body's outcome is the call's -/
theorem fin_go {F H : Hp} {L : List Addr} {st : Store} {Q : VK} {E : XK} {d : D} {st' : Store} {F' H' : Hp} {L' : List Addr} {σ' : St} {ρ' : REnv} {v : V} (o : Sto K mg F L H st) (rl : Rl K mg ⟨F, L, H, none⟩ F' L' σ' H' ρ' st') (kv : VRep K mg L' F' d v)
    (q : Post K mg (fun c d _ H' => E c d H') [] F L H (finD st.length d st') fun F' L' H' _ d => ∀ v, VRep K mg L' F' d v → Q v H') : Q v H' := by
  obtain ⟨M, e⟩ := rl.stp.pre
  have e : L' = L ++ M := e
  subst e
  have s1 : Stp F L H F' L H' := Stp.take rl.stp
  have o1 : Sto K mg F' L H' (st'.take st.length) := by rw [← o.len]; exact rl.sto.take
  have data : Rep K mg F' d v → Post K mg (fun c d _ H' => E c d H') [] F L H (.ok d (st'.take st.length)) (fun F' L' H' _ d => ∀ v, VRep K mg L' F' d v → Q v H') → Q v H' := fun r q => q F' L H' s1 o1 v (.inr r)
  rcases kv with ⟨k, a, rfl, h1, rfl⟩ | r
  · unfold finD at q
    dsimp only at q
    split at q
    · rename_i hk
      rw [← o.len] at hk
      rw [List.getElem?_append_left hk] at h1
      exact q F' L H' s1 o1 _ (.inl ⟨k, a, rfl, h1, rfl⟩)
    · rename_i hk
      split at q
      · rename_i e he
        obtain ⟨nF, hs⟩ := rl.sto.at_ k a e h1 he
        obtain ⟨u, hu⟩ := hs.there
        have hk' : L.length ≤ k := by rw [o.len]; omega
        have nL : a ∉ L := fun z => by
          obtain ⟨m, hm, e⟩ := List.getElem_of_mem z
          have h2 : (L ++ M)[m]? = some a := by rw [List.getElem?_append_left hm, List.getElem?_eq_getElem hm, e]
          obtain ⟨l1, e1⟩ := List.getElem?_eq_some_iff.mp h1
          obtain ⟨l2, e2⟩ := List.getElem?_eq_some_iff.mp h2
          have := (List.getElem_inj rl.sto.nd).mp (e1.trans e2.symm)
          omega
        have nH : H a = none := by
          cases z : H a with
          | none => rfl
          | some w =>
            have := (rl.stp.kp a w z nL).2.2
            exact absurd (List.mem_of_getElem? h1) this
        exact q _ L H' (s1.freeze nH nF) (o1.freeze hu nL nF) _ (.inr (hs.still hu nF))
      · exact q.elim
  · cases d with
    | loc k => exact r.elim
    | _ => exact data r q
theorem callD_ok {np nl : Nat} {X : Cx} {body : List Stmt} {m : SDen} {vs : List V} {H : Hp} {Q : VK} {E : XK} {N : List Str} (hl : nl = N.length) (h : spG K mg (callD np nl m) vs H Q E)
    (hb : ∀ Γ, Γ.x = none → PSs X body (tsG K mg Γ (fun c d _ H' => E c d H') m)) : ∃ t, PSs X body t ∧ t { nx := fun _ H' => Q .non H', rt := Q } (start N vs) H := by
  obtain ⟨F, L, ds, st, o, kv, q⟩ := h
  refine ⟨_, hb ⟨F, L, H, none⟩ rfl, ?_⟩
  unfold callD at q
  split at q
  · rename_i hn
    refine ⟨F, L, _, st, Rl.start (nl := nl) o kv hl, ?_⟩
    rw [hn]
    cases hm : m (ds.map Sl.val ++ List.replicate (nl - np) Sl.un) st with
    | nx ρ' st' => rw [hm] at q; exact fun F' L' σ' H' rl => fin_go (d := .non) (v := .non) o rl (.inr rfl) q
    | rt d st' => rw [hm] at q; exact fun F' L' σ' H' ρ v rl kv => fin_go o rl kv q
    | exc c fs ρ' st' =>
      rw [hm] at q
      intro F' L' σ' H' cls dd rl ex
      obtain ⟨M, e⟩ := rl.stp.pre
      have e : L' = L ++ M := e
      subst e
      exact q F' L H' cls dd (Stp.take rl.stp) (by rw [← o.len]; exact rl.sto.take) ex
    | bk ρ' st' => rw [hm] at q; exact q.elim
    | ct ρ' st' => rw [hm] at q; exact q.elim
    | bad => rw [hm] at q; exact q.elim
  · exact q.elim
theorem callD_len {np nl : Nat} {m : SDen} {vs : List V} {H : Hp} {Q : VK} {E : XK} (h : spG K mg (callD np nl m) vs H Q E) : vs.length = np := by
  obtain ⟨F, L, ds, st, o, kv, q⟩ := h
  unfold callD at q
  split at q
  · rename_i hn; rw [← kv.length]; exact hn
  · exact q.elim
/-- THE RULE of a def -/
theorem Fun.den {x qual : Str} {st : Stmt} {f : Addr} {fd : FuncData} {N ps : List Str} {k np nl : Nat} {m : SDen} (F : Fun K x qual st f fd) (S : FnScope N ps (defScope st)) (hnp : np = ps.length := by rfl) (hnl : nl = N.length := by rfl)
    (hbody : ∀ (cdv : Value) (A : Around) (outer : List Env) (s : Shared) (H : Hp) (E : XK), Room k (A.deeper (envOfC qual (defScope st) s.heap.objs.size f cdv)) →
      ∀ Γ, Γ.x = none → PSs (cxOf (L2.CX P w) P w K mg base N qual (defScope st) f cdv A outer s H E) (defBody st) (tsG K mg Γ (fun c d _ H' => E c d H') m)) :
    FnOk P w K mg base (L2.CX P w) (k + 1) f fd ps (spG K mg (callD np nl m)) :=
  F.okX S (fun vs H Q E h => by rw [callD_len h, hnp]) fun cdv A outer s H vs Q E hr h => callD_ok hnl h (hbody cdv A outer s H E hr)
/-- what leaves the body is the call's -/
theorem takes_body {N : List Str} {qual : Str} {sc : Scope} {f : Addr} {cdv : Value} {A : Around} {outer : List Env} {s : Shared} {H : Hp} {E : XK} :
    Takes (cxOf (L2.CX P w) P w K mg base N qual sc f cdv A outer s H E) (fun c d _ H' => E c d H') := takes_of rfl rfl rfl rfl
theorem own_body {N : List Str} {qual : Str} {sc : Scope} {f : Addr} {cdv : Value} {A : Around} {outer : List Env} {s : Shared} {H : Hp} {E : XK} :
    PassesOwn (model P w) (cxOf (L2.CX P w) P w K mg base N qual sc f cdv A outer s H E).A (cxOf (L2.CX P w) P w K mg base N qual sc f cdv A outer s H E).env (cxOf (L2.CX P w) P w K mg base N qual sc f cdv A outer s H E).xe := passes_of rfl
end
end Gh
/-! Gh8: operations on data, and the rules that have them. -/
namespace Gh
open L2 PyProof.Rows PySem.Spec PySem

/-! ### what is read -/
section
variable {K : PySem.W.Frag} {mg : Glob} {Γ : Ent} {F H H0 : Hp} {L : List Addr} {σ : St} {ρ : REnv} {st : Store} {v : V}
theorem kR.val {d : D} (rl : Rl K mg Γ F L σ H ρ st) (kv : kR K mg σ H0 ρ F L H d v) (n : ∀ F H a, Has K mg F H a d → False) : VRep K mg L F d v := by
  rcases kv with kv | ⟨i, h1, _⟩
  · exact kv
  · obtain ⟨a, _, _, _, _, hs⟩ := rl.so i _ h1
    exact (n _ _ _ hs).elim
theorem kR.int {i : Int} (rl : Rl K mg Γ F L σ H ρ st) (kv : kR K mg σ H0 ρ F L H (.int i) v) : v = .int i := (kv.val rl fun _ _ _ h => h).int
theorem kR.bl {b : Bool} (rl : Rl K mg Γ F L σ H ρ st) (kv : kR K mg σ H0 ρ F L H (.bl b) v) : v = .bl b := (kv.val rl fun _ _ _ h => h).bl
theorem kR.str {s : Str} (rl : Rl K mg Γ F L σ H ρ st) (kv : kR K mg σ H0 ρ F L H (.str s) v) : v = .str s := (kv.val rl fun _ _ _ h => h).str
theorem kR.non (rl : Rl K mg Γ F L σ H ρ st) (kv : kR K mg σ H0 ρ F L H .non v) : v = .non := (kv.val rl fun _ _ _ h => h).non
theorem kR.lst {ds : List D} (rl : Rl K mg Γ F L σ H ρ st) (kv : kR K mg σ H0 ρ F L H (.lst ds) v) : ∃ a vs, v = .ref a ∧ H a = some (.lst vs) ∧ RepL K mg F ds vs := by
  rcases kv with kv | ⟨i, h1, h2⟩
  · rcases kv with ⟨_, _, e, _⟩ | ⟨a, vs, rfl, h1, h2⟩
    · cases e
    · exact ⟨a, vs, rfl, rl.sto.ex.lst h1, h2⟩
  · obtain ⟨a, g1, _, _, _, vs, g2, g3⟩ := rl.so i _ h1
    rw [g1] at h2; cases h2
    exact ⟨a, vs, rfl, g2, g3⟩
theorem kR.tup {ds : List D} (rl : Rl K mg Γ F L σ H ρ st) (kv : kR K mg σ H0 ρ F L H (.tup ds) v) : ∃ a vs, v = .ref a ∧ SqT K H a vs ∧ RepL K mg F ds vs ∧ SqT K F a vs := by
  rcases kv.val rl fun _ _ _ h => h with ⟨_, _, e, _⟩ | ⟨a, vs, rfl, h1, h2⟩
  · cases e
  · exact ⟨a, vs, rfl, rl.sto.ex.t h1, h2, h1⟩
theorem kR.scr {ds : List D} (rl : Rl K mg Γ F L σ H ρ st) (kv : kR K mg σ H0 ρ F L H (.scr ds) v) : ∃ a vs, v = .ref a ∧ SqL K H a vs ∧ RepL K mg F ds vs := by
  rcases kv.val rl fun _ _ _ h => h with ⟨_, _, e, _⟩ | ⟨a, vs, rfl, h1, h2⟩
  · cases e
  · exact ⟨a, vs, rfl, rl.sto.ex.l h1, h2⟩
theorem kR.dct {kvs : List (Key × D)} (rl : Rl K mg Γ F L σ H ρ st) (kv : kR K mg σ H0 ρ F L H (.dct kvs) v) : ∃ a vs, v = .ref a ∧ Rd H a (.dK vs) ∧ RepK K mg F kvs vs := by
  rcases kv with kv | ⟨i, h1, h2⟩
  · rcases kv with ⟨_, _, e, _⟩ | ⟨a, vs, rfl, h1, h2⟩
    · cases e
    · exact ⟨a, vs, rfl, rl.sto.ex.rd h1, h2⟩
  · obtain ⟨a, g1, _, _, _, vs, g2, g3⟩ := rl.so i _ h1
    rw [g1] at h2; cases h2
    exact ⟨a, vs, rfl, .inl g2, g3⟩
end
def KRL (K : PySem.W.Frag) (mg : Glob) (σ : St) (ρ : REnv) (F : Hp) (L : List Addr) (H : Hp) : List D → List V → Prop
  | [], vs => vs = []
  | d :: ds, vs => ∃ v r, vs = v :: r ∧ kR K mg σ H ρ F L H d v ∧ KRL K mg σ ρ F L H ds r
theorem KRL.step {K : PySem.W.Frag} {mg : Glob} {σ : St} {ρ : REnv} {F F' H H1 H' : Hp} {L L' : List Addr} (s : Stp F L H F' L' H') : ∀ {ds : List D} {vs : List V}, KRL K mg σ ρ F L H1 ds vs → KRL K mg σ ρ F' L' H' ds vs
  | [], vs, h => h
  | d :: ds, vs, h => by
    obtain ⟨v, r, h1, h2, h3⟩ := h
    exact ⟨v, r, h1, kR.step h2 s, KRL.step s h3⟩
def taR (K : PySem.W.Frag) (mg : Glob) (Γ : Ent) (W : WX) (m : ADen) : TA := fun σ H Q => ∃ F L ρ st, Rl K mg Γ F L σ H ρ st ∧
  Post K mg W σ F L H (m ρ st) fun F' L' H' _ ds => ∀ vs, KRL K mg σ ρ F' L' H' ds vs → Q vs H'
/-- a call's own semantics -/
def SemN (k : Kd) (K : PySem.W.Frag) (mg : Glob) (g : OpN) (r : List V → Hp → VK → Prop) : Prop :=
  ∀ (Γ : Ent) (W : WX) (F : Hp) (L : List Addr) (σ : St) (H : Hp) (ρ : REnv) (st : Store) (ds : List D) (vs : List V) (Q : VK), Rl K mg Γ F L σ H ρ st → KRL K mg σ ρ F L H ds vs →
    Post K mg W σ F L H (g ds st) (fun F' L' H' _ d => ∀ w, k K mg σ H ρ F' L' H' d w → Q w H') → r vs H Q
section
variable {X : Cx} {K : PySem.W.Frag} {mg : Glob} {Γ : Ent} {W : WX} {e a b : Expr} {es : List Expr} {m ma mb : EDen} {ms : ADen} {pos p : Pos} {k : Kd}
theorem r_nil : PA X [] (taR K mg Γ W aNil) := pa_imp pa_nil fun σ H Q ⟨F, L, ρ, st, rl, q⟩ => q.here rl.sto [] rfl
theorem r_cons (ha : PE X e (teR K mg Γ W m)) (hr : PA X es (taR K mg Γ W ms)) (hs : starEach (e :: es) X.env = (false, eval e X.env) :: starEach es X.env := by rfl) : PA X (e :: es) (taR K mg Γ W (aCons m ms)) := by
  refine pa_imp (pa_cons ha hr hs) fun σ H Q ⟨F, L, ρ, st, rl, q⟩ => ⟨F, L, ρ, st, rl, q.bind.imp fun F1 L1 H1 st1 d s o q1 v kv => ?_⟩
  refine ⟨F1, L1, ρ, st1, rl.step s o, q1.bind.imp fun F2 L2 H2 st2 ds s2 o2 q2 vs kvs => ?_⟩
  exact q2.here o2 (v :: vs) ⟨v, vs, rfl, kR.step kv s2, kvs⟩
theorem cb_of {r : List V → Hp → VK → Prop} {g : OpN} (kl : KLate k) (hs : SemN k K mg g r) : ∀ σ H Q, teG k K mg Γ W (eN g ms) σ H Q → tCB r (taR K mg Γ W ms) σ H Q := by
  intro σ H Q ⟨F, L, ρ, st, rl, p⟩
  refine ⟨F, L, ρ, st, rl, p.bind.imp fun F1 L1 H1 st1 ds s1 o1 p1 vs kvs => ?_⟩
  exact hs Γ W F1 L1 σ H1 ρ st1 ds vs Q (rl.step s1 o1) kvs (p1.imp fun F3 L3 H3 st3 d s3 o3 q w kw => q w (kl (s1.more o1) kw))
theorem g_callB {id : String} {x : Str} {r : List V → Hp → VK → Prop} {g : OpN} (hc : CallR X (.builtin id) r) (kl : KLate k) (hs : SemN k K mg g r) (hm : X.mg x = none) (hv : bootBuiltins x = some (.builtin id)) (ha : PA X (e :: es) (taR K mg Γ W ms)) (hg : Gl X x := by rfl)
    (hn : x ≠ "__name__" := by decide) (hdb : (x == ("__debug__" : Str)) = false := by decide) (he : starEach (e :: es) X.env = (false, eval e X.env) :: starEach es X.env := by rfl) (hpl : (backTo pos (starEach es X.env)).any (·.1) = false := by rfl) :
    PE X (.Call (.Name x p) (e :: es) [] pos) (teG k K mg Γ W (eN g ms)) := pe_imp (pe_callB hc hg hm hv ha hn hdb he hpl) (cb_of kl hs)
theorem g_callTy {T : String} {x : Str} {r : List V → Hp → VK → Prop} {g : OpN} (hc : CallR X (.type T) r) (kl : KLate k) (hs : SemN k K mg g r) (hm : X.mg x = none) (hv : bootBuiltins x = some (.type T)) (ha : PA X (e :: es) (taR K mg Γ W ms)) (hg : Gl X x := by rfl)
    (hn : x ≠ "__name__" := by decide) (hdb : (x == ("__debug__" : Str)) = false := by decide) (he : starEach (e :: es) X.env = (false, eval e X.env) :: starEach es X.env := by rfl) (hpl : (backTo pos (starEach es X.env)).any (·.1) = false := by rfl) :
    PE X (.Call (.Name x p) (e :: es) [] pos) (teG k K mg Γ W (eN g ms)) := pe_imp (pe_callTy hc hg hm hv ha hn hdb he hpl) (cb_of kl hs)
theorem pe_or' {t t' : TE} (h : PE X e t) (h' : PE X e t') : PE X e (fun σ H Q => t σ H Q ∨ t' σ H Q) := ⟨fun pins s σ H Q I q => q.elim (h.run pins s σ H Q I) (h'.run pins s σ H Q I)⟩
end

/-! ### numbers -/
section
variable {X : Cx} {K : PySem.W.Frag} {mg : Glob} {k : Kd}
def gI (C : Int → Int → Bool) (f : Int → Int → D) : Op2 := fun x y st => match x, y with
  | .int i, .int j => if C i j = true then .ok (f i j) st else .bad
  | _, _ => .bad
theorem sem_I {C : Int → Int → Bool} {C' : Int → Int → Prop} {f : Int → Int → D} {f' : Int → Int → V} (hc : ∀ i j, C i j = true → C' i j) (hf : ∀ F i j, Rep K mg F (f i j) (f' i j)) : Sem2 kV K mg (gI C f) (rI C' f') := by
  intro Γ W F L σ H ρ st x y v u Q rl kx ky q
  unfold gI at q
  split at q
  · rename_i i j
    split at q
    · rename_i h
      exact ⟨i, j, kx.int rl, ky.int rl, hc i j h, q.here rl.sto _ (.inr (hf F i j))⟩
    · exact q.elim
  · exact q.elim
theorem sem_I0 {f : Int → Int → D} {f' : Int → Int → V} (hf : ∀ F i j, Rep K mg F (f i j) (f' i j)) : Sem2 kV K mg (gI (fun _ _ => true) f) (rI0 f') := by
  intro Γ W F L σ H ρ st x y v u Q rl kx ky q
  unfold gI at q
  split at q
  · rename_i i j
    rw [if_pos rfl] at q
    exact ⟨i, j, kx.int rl, ky.int rl, q.here rl.sto _ (.inr (hf F i j))⟩
  · exact q.elim
def gSub : Op2 := gI (fun _ _ => true) fun i j => .int (i - j)
def small64 (i : Int) : Bool := decide (-(2 ^ 64) < i ∧ i < 2 ^ 64)
def gMul : Op2 := gI (fun i j => small64 i || small64 j) fun i j => .int (i * j)
def gFdiv : Op2 := gI (fun _ j => decide (0 < j ∧ j < 1073741824)) fun i j => .int (i / j)
def gMod : Op2 := gI (fun _ j => decide (0 < j)) fun i j => .int (i % j)
def gPow : Op2 := gI (fun i j => decide (0 ≤ j ∧ j ≤ 1000000 ∧ i.natAbs < 2 ^ 64)) fun i j => .int (i ^ j.toNat)
theorem sem_sub : Sem2 kV K mg gSub (rI0 fun i j => .int (i - j)) := sem_I0 fun _ _ _ => rfl
theorem sem_mul : Sem2 kV K mg gMul (rI CMul fun i j => .int (i * j)) := sem_I (fun i j h => by
  unfold small64 at h
  rw [Bool.or_eq_true, decide_eq_true_eq, decide_eq_true_eq] at h
  exact h) fun _ _ _ => rfl
theorem sem_fdiv : Sem2 kV K mg gFdiv (rI CDiv fun i j => .int (i / j)) := sem_I (fun i j h => of_decide_eq_true (p := 0 < j ∧ j < 1073741824) h) fun _ _ _ => rfl
theorem sem_mod : Sem2 kV K mg gMod (rI (fun _ j => 0 < j) fun i j => .int (i % j)) := sem_I (fun i j h => of_decide_eq_true (p := 0 < j) h) fun _ _ _ => rfl
theorem sem_pow : Sem2 kV K mg gPow (rI CPow fun i j => .int (i ^ j.toNat)) := sem_I (fun i j h => of_decide_eq_true (p := 0 ≤ j ∧ j ≤ 1000000 ∧ i.natAbs < 2 ^ 64) h) fun _ _ _ => rfl
def gNeg : Op1 := fun x st => match x with
  | .int i => .ok (.int (-i)) st
  | _ => .bad
theorem sem_neg : Sem1 kV K mg gNeg (rU fun i => .int (-i)) := by
  intro Γ W F L σ H ρ st x v Q rl kx q
  unfold gNeg at q
  split at q
  · rename_i i
    exact ⟨i, kx.int rl, q.here rl.sto _ (.inr rfl)⟩
  · exact q.elim
def gLt : Op2 := gI (fun _ _ => true) fun i j => .bl (decide (i < j))
def gLe : Op2 := gI (fun _ _ => true) fun i j => .bl (decide (i ≤ j))
def gGt : Op2 := gI (fun _ _ => true) fun i j => .bl (decide (j < i))
def gGe : Op2 := gI (fun _ _ => true) fun i j => .bl (decide (j ≤ i))
theorem sem_lt : Sem2 kV K mg gLt (rI0 fun i j => .bl (decide (i < j))) := sem_I0 fun _ _ _ => rfl
theorem sem_le : Sem2 kV K mg gLe (rI0 fun i j => .bl (decide (i ≤ j))) := sem_I0 fun _ _ _ => rfl
theorem sem_gt : Sem2 kV K mg gGt (rI0 fun i j => .bl (decide (j < i))) := sem_I0 fun _ _ _ => rfl
theorem sem_ge : Sem2 kV K mg gGe (rI0 fun i j => .bl (decide (j ≤ i))) := sem_I0 fun _ _ _ => rfl

/-! ### + -/
def gAdd : Op2 := fun x y st => match x, y with
  | .int i, .int j => .ok (.int (i + j)) st
  | .str a, .str b => if a.length + b.length ≤ sizeLine then .ok (.str (a ++ b)) st else .bad
  | .lst a, .lst b => if a.length + b.length < 100000 then .ok (.lst (a ++ b)) st else .bad
  | .tup a, .tup b => if a.length + b.length < 100000 then .ok (.tup (a ++ b)) st else .bad
  | _, _ => .bad
abbrev rAddU (K : PySem.W.Frag) : R2 := fun x y H Q => (rI0 fun i j => .int (i + j)) x y H Q ∨ (∃ i j, x = .str i ∧ y = .str j ∧ i.length + j.length ≤ sizeLine ∧ Q (.str (i ++ j)) H) ∨ rCat x y H Q ∨ rCatA K x y H Q
theorem op_addU : OpR X (binaryOp .Add) (rAddU X.K) := OpR.or op_add (OpR.or op_add_str (OpR.or op_cat op_catA))
theorem sem_add : Sem2 kV K mg gAdd (rAddU K) := by
  intro Γ W F L σ H ρ st x y v u Q rl kx ky q
  unfold gAdd at q
  split at q
  · rename_i i j
    exact .inl ⟨i, j, kx.int rl, ky.int rl, q.here rl.sto _ (.inr rfl)⟩
  · rename_i a b
    split at q
    · rename_i h
      exact .inr (.inl ⟨a, b, kx.str rl, ky.str rl, h, q.here rl.sto _ (.inr rfl)⟩)
    · exact q.elim
  · rename_i a b
    split at q
    · rename_i h
      obtain ⟨p, vs, rfl, h1, h2⟩ := kx.lst rl
      obtain ⟨r, us, rfl, g1, g2⟩ := ky.lst rl
      refine .inr (.inr (.inl ⟨p, r, vs, us, rfl, rfl, h1, g1, by rw [sizeLine_eq, ← h2.length, ← g2.length]; omega, fun z nz => ?_⟩))
      obtain ⟨s, o⟩ := rl.sto.lay (o := .lst (vs ++ us)) nz
      exact q _ _ _ s o _ (.inr ⟨z, _, rfl, upd_same, RepL.mono s.ex _ (h2.append g2)⟩)
    · exact q.elim
  · rename_i a b
    split at q
    · rename_i h
      obtain ⟨p, vs, rfl, h1, h2, h3⟩ := kx.tup rl
      obtain ⟨r, us, rfl, g1, g2, g3⟩ := ky.tup rl
      refine .inr (.inr (.inr ⟨p, r, vs, us, rfl, rfl, h1, g1, by rw [sizeLine_eq, ← h2.length, ← g2.length]; omega, fun e => ?_, fun e1 e2 => ?_, fun e1 e2 z nz => ?_⟩))
      · subst e
        have : a = [] := by
          have := h2.length
          cases a <;> simp_all
        subst this
        exact q.here rl.sto _ (.inr ⟨r, us, rfl, g3, g2⟩)
      · subst e2
        have : b = [] := by
          have := g2.length
          cases b <;> simp_all
        subst this
        rw [List.append_nil] at q
        exact q.here rl.sto _ (.inr ⟨p, vs, rfl, h3, h2⟩)
      · obtain ⟨s, o⟩ := rl.sto.lay (o := .tup (vs ++ us)) nz
        exact q _ _ _ s o _ (.inr ⟨z, _, rfl, .inl (.inl upd_same), RepL.mono s.ex _ (h2.append g2)⟩)
    · exact q.elim
  · exact q.elim
/-- a + b of lists, a new one -/
def gCat : Op2 := fun x y st => match x, y with
  | .lst a, .lst b => if a.length + b.length < 100000 then .ok (.lst (a ++ b)) st else .bad
  | _, _ => .bad
theorem sem_cat : Sem2 kO K mg gCat rCat := by
  intro Γ W F L σ H ρ st x y v u Q rl kx ky q
  unfold gCat at q
  split at q
  · rename_i a b
    split at q
    · rename_i h
      obtain ⟨p, vs, rfl, h1, h2⟩ := kx.lst rl
      obtain ⟨r, us, rfl, g1, g2⟩ := ky.lst rl
      exact ⟨p, r, vs, us, rfl, rfl, h1, g1, by rw [sizeLine_eq, ← h2.length, ← g2.length]; omega, fun z nz => q _ _ _ (Stp.fresh nz) (rl.sto.fresh nz) _ ⟨z, rfl, nz, rl.newF nz, rl.newL nz, _, upd_same, h2.append g2⟩⟩
    · exact q.elim
  · exact q.elim
end

/-! ### ==, !=, is None -/
mutual
def D.eqv : D → D → Bool
  | .non, .non => true
  | .bl a, .bl b => a == b
  | .bl a, .int j => (if a then 1 else 0) == j
  | .int i, .bl b => i == (if b then 1 else 0)
  | .int i, .int j => i == j
  | .str x, .str y => x == y
  | .lst xs, .lst ys => eqvL xs ys
  | .lst xs, .scr ys => eqvL xs ys
  | .scr xs, .lst ys => eqvL xs ys
  | .scr xs, .scr ys => eqvL xs ys
  | .tup xs, .tup ys => eqvL xs ys
  | _, _ => false
def eqvL : List D → List D → Bool
  | [], [] => true
  | x :: xs, y :: ys => D.eqv x y && eqvL xs ys
  | _, _ => false
end
/-- plain data, n deep at most -/
def okD : Nat → D → Bool
  | _, .non => true
  | _, .bl _ => true
  | _, .int _ => true
  | _, .str s => PyData.strOk s
  | n + 1, .lst ds => ds.all (okD n)
  | n + 1, .scr ds => ds.all (okD n)
  | n + 1, .tup ds => ds.all (okD n)
  | _, _ => false
mutual
def toPy : D → PyData
  | .non => .none
  | .bl b => .bool b
  | .int i => .int i
  | .str s => .str s
  | .lst ds => .list (toPyL ds)
  | .scr ds => .list (toPyL ds)
  | .tup ds => .tuple (toPyL ds)
  | _ => .none
def toPyL : List D → List PyData
  | [] => []
  | d :: ds => toPy d :: toPyL ds
end
theorem toPy_shape : ∀ (n : Nat) (d : D), okD n d = true → (toPy d).canLay0 = true ∧ (toPy d).depth ≤ n := by
  have lists : ∀ (n : Nat), (∀ d, okD n d = true → (toPy d).canLay0 = true ∧ (toPy d).depth ≤ n) → ∀ ds : List D, ds.all (okD n) = true → PyData.canLayAll0 (toPyL ds) = true ∧ PyData.depthAll (toPyL ds) ≤ n := by
    intro n ih ds
    induction ds with
    | nil => intro _; exact ⟨by simp [toPyL, PyData.canLayAll0], by simp [toPyL, PyData.depthAll]⟩
    | cons d ds ih2 =>
      intro h
      rw [List.all_cons, Bool.and_eq_true] at h
      obtain ⟨a1, a2⟩ := ih d h.1
      obtain ⟨b1, b2⟩ := ih2 h.2
      refine ⟨by simp [toPyL, PyData.canLayAll0, a1, b1], ?_⟩
      simp only [toPyL, PyData.depthAll]
      omega
  intro n
  induction n with
  | zero =>
    intro d h
    cases d with
    | str s => exact ⟨by simpa [toPy, PyData.canLay0, okD] using h, by simp [toPy, PyData.depth]⟩
    | non => exact ⟨by simp [toPy, PyData.canLay0], by simp [toPy, PyData.depth]⟩
    | bl b => exact ⟨by simp [toPy, PyData.canLay0], by simp [toPy, PyData.depth]⟩
    | int b => exact ⟨by simp [toPy, PyData.canLay0], by simp [toPy, PyData.depth]⟩
    | _ => simp [okD] at h
  | succ n ih =>
    intro d h
    cases d with
    | str s => exact ⟨by simpa [toPy, PyData.canLay0, okD] using h, by simp [toPy, PyData.depth]⟩
    | non => exact ⟨by simp [toPy, PyData.canLay0], by simp [toPy, PyData.depth]⟩
    | bl b => exact ⟨by simp [toPy, PyData.canLay0], by simp [toPy, PyData.depth]⟩
    | int b => exact ⟨by simp [toPy, PyData.canLay0], by simp [toPy, PyData.depth]⟩
    | lst ds =>
      obtain ⟨a, b⟩ := lists n ih ds (by simpa [okD] using h)
      exact ⟨by simpa [toPy, PyData.canLay0] using a, by simp only [toPy, PyData.depth]; omega⟩
    | scr ds =>
      obtain ⟨a, b⟩ := lists n ih ds (by simpa [okD] using h)
      exact ⟨by simpa [toPy, PyData.canLay0] using a, by simp only [toPy, PyData.depth]; omega⟩
    | tup ds =>
      obtain ⟨a, b⟩ := lists n ih ds (by simpa [okD] using h)
      exact ⟨by simpa [toPy, PyData.canLay0] using a, by simp only [toPy, PyData.depth]; omega⟩
    | _ => simp [okD] at h
theorem eqv_py : ∀ (n m : Nat) (x y : D), okD n x = true → okD m y = true → PyData.eqv (toPy x) (toPy y) = D.eqv x y := by
  have lists : ∀ (n m : Nat), (∀ x y, okD n x = true → okD m y = true → PyData.eqv (toPy x) (toPy y) = D.eqv x y) → ∀ xs ys : List D, xs.all (okD n) = true → ys.all (okD m) = true → PyData.eqvAll (toPyL xs) (toPyL ys) = eqvL xs ys := by
    intro n m ih xs
    induction xs with
    | nil => intro ys _ _; cases ys <;> simp [toPyL, PyData.eqvAll, eqvL]
    | cons x xs ih2 =>
      intro ys h1 h2
      cases ys with
      | nil => simp [toPyL, PyData.eqvAll, eqvL]
      | cons y ys =>
        rw [List.all_cons, Bool.and_eq_true] at h1 h2
        simp only [toPyL, PyData.eqvAll, eqvL]
        rw [ih x y h1.1 h2.1, ih2 ys h1.2 h2.2]
  intro n
  induction n with
  | zero =>
    intro m x y h1 h2
    cases m <;> cases x <;> cases y <;> simp_all [okD, toPy, PyData.eqv, D.eqv]
  | succ n ih =>
    intro m x y h1 h2
    cases m with
    | zero => cases x <;> cases y <;> simp_all [okD, toPy, PyData.eqv, D.eqv]
    | succ m =>
      have L := lists n m (fun x y a b => ih m x y a b)
      cases x with
      | lst xs => cases y with
        | lst ys => simp only [toPy, PyData.eqv, D.eqv]; exact L xs ys (by simpa [okD] using h1) (by simpa [okD] using h2)
        | scr ys => simp only [toPy, PyData.eqv, D.eqv]; exact L xs ys (by simpa [okD] using h1) (by simpa [okD] using h2)
        | _ => simp_all [okD, toPy, PyData.eqv, D.eqv]
      | scr xs => cases y with
        | lst ys => simp only [toPy, PyData.eqv, D.eqv]; exact L xs ys (by simpa [okD] using h1) (by simpa [okD] using h2)
        | scr ys => simp only [toPy, PyData.eqv, D.eqv]; exact L xs ys (by simpa [okD] using h1) (by simpa [okD] using h2)
        | _ => simp_all [okD, toPy, PyData.eqv, D.eqv]
      | tup xs => cases y with
        | tup ys => simp only [toPy, PyData.eqv, D.eqv]; exact L xs ys (by simpa [okD] using h1) (by simpa [okD] using h2)
        | _ => simp_all [okD, toPy, PyData.eqv, D.eqv]
      | _ => cases y <;> simp_all [okD, toPy, PyData.eqv, D.eqv]
theorem dp_all {K : PySem.W.Frag} {mg : Glob} {F H : Hp} (ex : ExF F H) : ∀ (n : Nat), (∀ d v, okD n d = true → Rep K mg F d v → Dp K H v (toPy d)) → ∀ (ds : List D) (vs : List V), ds.all (okD n) = true → RepL K mg F ds vs → DpAll K H vs (toPyL ds)
  | n, ih, [], vs, _, r => by
    cases (show vs = [] from r)
    exact .nil
  | n, ih, d :: ds, vs, h, r => by
    obtain ⟨v, r', rfl, r1, r2⟩ := r
    rw [List.all_cons, Bool.and_eq_true] at h
    exact .cons (ih d v h.1 r1) (dp_all ex n ih ds r' h.2 r2)
theorem dp_of {K : PySem.W.Frag} {mg : Glob} {F H : Hp} (ex : ExF F H) : ∀ (n : Nat) (d : D) (v : V), okD n d = true → Rep K mg F d v → Dp K H v (toPy d)
  | n, .non, v, _, r => by cases (show v = .non from r); exact .non
  | n, .bl b, v, _, r => by cases (show v = .bl b from r); exact .bl b
  | n, .int i, v, _, r => by cases (show v = .int i from r); exact .int i
  | n, .str s, v, _, r => by cases (show v = .str s from r); exact .str s
  | 0, .lst ds, v, h, _ => by simp [okD] at h
  | 0, .scr ds, v, h, _ => by simp [okD] at h
  | 0, .tup ds, v, h, _ => by simp [okD] at h
  | n + 1, .lst ds, v, h, r => by
    obtain ⟨a, vs, rfl, h1, h2⟩ := r
    exact .lst (.inl (.inl (ex.lst h1))) (dp_all ex n (dp_of ex n) ds vs (by simpa [okD] using h) h2)
  | n + 1, .scr ds, v, h, r => by
    obtain ⟨a, vs, rfl, h1, h2⟩ := r
    exact .lst (ex.l h1) (dp_all ex n (dp_of ex n) ds vs (by simpa [okD] using h) h2)
  | n + 1, .tup ds, v, h, r => by
    obtain ⟨a, vs, rfl, h1, h2⟩ := r
    exact .tup (ex.t h1) (dp_all ex n (dp_of ex n) ds vs (by simpa [okD] using h) h2)
  | n, .dct ds, v, h, _ => by cases n <;> simp [okD] at h
  | n, .ins c fs, v, h, _ => by cases n <;> simp [okD] at h
  | n, .loc k, v, h, _ => by cases n <;> simp [okD] at h
section
variable {X : Cx} {K : PySem.W.Frag} {mg : Glob} {k : Kd}
theorem kR.dp {Γ : Ent} {F H H0 : Hp} {L : List Addr} {σ : St} {ρ : REnv} {st : Store} {d : D} {v : V} {n : Nat} (rl : Rl K mg Γ F L σ H ρ st) (kv : kR K mg σ H0 ρ F L H d v) (h : okD n d = true) : Dp K H v (toPy d) := by
  rcases kv with kv | ⟨i, h1, h2⟩
  · rcases kv with ⟨m, a, rfl, _⟩ | r
    · cases n <;> simp [okD] at h
    · exact dp_of rl.sto.ex n d v h r
  · obtain ⟨a, g1, _, _, _, hs⟩ := rl.so i _ h1
    rw [g1] at h2; cases h2
    cases d with
    | lst ds =>
      obtain ⟨vs, g2, g3⟩ := hs
      cases n with
      | zero => simp [okD] at h
      | succ n => exact .lst (.inl (.inl g2)) (dp_all rl.sto.ex n (dp_of rl.sto.ex n) ds vs (by simpa [okD] using h) g3)
    | dct ds => cases n <;> simp [okD] at h
    | ins c fs => cases n <;> simp [okD] at h
    | _ => exact hs.elim
/-- the scalars that == asks nothing more of -/
def scalD : D → D → Option Bool
  | .non, .non => some true | .non, .int _ => some false | .int _, .non => some false | .non, .bl _ => some false | .bl _, .non => some false | .non, .str _ => some false | .str _, .non => some false
  | .int i, .int j => some (decide (i = j)) | .bl i, .bl j => some (decide (i = j)) | .str i, .str j => some (decide (i = j))
  | .int _, .str _ => some false | .str _, .int _ => some false | .bl _, .str _ => some false | .str _, .bl _ => some false
  | _, _ => none
def eqD (x y : D) : Option Bool := match scalD x y with
  | some b => some b
  | none => if okD 20 x = true ∧ okD 20 y = true then some (D.eqv x y) else none
def gEq : Op2 := fun x y st => match eqD x y with
  | some b => .ok (.bl b) st
  | none => .bad
def gNe : Op2 := fun x y st => match eqD x y with
  | some b => .ok (.bl (!b)) st
  | none => .bad
theorem scal_of {Γ : Ent} {F H H0 : Hp} {L : List Addr} {σ : St} {ρ : REnv} {st : Store} {x y : D} {v u : V} {b : Bool} (rl : Rl K mg Γ F L σ H ρ st) (kx : kR K mg σ H0 ρ F L H x v) (ky : kR K mg σ H0 ρ F L H y u) (h : scalD x y = some b) : scal v u = true ∧ b = decide (v = u) := by
  unfold scalD at h
  split at h <;> first | cases h | skip
  all_goals
    first | cases kx.non rl | cases kx.int rl | cases kx.bl rl | cases kx.str rl
    first | cases ky.non rl | cases ky.int rl | cases ky.bl rl | cases ky.str rl
    refine ⟨rfl, ?_⟩
    simp
theorem op_eqU (hu : X.A.units + 64 < cLine) : OpR X (compareOp .Eq) (fun x y H Q => rEq x y H Q ∨ rEqD X.K x y H Q) := OpR.or op_eq (op_eqD hu)
theorem op_neU (hu : X.A.units + 64 < cLine) : OpR X (compareOp .NotEq) (fun x y H Q => rNe x y H Q ∨ rNeD X.K x y H Q) := OpR.or op_ne (op_neD hu)
theorem sem_eq : Sem2 kV K mg gEq (fun x y H Q => rEq x y H Q ∨ rEqD K x y H Q) := by
  intro Γ W F L σ H ρ st x y v u Q rl kx ky q
  unfold gEq at q
  split at q
  · rename_i b e
    unfold eqD at e
    split at e
    · rename_i b' e'
      cases e
      obtain ⟨h1, rfl⟩ := scal_of rl kx ky e'
      exact .inl ⟨h1, q.here rl.sto _ (.inr rfl)⟩
    · split at e
      · rename_i h
        cases e
        obtain ⟨a1, a2⟩ := toPy_shape 20 x h.1
        obtain ⟨b1, b2⟩ := toPy_shape 20 y h.2
        refine .inr ⟨toPy x, toPy y, kx.dp rl h.1, ky.dp rl h.2, ?_, ?_, ?_⟩
        · unfold SeqAt.shaped; rw [a1]; simp; omega
        · unfold SeqAt.shaped; rw [b1]; simp; omega
        · rw [eqv_py 20 20 x y h.1 h.2]
          exact q.here rl.sto _ (.inr rfl)
      · cases e
  · exact q.elim
theorem sem_ne : Sem2 kV K mg gNe (fun x y H Q => rNe x y H Q ∨ rNeD K x y H Q) := by
  intro Γ W F L σ H ρ st x y v u Q rl kx ky q
  unfold gNe at q
  split at q
  · rename_i b e
    unfold eqD at e
    split at e
    · rename_i b' e'
      cases e
      obtain ⟨h1, rfl⟩ := scal_of rl kx ky e'
      exact .inl ⟨h1, q.here rl.sto _ (.inr rfl)⟩
    · split at e
      · rename_i h
        cases e
        obtain ⟨a1, a2⟩ := toPy_shape 20 x h.1
        obtain ⟨b1, b2⟩ := toPy_shape 20 y h.2
        refine .inr ⟨toPy x, toPy y, kx.dp rl h.1, ky.dp rl h.2, ?_, ?_, ?_⟩
        · unfold SeqAt.shaped; rw [a1]; simp; omega
        · unfold SeqAt.shaped; rw [b1]; simp; omega
        · rw [eqv_py 20 20 x y h.1 h.2]
          exact q.here rl.sto _ (.inr rfl)
      · cases e
  · exact q.elim
/-- is None, is not None -/
def isNon : D → Bool
  | .non => true
  | _ => false
def gIs : Op2 := fun x y st => match y with
  | .non => .ok (.bl (isNon x)) st
  | _ => .bad
def gIsNot : Op2 := fun x y st => match y with
  | .non => .ok (.bl (!isNon x)) st
  | _ => .bad
theorem isNon_of {Γ : Ent} {F H H0 : Hp} {L : List Addr} {σ : St} {ρ : REnv} {st : Store} {x : D} {v : V} (rl : Rl K mg Γ F L σ H ρ st) (kx : kR K mg σ H0 ρ F L H x v) : isNon x = decide (v = .non) := by
  cases x with
  | non => cases kx.non rl; rfl
  | int i => cases kx.int rl; rfl
  | bl i => cases kx.bl rl; rfl
  | str i => cases kx.str rl; rfl
  | lst ds => obtain ⟨a, vs, rfl, _⟩ := kx.lst rl; rfl
  | tup ds => obtain ⟨a, vs, rfl, _⟩ := kx.tup rl; rfl
  | scr ds => obtain ⟨a, vs, rfl, _⟩ := kx.scr rl; rfl
  | dct ds => obtain ⟨a, vs, rfl, _⟩ := kx.dct rl; rfl
  | ins c fs =>
    rcases kx with kv | ⟨i, h1, h2⟩
    · rcases kv with ⟨_, _, e, _⟩ | ⟨a, C, dx, fv, rfl, _⟩
      · cases e
      · rfl
    · obtain ⟨a, g1, _⟩ := rl.so i _ h1
      rw [g1] at h2; cases h2; rfl
  | loc n =>
    have := kx.val rl fun _ _ _ h => h
    obtain ⟨a, _, rfl⟩ := this.loc
    rfl
theorem sem_is : Sem2 kV K mg gIs (fun x y H Q => y = .non ∧ Q (.bl (decide (x = .non))) H) := by
  intro Γ W F L σ H ρ st x y v u Q rl kx ky q
  unfold gIs at q
  split at q
  · exact ⟨ky.non rl, by rw [← isNon_of rl kx]; exact q.here rl.sto _ (.inr rfl)⟩
  · exact q.elim
theorem sem_isNot : Sem2 kV K mg gIsNot (fun x y H Q => y = .non ∧ Q (.bl (!decide (x = .non))) H) := by
  intro Γ W F L σ H ρ st x y v u Q rl kx ky q
  unfold gIsNot at q
  split at q
  · exact ⟨ky.non rl, by rw [← isNon_of rl kx]; exact q.here rl.sto _ (.inr rfl)⟩
  · exact q.elim
end
end Gh
/-! Gh9: in, places, cuts, built-ins. -/
namespace Gh
open L2 PyProof.Rows PySem.Spec PySem
section
variable {X : Cx} {K : PySem.W.Frag} {mg : Glob} {Γ : Ent} {W : WX} {e a b : Expr} {es : List Expr} {m ma mb : EDen} {ms : ADen} {pos p p2 : Pos} {k : Kd}
/-! ### in -/
def flatD : D → Bool
  | .non => true
  | .bl _ => true
  | .int _ => true
  | .str _ => true
  | _ => false
def inD (x : D) (xs : List D) : Bool := xs.any fun y => D.eqv y x
def itemsOf : D → Option (List D)
  | .lst ds => some ds
  | .tup ds => some ds
  | .scr ds => some ds
  | _ => none
def isIn (x y : D) : Option Bool := match y with
  | .str s => (match x with
    | .str t => some (!(Builtin.Str.occurrences s t 0 s.length 1).isEmpty)
    | _ => none)
  | .dct kvs => (match keyOf x with
    | some k => some (valD kvs k).isSome
    | none => none)
  | y => match itemsOf y with
    | some ds => if flatD x = true ∧ ds.all flatD = true then some (inD x ds) else if okD 20 x = true ∧ ds.all (okD 19) = true then some (inD x ds) else none
    | none => none
def gIn : Op2 := fun x y st => match isIn x y with
  | some b => .ok (.bl b) st
  | none => .bad
def gNotIn : Op2 := fun x y st => match isIn x y with
  | some b => .ok (.bl (!b)) st
  | none => .bad
theorem flat_of {F H : Hp} {L : List Addr} {x : D} {v : V} (h : flatD x = true) (r : VRep K mg L F x v) : flatV v = true ∧ ∀ (y : D) (u : V), flatD y = true → VRep K mg L F y u → eqV v u = D.eqv x y := by
  cases x with
  | non => cases r.non; exact ⟨rfl, fun y u hy ry => by
      cases y with
      | non => cases ry.non; rfl
      | bl b => cases ry.bl; rfl
      | int b => cases ry.int; rfl
      | str b => cases ry.str; rfl
      | _ => simp [flatD] at hy⟩
  | bl b => cases r.bl; exact ⟨rfl, fun y u hy ry => by
      cases y with
      | non => cases ry.non; rfl
      | bl b => cases ry.bl; rfl
      | int b => cases ry.int; rfl
      | str b => cases ry.str; rfl
      | _ => simp [flatD] at hy⟩
  | int b => cases r.int; exact ⟨rfl, fun y u hy ry => by
      cases y with
      | non => cases ry.non; rfl
      | bl b => cases ry.bl; rfl
      | int b => cases ry.int; rfl
      | str b => cases ry.str; rfl
      | _ => simp [flatD] at hy⟩
  | str b => cases r.str; exact ⟨rfl, fun y u hy ry => by
      cases y with
      | non => cases ry.non; rfl
      | bl b => cases ry.bl; rfl
      | int b => cases ry.int; rfl
      | str b => cases ry.str; rfl
      | _ => simp [flatD] at hy⟩
  | _ => simp [flatD] at h
theorem flatL_of {F : Hp} {L : List Addr} {x : D} {v : V} (hx : flatD x = true) (rx : VRep K mg L F x v) : ∀ {ds : List D} {vs : List V}, ds.all flatD = true → RepL K mg F ds vs → vs.all flatV = true ∧ inV v vs = inD x ds
  | [], vs, _, r => by
    cases (show vs = [] from r)
    exact ⟨rfl, rfl⟩
  | d :: ds, vs, h, r => by
    obtain ⟨u, r', rfl, r1, r2⟩ := r
    rw [List.all_cons, Bool.and_eq_true] at h
    obtain ⟨a1, a2⟩ := flatL_of hx rx h.2 r2
    have f := flat_of (F := F) (H := F) (L := L) h.1 (.inr r1)
    refine ⟨by rw [List.all_cons, f.1, a1] <;> rfl, ?_⟩
    unfold inV inD at a2 ⊢
    rw [List.any_cons, List.any_cons, a2, f.2 x v hx rx]
/-- data of any depth in a list, a tuple -/
def rInDeep (K : PySem.W.Frag) (f : Bool → Bool) : R2 := fun x y H Q => ∃ d ds z, Dp K H x d ∧ Dp K H y z ∧ (z = .list ds ∨ z = .tuple ds) ∧ d.canLay0 = true ∧ d.depth ≤ 20 ∧ PyData.canLayAll0 ds = true ∧ Q (.bl (f (ds.any fun y => PyData.eqv y d))) H
theorem op_inDeep (hu : X.A.units + 64 < cLine) : OpR X (compareOp .In) (rInDeep X.K id) := by
  intro pins s σ H x y v u Q I rx ry h
  obtain ⟨d, ds, z, h1, h2, h3, h4, h5, h6, q⟩ := h
  obtain ⟨as, r1⟩ := Dp.reads I d x v h1 rx
  have hr : X.A.units + 1 + min (PyData.depthAll ds) d.depth < cLine := by
    have := Nat.min_le_right (PyData.depthAll ds) d.depth
    omega
  rcases h3 with rfl | rfl
  · obtain ⟨bs, r2⟩ := Dp.reads I (.list ds) y u h2 ry
    exact SeqAt.in_list_reads r2 r1 h6 h4 hr ⟨.bl _, H, I, rfl, q⟩
  · obtain ⟨bs, r2⟩ := Dp.reads I (.tuple ds) y u h2 ry
    exact SeqAt.in_tuple_reads r2 r1 h6 h4 hr ⟨.bl _, H, I, rfl, q⟩
theorem op_notInDeep (hu : X.A.units + 64 < cLine) : OpR X (compareOp .NotIn) (rInDeep X.K not) := by
  intro pins s σ H x y v u Q I rx ry h
  obtain ⟨d, ds, z, h1, h2, h3, h4, h5, h6, q⟩ := h
  obtain ⟨as, r1⟩ := Dp.reads I d x v h1 rx
  have hr : X.A.units + 1 + min (PyData.depthAll ds) d.depth < cLine := by
    have := Nat.min_le_right (PyData.depthAll ds) d.depth
    omega
  rcases h3 with rfl | rfl
  · obtain ⟨bs, r2⟩ := Dp.reads I (.list ds) y u h2 ry
    exact SeqAt.notIn_list_reads r2 r1 h6 h4 hr ⟨.bl _, H, I, rfl, q⟩
  · obtain ⟨bs, r2⟩ := Dp.reads I (.tuple ds) y u h2 ry
    exact SeqAt.notIn_tuple_reads r2 r1 h6 h4 hr ⟨.bl _, H, I, rfl, q⟩
theorem lay_all : ∀ (ds : List D) (n : Nat), ds.all (okD n) = true → PyData.canLayAll0 (toPyL ds) = true
  | [], n, _ => rfl
  | d :: ds, n, h => by
    simp only [List.all_cons, Bool.and_eq_true] at h
    show ((toPy d).canLay0 && PyData.canLayAll0 (toPyL ds)) = true
    rw [(toPy_shape n d h.1).1, lay_all ds n h.2]
    rfl
theorem any_py (x : D) (hx : okD 20 x = true) : ∀ (ds : List D), ds.all (okD 19) = true → (toPyL ds).any (fun y => PyData.eqv y (toPy x)) = inD x ds
  | [], _ => rfl
  | d :: ds, h => by
    simp only [List.all_cons, Bool.and_eq_true] at h
    show (PyData.eqv (toPy d) (toPy x) || (toPyL ds).any (fun y => PyData.eqv y (toPy x))) = (D.eqv d x || inD x ds)
    rw [eqv_py 19 20 d x h.1 hx, any_py x hx ds h.2]
theorem deep_at {F H H0 : Hp} {L : List Addr} {σ : St} {ρ : REnv} {st : Store} {x y : D} {v u : V} {ds : List D} {f : Bool → Bool} {Q : VK} (rl : Rl K mg Γ F L σ H ρ st) (kx : kR K mg σ H0 ρ F L H x v) (ky : kR K mg σ H0 ρ F L H y u) (h : itemsOf y = some ds) (h1 : okD 20 x = true) (h2 : ds.all (okD 19) = true)
    (q : Q (.bl (f (inD x ds))) H) : rInDeep K f v u H Q := by
  obtain ⟨a1, a2⟩ := toPy_shape 20 x h1
  have hy : okD 20 y = true := by
    cases y <;> first | (cases h; exact h2) | cases h
  refine ⟨toPy x, toPyL ds, toPy y, kx.dp rl h1, ky.dp rl hy, ?_, a1, a2, lay_all ds 19 h2, ?_⟩
  · cases y with
    | lst es => cases h; exact .inl rfl
    | scr es => cases h; exact .inl rfl
    | tup es => cases h; exact .inr rfl
    | _ => cases h
  · rw [any_py x h1 ds h2]
    exact q
abbrev rInU (K : PySem.W.Frag) : R2 := fun x y H Q => (rIn K false x y H Q ∨ rInDeep K id x y H Q) ∨ ∃ i j, x = .str i ∧ y = .str j ∧ Q (.bl (!(Builtin.Str.occurrences j i 0 j.length 1).isEmpty)) H
abbrev rNotInU (K : PySem.W.Frag) : R2 := fun x y H Q => (rIn K true x y H Q ∨ rInDeep K not x y H Q) ∨ ∃ i j, x = .str i ∧ y = .str j ∧ Q (.bl (!(!(Builtin.Str.occurrences j i 0 j.length 1).isEmpty))) H
theorem op_inU (hu : X.A.units + 64 < cLine) : OpR X (compareOp .In) (rInU X.K) := OpR.or (OpR.or op_in_seq (op_inDeep hu)) op_in_str
theorem op_notInU (hu : X.A.units + 64 < cLine) : OpR X (compareOp .NotIn) (rNotInU X.K) := OpR.or (OpR.or op_notIn_seq (op_notInDeep hu)) op_notIn_str
theorem items_at {F H H0 : Hp} {L : List Addr} {σ : St} {ρ : REnv} {st : Store} {y : D} {u : V} {ds : List D} (rl : Rl K mg Γ F L σ H ρ st) (ky : kR K mg σ H0 ρ F L H y u) (h : itemsOf y = some ds) : ∃ p vs, u = .ref p ∧ (SqL K H p vs ∨ SqT K H p vs) ∧ RepL K mg F ds vs := by
  cases y with
  | lst es => cases h; obtain ⟨a, vs, rfl, h1, h2⟩ := ky.lst rl; exact ⟨a, vs, rfl, .inl (.inl (.inl h1)), h2⟩
  | tup es => cases h; obtain ⟨a, vs, rfl, h1, h2, _⟩ := ky.tup rl; exact ⟨a, vs, rfl, .inr h1, h2⟩
  | scr es => cases h; obtain ⟨a, vs, rfl, h1, h2⟩ := ky.scr rl; exact ⟨a, vs, rfl, .inl h1, h2⟩
  | _ => cases h
theorem key_at {F H H0 : Hp} {L : List Addr} {σ : St} {ρ : REnv} {st : Store} {x : D} {v : V} {kk : Key} (rl : Rl K mg Γ F L σ H ρ st) (kx : kR K mg σ H0 ρ F L H x v) (h : keyOf x = some kk) : v = L2.kV kk := by
  cases x with
  | int i => cases h; exact kx.int rl
  | str s => cases h; exact kx.str rl
  | _ => cases h
/-- the outcome of b, asked behind a, is of a kind -/
def sndIs (pr : D → Bool) (ma mb : EDen) (ρ : REnv) (st : Store) : Prop := ∃ x st1 y st2, ma ρ st = .ok x st1 ∧ mb ρ st1 = .ok y st2 ∧ pr y = true
def fstIs (pr : D → Bool) (ma : EDen) (ρ : REnv) (st : Store) : Prop := ∃ x st1, ma ρ st = .ok x st1 ∧ pr x = true
def isDct : D → Bool
  | .dct _ => true
  | _ => false
theorem sem_in : ∀ (Γ : Ent) (W : WX) (F : Hp) (L : List Addr) (σ : St) (H : Hp) (ρ : REnv) (st : Store) (x y : D) (v u : V) (Q : VK), isDct y = false → Rl K mg Γ F L σ H ρ st → kR K mg σ H ρ F L H x v → kR K mg σ H ρ F L H y u →
    Post K mg W σ F L H (gIn x y st) (fun F' L' H' _ d => ∀ w, kV K mg σ H ρ F' L' H' d w → Q w H') → rInU K v u H Q := by
  intro Γ W F L σ H ρ st x y v u Q nd rl kx ky q
  unfold gIn at q
  split at q
  · rename_i bb eb
    unfold isIn at eb
    split at eb
    · rename_i s
      split at eb
      · rename_i t
        cases eb
        exact .inr ⟨t, s, kx.str rl, ky.str rl, q.here rl.sto _ (.inr rfl)⟩
      · cases eb
    · cases nd
    · split at eb
      · rename_i ds hds
        split at eb
        · rename_i hf
          cases eb
          obtain ⟨p, vs, rfl, h1, h2⟩ := items_at rl ky hds
          have kx' : VRep K mg L F x v := kx.val rl (by intro F H a hs; cases x <;> first | exact hs | simp [flatD] at hf)
          obtain ⟨f1, f2⟩ := flatL_of (F := F) hf.1 kx' hf.2 h2
          have g1 := (flat_of (F := F) (H := F) hf.1 kx').1
          exact .inl (.inl ⟨p, vs, rfl, h1, g1, f1, by rw [if_neg Bool.false_ne_true, f2]; exact q.here rl.sto _ (.inr rfl)⟩)
        · split at eb
          · rename_i hf
            cases eb
            exact .inl (.inr (deep_at rl kx ky hds hf.1 hf.2 (q.here rl.sto _ (.inr rfl))))
          · cases eb
      · cases eb
  · exact q.elim
theorem sem_notIn : ∀ (Γ : Ent) (W : WX) (F : Hp) (L : List Addr) (σ : St) (H : Hp) (ρ : REnv) (st : Store) (x y : D) (v u : V) (Q : VK), isDct y = false → Rl K mg Γ F L σ H ρ st → kR K mg σ H ρ F L H x v → kR K mg σ H ρ F L H y u →
    Post K mg W σ F L H (gNotIn x y st) (fun F' L' H' _ d => ∀ w, kV K mg σ H ρ F' L' H' d w → Q w H') → rNotInU K v u H Q := by
  intro Γ W F L σ H ρ st x y v u Q nd rl kx ky q
  unfold gNotIn at q
  split at q
  · rename_i bb eb
    unfold isIn at eb
    split at eb
    · rename_i s
      split at eb
      · rename_i t
        cases eb
        exact .inr ⟨t, s, kx.str rl, ky.str rl, q.here rl.sto _ (.inr rfl)⟩
      · cases eb
    · cases nd
    · split at eb
      · rename_i ds hds
        split at eb
        · rename_i hf
          cases eb
          obtain ⟨p, vs, rfl, h1, h2⟩ := items_at rl ky hds
          have kx' : VRep K mg L F x v := kx.val rl (by intro F H a hs; cases x <;> first | exact hs | simp [flatD] at hf)
          obtain ⟨f1, f2⟩ := flatL_of (F := F) hf.1 kx' hf.2 h2
          have g1 := (flat_of (F := F) (H := F) hf.1 kx').1
          exact .inl (.inl ⟨p, vs, rfl, h1, g1, f1, by rw [if_pos rfl, f2]; exact q.here rl.sto _ (.inr rfl)⟩)
        · split at eb
          · rename_i hf
            cases eb
            exact .inl (.inr (deep_at rl kx ky hds hf.1 hf.2 (q.here rl.sto _ (.inr rfl))))
          · cases eb
      · cases eb
  · exact q.elim
/-- in a list, a tuple, a text, a dict -/
theorem in_go {X : Cx} {mg : Glob} {Γ : Ent} {W : WX} {ma mb : EDen} {σ : St} {H : Hp} {Q : VK} (h : teV X.K mg Γ W (e2 gIn ma mb) σ H Q) : tOp (rInU X.K) (teR X.K mg Γ W ma) (teR X.K mg Γ W mb) σ H Q ∨ tDIn (teR X.K mg Γ W ma) (teR X.K mg Γ W mb) σ H Q := by
  obtain ⟨F, L, ρ, st, rl, q⟩ := h
  by_cases hd : sndIs isDct ma mb ρ st
  · right
    obtain ⟨x0, st1', y0, st2', e1, e2', hy⟩ := hd
    refine ⟨F, L, ρ, st, rl, q.bind.impE fun F1 L1 H1 st1 x ex s1 o1 p1 v kv => ?_⟩
    have rl1 := rl.step s1 o1
    refine ⟨F1, L1, ρ, st1, rl1, p1.bind.impE fun F2 L2 H2 st2 y ey s2 o2 p2 u ku => ?_⟩
    have rl2 := rl1.step s2 o2
    have kv2 : kR X.K mg σ H2 ρ F2 L2 H2 x v := kR.step kv s2
    rw [e1] at ex; cases ex
    rw [e2'] at ey; cases ey
    unfold gIn at p2
    split at p2
    · rename_i bb eb
      cases y0 with
      | dct kvs =>
        have eb : (match keyOf x0 with
          | some k => some (valD kvs k).isSome
          | none => none) = some bb := eb
        split at eb
        · rename_i kk hk
          cases eb
          obtain ⟨a', vs, rfl, h1, h2⟩ := ku.dct rl2
          cases key_at rl2 kv2 hk
          refine ⟨a', valV vs kk, rfl, .inl ⟨vs, kk, h1, rfl, rfl⟩, ?_⟩
          have : (valV vs kk).isSome = (valD kvs kk).isSome := by
            rcases h2.val kk with ⟨z1, z2⟩ | ⟨d, w, z1, z2, _⟩ <;> rw [z1, z2] <;> rfl
          rw [this]
          exact p2.here o2 _ (.inr rfl)
        · cases eb
      | _ => cases hy
    · exact p2.elim
  · left
    refine ⟨F, L, ρ, st, rl, q.bind.impE fun F1 L1 H1 st1 x ex s1 o1 p1 v kv => ?_⟩
    have rl1 := rl.step s1 o1
    refine ⟨F1, L1, ρ, st1, rl1, p1.bind.impE fun F2 L2 H2 st2 y ey s2 o2 p2 u ku => ?_⟩
    have rl2 := rl1.step s2 o2
    have nd : isDct y = false := by
      cases h : isDct y with
      | false => rfl
      | true => exact absurd ⟨x, st1, y, st2, ex, ey, h⟩ hd
    exact sem_in Γ W F2 L2 σ H2 ρ st2 x y v u Q nd rl2 (kR.step kv s2) ku p2
theorem g_in (hK : X.K = K) (hu : X.A.units + 64 < cLine) (ha : PE X a (teR K mg Γ W ma)) (hb : PE X b (teR K mg Γ W mb)) (hm : behindInMarks .In b = false := by rfl) : PE X (.Compare a [.In] [b] pos) (teV K mg Γ W (e2 gIn ma mb)) := by
  subst hK
  exact pe_imp (pe_or' (pe_cmpR (op_inU hu) ha hb hm) (pe_cmp (pc_din (by omega) ha hb) hm)) fun σ H Q h => in_go h
theorem notIn_go {X : Cx} {mg : Glob} {Γ : Ent} {W : WX} {ma mb : EDen} {σ : St} {H : Hp} {Q : VK} (h : teV X.K mg Γ W (e2 gNotIn ma mb) σ H Q) : tOp (rNotInU X.K) (teR X.K mg Γ W ma) (teR X.K mg Γ W mb) σ H Q ∨ tDNotIn (teR X.K mg Γ W ma) (teR X.K mg Γ W mb) σ H Q := by
  obtain ⟨F, L, ρ, st, rl, q⟩ := h
  by_cases hd : sndIs isDct ma mb ρ st
  · right
    obtain ⟨x0, st1', y0, st2', e1, e2', hy⟩ := hd
    refine ⟨F, L, ρ, st, rl, q.bind.impE fun F1 L1 H1 st1 x ex s1 o1 p1 v kv => ?_⟩
    have rl1 := rl.step s1 o1
    refine ⟨F1, L1, ρ, st1, rl1, p1.bind.impE fun F2 L2 H2 st2 y ey s2 o2 p2 u ku => ?_⟩
    have rl2 := rl1.step s2 o2
    have kv2 : kR X.K mg σ H2 ρ F2 L2 H2 x v := kR.step kv s2
    rw [e1] at ex; cases ex
    rw [e2'] at ey; cases ey
    unfold gNotIn at p2
    split at p2
    · rename_i bb eb
      cases y0 with
      | dct kvs =>
        have eb : (match keyOf x0 with
          | some k => some (valD kvs k).isSome
          | none => none) = some bb := eb
        split at eb
        · rename_i kk hk
          cases eb
          obtain ⟨a', vs, rfl, h1, h2⟩ := ku.dct rl2
          cases key_at rl2 kv2 hk
          refine ⟨a', valV vs kk, rfl, .inl ⟨vs, kk, h1, rfl, rfl⟩, ?_⟩
          have : (valV vs kk).isSome = (valD kvs kk).isSome := by
            rcases h2.val kk with ⟨z1, z2⟩ | ⟨d, w, z1, z2, _⟩ <;> rw [z1, z2] <;> rfl
          rw [this]
          exact p2.here o2 _ (.inr rfl)
        · cases eb
      | _ => cases hy
    · exact p2.elim
  · left
    refine ⟨F, L, ρ, st, rl, q.bind.impE fun F1 L1 H1 st1 x ex s1 o1 p1 v kv => ?_⟩
    have rl1 := rl.step s1 o1
    refine ⟨F1, L1, ρ, st1, rl1, p1.bind.impE fun F2 L2 H2 st2 y ey s2 o2 p2 u ku => ?_⟩
    have rl2 := rl1.step s2 o2
    have nd : isDct y = false := by
      cases h : isDct y with
      | false => rfl
      | true => exact absurd ⟨x, st1, y, st2, ex, ey, h⟩ hd
    exact sem_notIn Γ W F2 L2 σ H2 ρ st2 x y v u Q nd rl2 (kR.step kv s2) ku p2
theorem g_notIn (hK : X.K = K) (hu : X.A.units + 64 < cLine) (ha : PE X a (teR K mg Γ W ma)) (hb : PE X b (teR K mg Γ W mb)) (hm : behindInMarks .NotIn b = false := by rfl) : PE X (.Compare a [.NotIn] [b] pos) (teV K mg Γ W (e2 gNotIn ma mb)) := by
  subst hK
  exact pe_imp (pe_or' (pe_cmpR (op_notInU hu) ha hb hm) (pe_cmp (pc_dnotin (by omega) ha hb) hm)) fun σ H Q h => notIn_go h
/-! ### places -/
def gIx : Op2 := fun x y st => match x, y with
  | .dct kvs, y => (match keyOf y with
    | some k => (match valD kvs k with
      | some d => .ok d st
      | none => .bad)
    | none => .bad)
  | .str s, .int i => if s.length ≤ sizeLine then (match atI s.cps.toList i with
    | some c => .ok (.str ⟨#[c]⟩) st
    | none => .bad) else .bad
  | .loc n, .int i => (match st[n]? with
    | some (.lst ds) => (match atI ds i with
      | some d => .ok d st
      | none => .bad)
    | _ => .bad)
  | x, .int i => (match itemsOf x with
    | some ds => (match atI ds i with
      | some d => .ok d st
      | none => .bad)
    | none => .bad)
  | _, _ => .bad
theorem atI_rep {F : Hp} {ds : List D} {vs : List V} {i : Int} {d : D} (r : RepL K mg F ds vs) (h : atI ds i = some d) : ∃ v, atI vs i = some v ∧ Rep K mg F d v := by
  unfold atI at h ⊢
  rw [← r.length]
  cases hx : ixN ds.length i with
  | none => rw [hx] at h; cases h
  | some j =>
    rw [hx] at h
    exact r.get h
theorem g_sub (hK : X.K = K) (hu : X.A.units + 1 < cLine) (ha : PE X a (teR K mg Γ W ma)) (hb : PE X b (teR K mg Γ W mb)) (hx : PlainIx b := by exact fun _ _ => rfl) : PE X (.Subscript a b pos) (teV K mg Γ W (e2 gIx ma mb)) := by
  subst hK
  refine pe_imp (pe_or' (pe_ix ix_seq ha hb hx) (pe_dget hu ha hb hx)) fun σ H Q ⟨F, L, ρ, st, rl, q⟩ => ?_
  by_cases hd : fstIs isDct ma ρ st
  · right
    obtain ⟨x0, st1', e1, hy⟩ := hd
    refine ⟨F, L, ρ, st, rl, q.bind.impE fun F1 L1 H1 st1 x ex s1 o1 p1 v kv => ?_⟩
    have rl1 := rl.step s1 o1
    refine ⟨F1, L1, ρ, st1, rl1, p1.bind.imp fun F2 L2 H2 st2 y s2 o2 p2 u ku => ?_⟩
    have rl2 := rl1.step s2 o2
    have kv2 : kR X.K mg σ H2 ρ F2 L2 H2 x v := kR.step kv s2
    rw [e1] at ex; cases ex
    cases x0 with
    | dct kvs =>
      have p2 : Post X.K mg W σ F2 L2 H2 (match keyOf y with
        | some k => (match valD kvs k with
          | some d => .ok d st2
          | none => .bad)
        | none => .bad) _ := p2
      split at p2
      · rename_i kk hk
        split at p2
        · rename_i d hv
          obtain ⟨a', vs, rfl, h1, h2⟩ := kv2.dct rl2
          cases key_at rl2 ku hk
          rcases h2.val kk with ⟨z1, z2⟩ | ⟨d', w, z1, z2, z3⟩
          · rw [z1] at hv; cases hv
          · rw [z1] at hv; cases hv
            exact ⟨a', w, rfl, .inl ⟨vs, kk, h1, rfl, z2.symm⟩, p2.here o2 _ (.inr z3)⟩
        · exact p2.elim
      · exact p2.elim
    | _ => cases hy
  · left
    refine ⟨F, L, ρ, st, rl, q.bind.impE fun F1 L1 H1 st1 x ex s1 o1 p1 v kv => ?_⟩
    have rl1 := rl.step s1 o1
    refine ⟨F1, L1, ρ, st1, rl1, p1.bind.imp fun F2 L2 H2 st2 y s2 o2 p2 u ku => ?_⟩
    have rl2 := rl1.step s2 o2
    have kv2 : kR X.K mg σ H2 ρ F2 L2 H2 x v := kR.step kv s2
    unfold gIx at p2
    split at p2
    · rename_i kvs yy
      exact absurd ⟨_, _, ex, rfl⟩ hd
    · rename_i s i
      split at p2
      · rename_i hl
        split at p2
        · rename_i c hc
          exact .inr (.inr ⟨s, i, c, kv2.str rl2, ku.int rl2, hl, hc, p2.here o2 _ (.inr rfl)⟩)
        · exact p2.elim
      · exact p2.elim
    · rename_i n i
      split at p2
      · rename_i ds hst
        split at p2
        · rename_i d hd'
          have := kv2.val rl2 fun _ _ _ h => h
          obtain ⟨a', h1, rfl⟩ := this.loc
          obtain ⟨nF, vs, h2, h3⟩ := o2.at_ n a' _ h1 hst
          obtain ⟨w, w1, w2⟩ := atI_rep h3 hd'
          exact .inl ⟨a', vs, i, w, rfl, ku.int rl2, .inl (.inl h2), w1, p2.here o2 _ (.inr w2)⟩
        · exact p2.elim
      · exact p2.elim
    · rename_i i _ _ _
      split at p2
      · rename_i ds hds
        split at p2
        · rename_i d hd'
          obtain ⟨p, vs, rfl, h1, h2⟩ := items_at rl2 kv2 hds
          obtain ⟨w, w1, w2⟩ := atI_rep h2 hd'
          rcases h1 with h1 | h1
          · exact .inl ⟨p, vs, i, w, rfl, ku.int rl2, h1, w1, p2.here o2 _ (.inr w2)⟩
          · exact .inr (.inl ⟨p, vs, i, w, rfl, ku.int rl2, h1, w1, p2.here o2 _ (.inr w2)⟩)
        · exact p2.elim
      · exact p2.elim
    · exact p2.elim
end
end Gh
/-! Gh10: cuts, built-ins, isinstance, truth and == of instances. -/
namespace Gh
open L2 PyProof.Rows PySem.Spec PySem
section
variable {X : Cx} {K : PySem.W.Frag} {mg : Glob} {Γ : Ent} {W : WX} {e a b : Expr} {es : List Expr} {m ma mb : EDen} {ms : ADen} {pos p p2 : Pos} {k : Kd}
/-! ### cuts -/
abbrev ODen := REnv → Store → RC (Option Int)
def oNone : ODen := fun _ st => .ok none st
def oSome (m : EDen) : ODen := fun ρ st => (m ρ st).bind fun d st1 => match d with
  | .int i => .ok (some i) st1
  | _ => .bad
def toG (K : PySem.W.Frag) (mg : Glob) (Γ : Ent) (W : WX) (m : ODen) : TO := fun σ H Q => ∃ F L ρ st, Rl K mg Γ F L σ H ρ st ∧
  Post K mg W σ F L H (m ρ st) fun F' L' H' _ o => Q o H'
theorem po_imp {e : Option Expr} {t t' : TO} (h : PO X e t) (k : ∀ σ H Q, t' σ H Q → t σ H Q) : PO X e t' := ⟨fun pins s σ H Q I q => h.run pins s σ H Q I (k σ H Q q)⟩
theorem o_none : PO X none (toG K mg Γ W oNone) := po_imp po_none fun σ H Q ⟨F, L, ρ, st, rl, q⟩ => q.here rl.sto
theorem o_some (h : PE X e (teR K mg Γ W m)) : PO X (some e) (toG K mg Γ W (oSome m)) := by
  refine po_imp (po_some h) fun σ H Q ⟨F, L, ρ, st, rl, q⟩ => ⟨F, L, ρ, st, rl, q.bind.imp fun F1 L1 H1 st1 d s o q1 v kv => ?_⟩
  split at q1
  · rename_i i
    exact ⟨i, kv.int (rl.step s o), q1.here o⟩
  · exact q1.elim
def cutD (ds : List D) (lo hi : Option Int) : List D := (ds.drop (HT.sIx ds.length 0 lo)).take (HT.sIx ds.length ds.length hi - HT.sIx ds.length 0 lo)
theorem cutD_rep {F : Hp} {ds : List D} {vs : List V} (r : RepL K mg F ds vs) (lo hi : Option Int) : RepL K mg F (cutD ds lo hi) (cutV vs lo hi) := by
  unfold cutD cutV
  rw [← r.length]
  exact (r.drop _).take _
def gCut (x : D) (lo hi : Option Int) (st : Store) : RC D := match x with
  | .lst ds => .ok (.lst (cutD ds lo hi)) st
  | .tup ds => .ok (.tup (cutD ds lo hi)) st
  | _ => .bad
def eCut (m : EDen) (lo hi : ODen) : EDen := fun ρ st => (m ρ st).bind fun x st1 => (lo ρ st1).bind fun l st2 => (hi ρ st2).bind fun h st3 => gCut x l h st3
def gCutL (x : D) (lo hi : Option Int) (st : Store) : RC D := match x with
  | .lst ds => .ok (.lst (cutD ds lo hi)) st
  | _ => .bad
/-- .. of a list, a new one -/
def eCutL (m : EDen) (lo hi : ODen) : EDen := fun ρ st => (m ρ st).bind fun x st1 => (lo ρ st1).bind fun l st2 => (hi ρ st2).bind fun h st3 => gCutL x l h st3
theorem cutV_whole {xs : List V} {lo hi : Option Int} (h : HT.sIx xs.length 0 lo = 0 ∧ HT.sIx xs.length xs.length hi = xs.length) : cutV xs lo hi = xs := by
  unfold cutV
  rw [h.1, h.2]
  simp
theorem g_cut {elo ehi : Option Expr} {lo hi : ODen} (hK : X.K = K) (he : PE X e (teR K mg Γ W m)) (hl : PO X elo (toG K mg Γ W lo)) (hh : PO X ehi (toG K mg Γ W hi)) : PE X (.Subscript e (.Slice elo ehi none p2) pos) (teV K mg Γ W (eCut m lo hi)) := by
  subst hK
  refine pe_imp (pe_slice (SlR.or sl_list sl_tupA) he hl hh) fun σ H Q ⟨F, L, ρ, st, rl, q⟩ => ⟨F, L, ρ, st, rl, q.bind.imp fun F1 L1 H1 st1 x s1 o1 p1 v kv => ?_⟩
  have rl1 := rl.step s1 o1
  refine ⟨F1, L1, ρ, st1, rl1, p1.bind.imp fun F2 L2 H2 st2 l s2 o2 p2 => ?_⟩
  have rl2 := rl1.step s2 o2
  refine ⟨F2, L2, ρ, st2, rl2, p2.bind.imp fun F3 L3 H3 st3 h s3 o3 p3 => ?_⟩
  have rl3 := rl2.step s3 o3
  have kv3 : kR X.K mg σ H3 ρ F3 L3 H3 x v := kR.step (kR.step (H0' := H2) (H3 := H2) kv s2) s3
  unfold gCut at p3
  split at p3
  · rename_i ds
    obtain ⟨a, vs, rfl, h1, h2⟩ := kv3.lst rl3
    refine .inl ⟨a, vs, rfl, .inl (.inl h1), fun z nz => ?_⟩
    obtain ⟨s, o⟩ := o3.lay (o := .lst (cutV vs l h)) nz
    exact p3 _ _ _ s o _ (.inr ⟨z, _, rfl, upd_same, RepL.mono s.ex _ (cutD_rep h2 l h)⟩)
  · rename_i ds
    obtain ⟨a, vs, rfl, h1, h2, h3⟩ := kv3.tup rl3
    refine .inr ⟨a, vs, rfl, h1, fun w => ?_, fun w z nz => ?_⟩
    · have r := cutD_rep h2 l h
      rw [cutV_whole w] at r
      exact p3.here o3 _ (.inr ⟨a, vs, rfl, h3, r⟩)
    · obtain ⟨s, o⟩ := o3.lay (o := .tup (cutV vs l h)) nz
      exact p3 _ _ _ s o _ (.inr ⟨z, _, rfl, .inl (.inl upd_same), RepL.mono s.ex _ (cutD_rep h2 l h)⟩)
  · exact p3.elim
theorem g_cutL {elo ehi : Option Expr} {lo hi : ODen} (hK : X.K = K) (he : PE X e (teR K mg Γ W m)) (hl : PO X elo (toG K mg Γ W lo)) (hh : PO X ehi (toG K mg Γ W hi)) : PE X (.Subscript e (.Slice elo ehi none p2) pos) (teO K mg Γ W (eCutL m lo hi)) := by
  subst hK
  refine pe_imp (pe_slice sl_list he hl hh) fun σ H Q ⟨F, L, ρ, st, rl, q⟩ => ⟨F, L, ρ, st, rl, q.bind.imp fun F1 L1 H1 st1 x s1 o1 p1 v kv => ?_⟩
  have rl1 := rl.step s1 o1
  refine ⟨F1, L1, ρ, st1, rl1, p1.bind.imp fun F2 L2 H2 st2 l s2 o2 p2 => ?_⟩
  have rl2 := rl1.step s2 o2
  refine ⟨F2, L2, ρ, st2, rl2, p2.bind.imp fun F3 L3 H3 st3 h s3 o3 p3 => ?_⟩
  have rl3 := rl2.step s3 o3
  have kv3 : kR X.K mg σ H3 ρ F3 L3 H3 x v := kR.step (kR.step (H0' := H2) (H3 := H2) kv s2) s3
  unfold gCutL at p3
  split at p3
  · rename_i ds
    obtain ⟨a, vs, rfl, h1, h2⟩ := kv3.lst rl3
    refine ⟨a, vs, rfl, .inl (.inl h1), fun z nz => ?_⟩
    refine p3 _ _ _ (Stp.fresh nz) (o3.fresh nz) _ ⟨z, rfl, ?_, rl3.newF nz, rl3.newL nz, _, upd_same, cutD_rep h2 l h⟩
    cases hz : H z with
    | none => rfl
    | some u => exact absurd nz (s3.more o3 z (s2.more o2 z (s1.more o1 z (by rw [hz]; simp))))
  · exact p3.elim

/-! ### built-ins -/
theorem KRL.one {Γ : Ent} {F H : Hp} {L : List Addr} {σ : St} {ρ : REnv} {d : D} {vs : List V} (h : KRL K mg σ ρ F L H [d] vs) : ∃ v, vs = [v] ∧ kR K mg σ H ρ F L H d v := by
  obtain ⟨v, r, rfl, h1, h2⟩ := h
  cases (show r = [] from h2)
  exact ⟨v, rfl, h1⟩
theorem KRL.two {Γ : Ent} {F H : Hp} {L : List Addr} {σ : St} {ρ : REnv} {d d' : D} {vs : List V} (h : KRL K mg σ ρ F L H [d, d'] vs) : ∃ v u, vs = [v, u] ∧ kR K mg σ H ρ F L H d v ∧ kR K mg σ H ρ F L H d' u := by
  obtain ⟨v, r, rfl, h1, h2⟩ := h
  obtain ⟨u, r', rfl, h3, h4⟩ := h2
  cases (show r' = [] from h4)
  exact ⟨v, u, rfl, h1, h3⟩
/-- len -/
theorem call_lenR : CallR X (.builtin "len") (fun xs H Q => ∃ a kvs, xs = [V.ref a] ∧ Rd H a (.dK kvs) ∧ Q (.int kvs.length) H) := by
  intro pins s σ H xs us Q I r h
  obtain ⟨a, kvs, rfl, ha, q⟩ := h
  obtain ⟨u, rfl, ru⟩ := vals1 r
  cases ru
  exact d_len I ha fun t s' I' => ⟨.int kvs.length, H, I', ⟨t, rfl⟩, q⟩
abbrev rLen (K : PySem.W.Frag) : List V → Hp → VK → Prop := fun xs H Q => (∃ p ys, xs = [.ref p] ∧ (SqL K H p ys ∨ SqT K H p ys) ∧ Q (.int ys.length) H) ∨ (∃ z, xs = [.str z] ∧ z.length ≤ sizeLine ∧ Q (.int z.length) H) ∨ ∃ a kvs, xs = [V.ref a] ∧ Rd H a (.dK kvs) ∧ Q (.int kvs.length) H
theorem call_lenU : CallR X (.builtin "len") (rLen X.K) := CallR.or call_len_seq (CallR.or call_len_str call_lenR)
def lenD : D → Option Nat
  | .str s => if s.length ≤ sizeLine then some s.length else none
  | .dct kvs => some kvs.length
  | x => (itemsOf x).map List.length
def gLen : OpN := fun ds st => match ds with
  | [d] => (match lenD d with
    | some n => .ok (.int n) st
    | none => .bad)
  | _ => .bad
theorem sem_len : SemN kV K mg gLen (rLen K) := by
  intro Γ W F L σ H ρ st ds vs Q rl kvs q
  unfold gLen at q
  split at q
  · rename_i d
    obtain ⟨v, rfl, kv⟩ := kvs.one (Γ := Γ)
    split at q
    · rename_i n hn
      have seq : ∀ ds, itemsOf d = some ds → n = ds.length → rLen K [v] H Q := fun ds hd e => by
        obtain ⟨p, us, rfl, h1, h2⟩ := items_at rl kv hd
        exact .inl ⟨p, us, rfl, h1, by rw [← h2.length, ← e]; exact q.here rl.sto _ (.inr rfl)⟩
      cases d with
      | str s =>
        have hn : (if s.length ≤ sizeLine then some s.length else none) = some n := hn
        split at hn
        · rename_i hl
          cases hn
          exact .inr (.inl ⟨s, by rw [kv.str rl], hl, q.here rl.sto _ (.inr rfl)⟩)
        · cases hn
      | dct kvs' =>
        cases hn
        obtain ⟨a, us, rfl, h1, h2⟩ := kv.dct rl
        exact .inr (.inr ⟨a, us, rfl, h1, by rw [← h2.length]; exact q.here rl.sto _ (.inr rfl)⟩)
      | lst ds => exact seq ds rfl (by simpa [lenD, itemsOf] using hn.symm)
      | tup ds => exact seq ds rfl (by simpa [lenD, itemsOf] using hn.symm)
      | scr ds => exact seq ds rfl (by simpa [lenD, itemsOf] using hn.symm)
      | _ => simp [lenD, itemsOf] at hn
    · exact q.elim
  · exact q.elim
/-- list(x), tuple(x) -/
def gList : OpN := fun ds st => match ds with
  | [d] => (match itemsOf d with
    | some es => .ok (.lst es) st
    | none => .bad)
  | _ => .bad
theorem sem_list : SemN kO K mg gList (fun xs H Q => ∃ p ys, xs = [.ref p] ∧ (SqL K H p ys ∨ SqT K H p ys) ∧ ∀ l, H l = none → Q (.ref l) (upd H l (.lst ys))) := by
  intro Γ W F L σ H ρ st ds vs Q rl kvs q
  unfold gList at q
  split at q
  · rename_i d
    obtain ⟨v, rfl, kv⟩ := kvs.one (Γ := Γ)
    split at q
    · rename_i es hd
      obtain ⟨p, us, rfl, h1, h2⟩ := items_at rl kv hd
      exact ⟨p, us, rfl, h1, fun z nz => q _ _ _ (Stp.fresh nz) (rl.sto.fresh nz) _ ⟨z, rfl, nz, rl.newF nz, rl.newL nz, us, upd_same, h2⟩⟩
    · exact q.elim
  · exact q.elim
def gTuple : OpN := fun ds st => match ds with
  | [d] => (match itemsOf d with
    | some es => .ok (.tup es) st
    | none => .bad)
  | _ => .bad
theorem sem_tuple : SemN kV K mg gTuple (fun xs H Q => ∃ p ys, xs = [.ref p] ∧ ((SqL K H p ys ∧ ∀ l, H l = none → Q (.ref l) (upd H l (.tup ys))) ∨ (SqT K H p ys ∧ Q (.ref p) H))) := by
  intro Γ W F L σ H ρ st ds vs Q rl kvs q
  unfold gTuple at q
  split at q
  · rename_i d
    obtain ⟨v, rfl, kv⟩ := kvs.one (Γ := Γ)
    split at q
    · rename_i es hd
      have new : ∀ us, RepL K mg F es us → ∀ l, H l = none → Q (.ref l) (upd H l (.tup us)) := fun us h2 l nl => by
        obtain ⟨s, o⟩ := rl.sto.lay (o := .tup us) nl
        exact q _ _ _ s o _ (.inr ⟨l, us, rfl, .inl (.inl upd_same), RepL.mono s.ex _ h2⟩)
      cases d with
      | lst es' => cases hd; obtain ⟨a, us, rfl, h1, h2⟩ := kv.lst rl; exact ⟨a, us, rfl, .inl ⟨.inl (.inl h1), new us h2⟩⟩
      | scr es' => cases hd; obtain ⟨a, us, rfl, h1, h2⟩ := kv.scr rl; exact ⟨a, us, rfl, .inl ⟨h1, new us h2⟩⟩
      | tup es' => cases hd; obtain ⟨a, us, rfl, h1, h2, h3⟩ := kv.tup rl; exact ⟨a, us, rfl, .inr ⟨h1, q.here rl.sto _ (.inr ⟨a, us, rfl, h3, h2⟩)⟩⟩
      | _ => cases hd
    · exact q.elim
  · exact q.elim
/-- lists of ints, of truth values -/
def asInts : List D → Option (List Int)
  | [] => some []
  | .int i :: r => (asInts r).map (i :: ·)
  | _ => none
def asBools : List D → Option (List Bool)
  | [] => some []
  | .bl i :: r => (asBools r).map (i :: ·)
  | _ => none
theorem asInts_rep {F : Hp} : ∀ {ds : List D} {vs : List V} {ns : List Int}, RepL K mg F ds vs → asInts ds = some ns → vs = ns.map V.int
  | [], vs, ns, r, h => by
    cases (show vs = [] from r)
    cases h
    rfl
  | d :: ds, vs, ns, r, h => by
    obtain ⟨v, r', rfl, r1, r2⟩ := r
    cases d with
    | int i =>
      have h : (asInts ds).map (i :: ·) = some ns := h
      cases h2 : asInts ds with
      | none => rw [h2] at h; cases h
      | some ms =>
        rw [h2] at h
        cases h
        cases (show v = .int i from r1)
        rw [asInts_rep r2 h2] <;> rfl
    | _ => cases h
theorem asBools_rep {F : Hp} : ∀ {ds : List D} {vs : List V} {ns : List Bool}, RepL K mg F ds vs → asBools ds = some ns → vs = ns.map V.bl
  | [], vs, ns, r, h => by
    cases (show vs = [] from r)
    cases h
    rfl
  | d :: ds, vs, ns, r, h => by
    obtain ⟨v, r', rfl, r1, r2⟩ := r
    cases d with
    | bl i =>
      have h : (asBools ds).map (i :: ·) = some ns := h
      cases h2 : asBools ds with
      | none => rw [h2] at h; cases h
      | some ms =>
        rw [h2] at h
        cases h
        cases (show v = .bl i from r1)
        rw [asBools_rep r2 h2] <;> rfl
    | _ => cases h
theorem list_at {F H H0 : Hp} {L : List Addr} {σ : St} {ρ : REnv} {st : Store} {ds : List D} {v : V} (rl : Rl K mg Γ F L σ H ρ st) (kv : kR K mg σ H0 ρ F L H (.lst ds) v) : ∃ a vs, v = .ref a ∧ SqL K H a vs ∧ RepL K mg F ds vs := by
  obtain ⟨a, vs, rfl, h1, h2⟩ := kv.lst rl
  exact ⟨a, vs, rfl, .inl (.inl h1), h2⟩
def gAll : OpN := fun ds st => match ds with
  | [.lst es] => (match asBools es with
    | some bs => .ok (.bl (bs.all id)) st
    | none => .bad)
  | _ => .bad
def gAny : OpN := fun ds st => match ds with
  | [.lst es] => (match asBools es with
    | some bs => .ok (.bl (bs.any id)) st
    | none => .bad)
  | _ => .bad
theorem sem_all : SemN kV K mg gAll (rAll K) := by
  intro Γ W F L σ H ρ st ds vs Q rl kvs q
  unfold gAll at q
  split at q
  · rename_i es
    obtain ⟨v, rfl, kv⟩ := kvs.one (Γ := Γ)
    split at q
    · rename_i bs hb
      obtain ⟨a, us, rfl, h1, h2⟩ := list_at rl kv
      cases asBools_rep h2 hb
      exact ⟨a, bs, rfl, h1, q.here rl.sto _ (.inr rfl)⟩
    · exact q.elim
  · exact q.elim
theorem sem_any : SemN kV K mg gAny (rAny K) := by
  intro Γ W F L σ H ρ st ds vs Q rl kvs q
  unfold gAny at q
  split at q
  · rename_i es
    obtain ⟨v, rfl, kv⟩ := kvs.one (Γ := Γ)
    split at q
    · rename_i bs hb
      obtain ⟨a, us, rfl, h1, h2⟩ := list_at rl kv
      cases asBools_rep h2 hb
      exact ⟨a, bs, rfl, h1, q.here rl.sto _ (.inr rfl)⟩
    · exact q.elim
  · exact q.elim
def maxI : List Int → Int
  | [] => 0
  | [i] => i
  | i :: r => max i (maxI r)
def minI : List Int → Int
  | [] => 0
  | [i] => i
  | i :: r => min i (minI r)
theorem maxI_is : ∀ (ns : List Int) (m : Int), m ∈ ns → (∀ y, y ∈ ns → y ≤ m) → maxI ns = m
  | [], m, h, _ => by simp at h
  | [i], m, h, _ => by
    have : m = i := by simpa using h
    exact this.symm
  | i :: j :: r, m, h, hm => by
    show max i (maxI (j :: r)) = m
    by_cases hr : m ∈ j :: r
    · rw [maxI_is (j :: r) m hr (fun y hy => hm y (List.mem_cons_of_mem _ hy))]
      have := hm i List.mem_cons_self
      omega
    · have e : m = i := by
        rcases List.mem_cons.mp h with h | h
        · exact h
        · exact absurd h hr
      subst e
      have le : ∀ l : List Int, l ≠ [] → (∀ y, y ∈ l → y ≤ m) → maxI l ≤ m := by
        intro l
        induction l with
        | nil => intro h; exact absurd rfl h
        | cons x l ih =>
          intro _ h
          cases l with
          | nil => exact h x List.mem_cons_self
          | cons z l =>
            show max x (maxI (z :: l)) ≤ m
            have := ih (by simp) (fun y hy => h y (List.mem_cons_of_mem _ hy))
            have := h x List.mem_cons_self
            omega
      have := le (j :: r) (by simp) (fun y hy => hm y (List.mem_cons_of_mem _ hy))
      omega
theorem minI_is : ∀ (ns : List Int) (m : Int), m ∈ ns → (∀ y, y ∈ ns → m ≤ y) → minI ns = m
  | [], m, h, _ => by simp at h
  | [i], m, h, _ => by
    have : m = i := by simpa using h
    exact this.symm
  | i :: j :: r, m, h, hm => by
    show min i (minI (j :: r)) = m
    by_cases hr : m ∈ j :: r
    · rw [minI_is (j :: r) m hr (fun y hy => hm y (List.mem_cons_of_mem _ hy))]
      have := hm i List.mem_cons_self
      omega
    · have e : m = i := by
        rcases List.mem_cons.mp h with h | h
        · exact h
        · exact absurd h hr
      subst e
      have le : ∀ l : List Int, l ≠ [] → (∀ y, y ∈ l → m ≤ y) → m ≤ minI l := by
        intro l
        induction l with
        | nil => intro h; exact absurd rfl h
        | cons x l ih =>
          intro _ h
          cases l with
          | nil => exact h x List.mem_cons_self
          | cons z l =>
            show m ≤ min x (minI (z :: l))
            have := ih (by simp) (fun y hy => h y (List.mem_cons_of_mem _ hy))
            have := h x List.mem_cons_self
            omega
      have := le (j :: r) (by simp) (fun y hy => hm y (List.mem_cons_of_mem _ hy))
      omega
def gMax : OpN := fun ds st => match ds with
  | [.lst es] => (match asInts es with
    | some (n :: ns) => .ok (.int (maxI (n :: ns))) st
    | _ => .bad)
  | _ => .bad
def gMin : OpN := fun ds st => match ds with
  | [.lst es] => (match asInts es with
    | some (n :: ns) => .ok (.int (minI (n :: ns))) st
    | _ => .bad)
  | _ => .bad
def gSum : OpN := fun ds st => match ds with
  | [.lst es] => (match asInts es with
    | some ns => .ok (.int ns.sum) st
    | _ => .bad)
  | _ => .bad
theorem sem_max : SemN kV K mg gMax (rMax K) := by
  intro Γ W F L σ H ρ st ds vs Q rl kvs q
  unfold gMax at q
  split at q
  · rename_i es
    obtain ⟨v, rfl, kv⟩ := kvs.one (Γ := Γ)
    split at q
    · rename_i n ns hb
      obtain ⟨a, us, rfl, h1, h2⟩ := list_at rl kv
      cases asInts_rep h2 hb
      refine ⟨a, n :: ns, rfl, h1, by simp, fun m hm hy => ?_⟩
      rw [maxI_is _ m hm hy] at q
      exact q.here rl.sto _ (.inr rfl)
    · exact q.elim
  · exact q.elim
theorem sem_min : SemN kV K mg gMin (rMin K) := by
  intro Γ W F L σ H ρ st ds vs Q rl kvs q
  unfold gMin at q
  split at q
  · rename_i es
    obtain ⟨v, rfl, kv⟩ := kvs.one (Γ := Γ)
    split at q
    · rename_i n ns hb
      obtain ⟨a, us, rfl, h1, h2⟩ := list_at rl kv
      cases asInts_rep h2 hb
      refine ⟨a, n :: ns, rfl, h1, by simp, fun m hm hy => ?_⟩
      rw [minI_is _ m hm hy] at q
      exact q.here rl.sto _ (.inr rfl)
    · exact q.elim
  · exact q.elim
theorem sem_sum : SemN kV K mg gSum (rSum K) := by
  intro Γ W F L σ H ρ st ds vs Q rl kvs q
  unfold gSum at q
  split at q
  · rename_i es
    obtain ⟨v, rfl, kv⟩ := kvs.one (Γ := Γ)
    split at q
    · rename_i ns hb
      obtain ⟨a, us, rfl, h1, h2⟩ := list_at rl kv
      cases asInts_rep h2 hb
      exact ⟨a, ns, rfl, h1, q.here rl.sto _ (.inr rfl)⟩
    · exact q.elim
  · exact q.elim
def gMax2 : OpN := fun ds st => match ds with
  | [.int i, .int j] => .ok (.int (if j > i then j else i)) st
  | _ => .bad
def gMin2 : OpN := fun ds st => match ds with
  | [.int i, .int j] => .ok (.int (if j < i then j else i)) st
  | _ => .bad
theorem sem_max2 : SemN kV K mg gMax2 (fun xs H Q => ∃ i j, xs = [.int i, .int j] ∧ Q (.int (if j > i then j else i)) H) := by
  intro Γ W F L σ H ρ st ds vs Q rl kvs q
  unfold gMax2 at q
  split at q
  · rename_i i j
    obtain ⟨v, u, rfl, kv, ku⟩ := kvs.two (Γ := Γ)
    exact ⟨i, j, by rw [kv.int rl, ku.int rl], q.here rl.sto _ (.inr rfl)⟩
  · exact q.elim
theorem sem_min2 : SemN kV K mg gMin2 (fun xs H Q => ∃ i j, xs = [.int i, .int j] ∧ Q (.int (if j < i then j else i)) H) := by
  intro Γ W F L σ H ρ st ds vs Q rl kvs q
  unfold gMin2 at q
  split at q
  · rename_i i j
    obtain ⟨v, u, rfl, kv, ku⟩ := kvs.two (Γ := Γ)
    exact ⟨i, j, by rw [kv.int rl, ku.int rl], q.here rl.sto _ (.inr rfl)⟩
  · exact q.elim
def gInt : OpN := fun ds st => match ds with
  | [.int i] => .ok (.int i) st
  | [.bl b] => .ok (.int (if b then 1 else 0)) st
  | _ => .bad
theorem sem_int : SemN kV K mg gInt (fun xs H Q => (∃ i, xs = [.int i] ∧ Q (.int i) H) ∨ ∃ k, xs = [.bl k] ∧ Q (.int (if k then 1 else 0)) H) := by
  intro Γ W F L σ H ρ st ds vs Q rl kvs q
  unfold gInt at q
  split at q
  · rename_i i
    obtain ⟨v, rfl, kv⟩ := kvs.one (Γ := Γ)
    exact .inl ⟨i, by rw [kv.int rl], q.here rl.sto _ (.inr rfl)⟩
  · rename_i i
    obtain ⟨v, rfl, kv⟩ := kvs.one (Γ := Γ)
    exact .inr ⟨i, by rw [kv.bl rl], q.here rl.sto _ (.inr rfl)⟩
  · exact q.elim
end
end Gh
/-! Gh11: enumerate of a tuple. -/
namespace Gh
open L2 PyProof.Rows PySem.Spec PySem
/-- enumerate(v), one argument: an iterator of v, then the enumerate object -/
theorem meets_enumB {v : Value} {o : Obj} {H : Heap → Prop} (B : Begins v o H) :
    Meets (Builtin.«enumerate.__new__» ⟨[.type "enumerate", v], []⟩) (fun _ R s => H s.heap ∧
      R (.ok (.ret (.ref (s.heap.push o).objs.size))) { s with heap := (s.heap.push o).push { cls := .type "enumerate", data := .fields #[.none, .bool false, .ref s.heap.objs.size, rawInt 0, .none, .none] } }) := by
  refine .of_wp fun prog w A R s z => ?_
  obtain ⟨hp, gn, dp, tk, os⟩ := s
  obtain ⟨z1, z2⟩ := z
  have hsub := sub_enumerate
  have it1 : ∀ {A1 : Around} {E1 : Value → Shared → Prop} {Q1 : Value → Shared → Prop}, Q1 (.ref hp.objs.size) ⟨hp.push o, gn, dp, tk, os⟩ → wpAny (model prog w) A1 (pyIter v) Q1 E1 ⟨hp, gn, dp, tk, os⟩ := by
    intro A1 E1 Q1 q
    exact B.iter prog w _ _ ⟨hp, gn, dp, tk, os⟩ _ z1 q
  wp_walk using it1
  refine wpAny_stack_any fun stk => wpAny_pure ?_
  split
  next c _ _ _ _ _ => cases (c == Value.type "enumerate") <;> (wp_walk using it1) <;> exact ⟨_, rfl, z2⟩
  next => (wp_walk using it1) <;> exact ⟨_, rfl, z2⟩
theorem call_enumB {prog : Program} {w : World} {A : Around} {E : Value → Shared → Prop} {s : Shared} {v : Value} {o : Obj} {H : Heap → Prop} {Q : Value → Shared → Prop} (B : Begins v o H) (z : H s.heap)
    (q : ∀ h', IsEnum h' (s.heap.objs.size + 1) s.heap.objs.size 0 .none → h'.get? s.heap.objs.size = some o → (∀ b u, s.heap.get? b = some u → h'.get? b = some u) → Q (.ref (s.heap.objs.size + 1)) { s with heap := h' }) :
    wpAny (model prog w) A (call (.type "enumerate") [v]) Q E s := by
  refine callType_new F.called_enumerate (by decide) (F.typeCall_enumerate_1 _) (F.newCall_enumerate_1 _) (fun obj => F.args_object_init_2 obj _) F.entry_enumerate_new (meets_enumB B) ⟨z, ?_⟩
  have n1 : (s.heap.push o).objs.size = s.heap.objs.size + 1 := Heap.size_push ..
  have g0 : (s.heap.push o).get? s.heap.objs.size = some o := Heap.get?_push_size _ B.free
  refine (?_ : _ ∧ _)
  rw [n1]
  have g1 : IsEnum ((s.heap.push o).push { cls := .type "enumerate", data := .fields #[.none, .bool false, .ref s.heap.objs.size, rawInt 0, .none, .none] }) (s.heap.objs.size + 1) s.heap.objs.size 0 .none := by
    rw [← n1]
    exact Heap.get?_push_size _ rfl
  exact ⟨⟨_, g1, rfl⟩, q _ g1 (Heap.get?_push_of_some _ g0) fun b u e => Heap.get?_push_of_some _ (Heap.get?_push_of_some _ e)⟩

/-- the tuple at a, each item in a new pair -/
def IteT (K : PySem.W.Frag) (a : Addr) : It where
  go i H := ∃ (xs : List V) (x : V), SqT K H a xs ∧ xs[i]? = some x
  yld i H v H' := ∃ T x, v = .ref T ∧ H T = none ∧ H' = upd H T (.tup [.int (i : Nat), x]) ∧ ∀ xs, SqT K H a xs → xs[i]? = some x
  stop i H := ∃ xs : List V, SqT K H a xs ∧ xs.length ≤ i
theorem turn_enumT {P : Program} {w : World} {K : PySem.W.Frag} {elts : List Expr} {kk : Nat} {tpos : Pos} (a en it : Addr) (hai : a ≠ it) (hae : a ≠ en) :
    Turn P w K (.Tuple elts kk tpos) (IteT K a) [en, it] en (fun i h => (∃ old, IsEnum h en it ((i : Nat) : Int) old) ∧ h.IsTupleIter it a i ∧ en ≠ it) where
  mem := by simp
  obj i h st b hb := by
    obtain ⟨⟨old, he⟩, ⟨o, ho, hc, hd⟩, _⟩ := st
    rcases (by simpa using hb : b = en ∨ b = it) with rfl | rfl
    · exact ⟨_, he, fun v q => nomatch q⟩
    · exact ⟨o, ho, fun v q => by rw [hd] at q; cases q⟩
  keep i h h' st k := by
    obtain ⟨⟨old, he⟩, hi, hne⟩ := st
    exact ⟨⟨old, k en (by simp) _ he⟩, hi.at fun o q => k it (by simp) o q, hne⟩
  item := by
    rintro X rfl rfl rfl hc i pins s σ H E I hf ⟨⟨old, he⟩, hit, hne⟩ ⟨xs, x, hq, hx⟩
    obtain ⟨its, rv, p, hz⟩ := I.tuple hq
    obtain ⟨u, hu, ru⟩ := rv.get hx
    have l1 : en < s.heap.objs.size := Heap.lt_size he
    have l2 : it < s.heap.objs.size := by
      obtain ⟨_, q, _⟩ := hit
      exact Heap.lt_size q
    have hsz : i < its.toArray.size := by simpa using (List.getElem?_eq_some_iff.mp hu).1
    refine wpAny_pyNext_enum_itemD (Draws.tuple (A := X.A.in1) (I.ok.hd hc) it a hai its.toArray) he ⟨hit, p⟩ hsz hne (by simp [Ne.symm hae, hne]) fun y h' tk hP ho hs' hT hn hk => ?_
    obtain ⟨hit', p'⟩ := hs'
    have hy : y = u := by
      have q1 : its.toArray[i]? = some u := by simpa using hu
      rw [show its.toArray[i]? = some y from hP] at q1
      exact Option.some.inj q1
    subst hy
    refine ⟨_, rfl, wpAny_letOwnedTupleGo_enum (s := { s with heap := h', toks := tk + 1 }) ho fun h'' he' sb => ?_⟩
    have hT2 := (sb.2 _ (Nat.ne_of_gt l1)).trans hT
    have new : ObjOk X.prog X.w (upd H s.heap.objs.size (.tup [.int (i : Nat), x])) h'' s.heap.objs.size (.tup [.int (i : Nat), x]) := by
      refine ⟨by show 2 ≤ sizeLine; decide, [.int i tk, y], .cons ⟨_, rfl⟩ (.cons ru .nil), _, hT2, rfl, _, rfl⟩
    have I1 : Inv X pins σ (upd H s.heap.objs.size (.tup [.int (i : Nat), x])) { s with heap := h'', toks := tk + 1 } := by
      refine I.turnedNew (ch := [en, it]) (fun b ob hb q => ?_) hf (Nat.le_refl _) new
      simp only [List.mem_cons, List.not_mem_nil, or_false, not_or] at hb
      exact (sb.2 b hb.1).trans (hk b ob hb.1 hb.2 q)
    refine ⟨.ref s.heap.objs.size, _, I1, rfl, ⟨_, x, rfl, I.hok.fresh (Nat.le_refl _), rfl, fun ys hy => by rw [I.tuple_inj hy hq]; exact hx⟩, ⟨⟨y, ?_⟩, hit'.at fun o q => (sb.2 it (Ne.symm hne)).trans q, hne⟩, fun b hb => ?_⟩
    · rw [show ((i + 1 : Nat) : Int) = (i : Int) + 1 by omega]
      exact he'
    · have hb' : b < s.heap.objs.size := by
        rcases (by simpa using hb : b = en ∨ b = it) with rfl | rfl
        · exact l1
        · exact l2
      rw [upd_ne (Nat.ne_of_lt hb')]
      exact (hf b hb).1
  done := by
    rintro X rfl rfl rfl hc i pins s σ H E I hf ⟨⟨old, he⟩, hit, hne⟩ ⟨xs, hq, hx⟩
    obtain ⟨its, rv, p, hz⟩ := I.tuple hq
    obtain ⟨f0, f1, f2, f3, f4, f5⟩ := hf it (by simp)
    have hl := rv.length
    have D : Draws X.prog X.w X.A.in1 it [it, a] i (fun _ _ => True) (fun j h => j = i ∧ h.IsTupleIter it a j ∧ h.IsTuple a its.toArray) := by
      have D0 := Draws.tuple (prog := X.prog) (w := X.w) (A := X.A.in1) (I.ok.hd hc) it a hai its.toArray
      exact ⟨fun j h z => D0.live j h z.2, fun j h h' z k => ⟨z.1, D0.frame j h h' z.2 k⟩, fun j s Q E hj z => absurd z.1 (Nat.ne_of_lt hj), fun s Q E z hE => wpAny_nextOf_tuple_end (I.ok.hd hc) z.2.1 z.2.2 (by simp; omega) hE⟩
    exact wpAny_pyNext_enum_endD D he ⟨rfl, hit, p⟩ fun h' eb => ⟨rfl, I.turned (t' := s.toks) (fun b o hb q => eb b o hb q) f0 f1 f3 f4 f5⟩
  self A i s Q E st h := by
    obtain ⟨⟨_, he⟩, _⟩ := st
    exact wpAny_pyIter_enum he h

def iEnumT (K : PySem.W.Frag) (ta : TA) : TI := fun σ H R => ta σ H fun vs H1 => ∃ a xs, vs = [.ref a] ∧ SqT K H1 a xs ∧ R (IteT K a) H1
theorem pi_enumT {X : Cx} {e : Expr} {ta : TA} {p pos tpos : Pos} {elts : List Expr} {kk : Nat} (hg : Gl X "enumerate") (hm : X.mg "enumerate" = none) (ha : PA X [e] ta) (hs : starEach [e] X.env = [(false, eval e X.env)] := by rfl) :
    PI X (.Tuple elts kk tpos) (.Call (.Name "enumerate" p) [e] [] pos) (iEnumT X.K ta) where
  run pins s σ H R I h := by
    refine Call_ (ld_blt I hg hm boot_enumerate (PyProof.Rows.callWith_type1 (thn (ha.run pos pins s σ H _ I h) fun us s1 z => ?_) hs rfl))
    obtain ⟨vs, H1, I1, r1, a, xs, rfl, hq, q⟩ := z
    obtain ⟨u, rfl, r⟩ : ∃ u, us = [u] ∧ RelV (.ref a) u := by
      cases r1 with
      | cons r rr => cases rr; exact ⟨_, rfl, r⟩
    cases r
    obtain ⟨its, rv, p', hz⟩ := I1.tuple hq
    have la : a < s1.heap.objs.size := by
      obtain ⟨o, e, _⟩ := p'
      exact Heap.lt_size e
    refine call_enumB (begins_tuple a its.toArray) p' fun h' he hit hk => wpAny_pyIter_enum he ?_
    have I2 : Inv X pins σ H1 { s1 with heap := h' } := I1.kept (t' := s1.toks) hk
    refine ⟨s1.heap.objs.size + 1, [s1.heap.objs.size + 1, s1.heap.objs.size], _, _, H1, rfl, I2, turn_enumT a _ _ (Nat.ne_of_lt la) (Nat.ne_of_lt (Nat.lt_succ_of_lt la)), ⟨⟨.none, he⟩, ⟨_, hit, rfl, rfl⟩, Nat.succ_ne_self _⟩, fun b hb => ?_, q⟩
    have hle : s1.heap.objs.size ≤ b := by
      rcases (by simpa using hb : b = s1.heap.objs.size + 1 ∨ b = s1.heap.objs.size) with rfl | rfl <;> omega
    exact I1.fpOk hle (I1.hok.fresh hle)
section
variable {X : Cx} {K : PySem.W.Frag} {mg : Glob} {Γ : Ent} {W : WX} {tg e a b : Expr} {m ma mb : EDen} {ms : ADen} {pos p : Pos}
theorem itG_enumT {F : Hp} {ds : List D} {vs : List V} {a : Addr} (hs : ∀ F1 L1 H1 st1, Ex F F1 → Sto K mg F1 L1 H1 st1 → SqT K H1 a vs) (r : RepL K mg F ds vs) : ItG K mg (IteT K a) (numbered ds) F := fun F1 L1 H1 st1 x o => by
  have h := hs F1 L1 H1 st1 x o
  have hl : (numbered ds).length = ds.length := by unfold numbered; rw [List.length_map, List.length_range]
  refine ⟨⟨vs, h, by rw [hl, r.length]; exact Nat.le_refl _⟩, fun i d e => ?_⟩
  obtain ⟨y, ey, rfl⟩ := numbered_get e
  obtain ⟨v, e1, e2⟩ := r.get ey
  refine ⟨⟨vs, v, h, e1⟩, fun z H2 w => ?_⟩
  obtain ⟨T, x', rfl, nT, rfl, q⟩ := w
  have := q vs h
  rw [e1] at this; cases this
  obtain ⟨s2, o2⟩ := o.lay (o := .tup [.int (i : Nat), v]) nT
  exact ⟨_, s2, o2, T, _, rfl, .inl (.inl upd_same), _, _, rfl, rfl, _, _, rfl, Rep.mono s2.ex _ (Rep.mono x _ e2), rfl⟩
/-- enumerate of a list, a tuple -/
def lEnumU (ms : ADen) : LDen := fun ρ st => (ms ρ st).bind fun ds st1 => match ds with
  | [.lst xs] => .ok (numbered xs) st1
  | [.tup xs] => .ok (numbered xs) st1
  | _ => .bad
theorem i_enumU {elts : List Expr} {kk : Nat} {tpos : Pos} (hK : X.K = K) (hm : X.mg "enumerate" = none) (ha : PA X [e] (taG K mg Γ W ms)) (hg : Gl X "enumerate" := by rfl) (hs : starEach [e] X.env = [(false, eval e X.env)] := by rfl) :
    PI X (.Tuple elts kk tpos) (.Call (.Name "enumerate" p) [e] [] pos) (tiG K mg Γ W (lEnumU ms)) := by
  refine pi_imp (pi_or (pi_enum hg hm ha hs) (pi_enumT hg hm ha hs)) fun σ H R z => ?_
  obtain ⟨F, L, ρ, st, rl, q⟩ := z
  have q := q.bind
  cases hd : ms ρ st with
  | bad => rw [hd] at q; exact q.elim
  | exc c fs st' =>
    refine .inl ⟨F, L, ρ, st, rl, ?_⟩
    rw [hd] at q ⊢
    exact q
  | ok ds st' =>
    rw [hd] at q
    by_cases hl : ∃ xs, ds = [.lst xs]
    · obtain ⟨xs, rfl⟩ := hl
      refine .inl ⟨F, L, ρ, st, rl, ?_⟩
      rw [hd]
      intro F1 L1 H1 s o vs kvs
      have q1 := q F1 L1 H1 s o
      obtain ⟨v, r, rfl, kv, rr⟩ := kvs
      cases (show r = [] from rr)
      rcases kv with ⟨_, _, e, _⟩ | ⟨a, vs, rfl, h1, h2⟩
      · cases e
      · rw [hK]
        exact ⟨a, vs, rfl, .inl (.inl (o.ex.lst h1)), q1.here o _ (itG_enum (fun F1 L1 H1 st1 x o1 => .inl (.inl (o1.ex.lst (x _ _ h1)))) h2)⟩
    · refine .inr ⟨F, L, ρ, st, rl, ?_⟩
      rw [hd]
      intro F1 L1 H1 s o vs kvs
      have q1 := q F1 L1 H1 s o
      dsimp only at q1
      split at q1
      · exact absurd ⟨_, rfl⟩ hl
      · obtain ⟨v, r, rfl, kv, rr⟩ := kvs
        cases (show r = [] from rr)
        rcases kv with ⟨_, _, e, _⟩ | ⟨a, vs, rfl, h1, h2⟩
        · cases e
        · rw [hK]
          exact ⟨a, vs, rfl, o.ex.t h1, q1.here o _ (itG_enumT (fun F1 L1 H1 st1 x o1 => o1.ex.t (ex_t x h1)) h2)⟩
      · exact q1.elim
end
end Gh
/-! Gh12: isinstance; instances with an own __bool__, an own __eq__. -/
namespace Gh
open L2 PyProof.Rows PySem.Spec PySem
/-! ### isinstance -/
/-- what isinstance asks of a class of the text -/
structure InsTy (K : PySem.W.Frag) (C : Addr) : Prop where
  cl : Cls K C
  ha : PySem.W.findIn K (.ref C) "__class__" = some (some (.builtin "object.__class__"))
  hn : PySem.W.specialIn K (.builtin "object.__class__") "__get__" = some (some (.builtin "getset_descriptor.__get__"))
  htk : PySem.W.takesIn K (.builtin "object.__class__") = some true
  hm : PySem.W.mroIn K C (.type "object") = some true
inductive Ty where
  | blt (n : String) | own (c : Str)
def tyD (st : Store) : D → Option Ty
  | .non => some (.blt "NoneType")
  | .bl _ => some (.blt "bool")
  | .int _ => some (.blt "int")
  | .str _ => some (.blt "str")
  | .tup _ => some (.blt "tuple")
  | .lst _ => some (.blt "list")
  | .scr _ => some (.blt "list")
  | .dct _ => some (.blt "dict")
  | .ins c _ => some (.own c)
  | .loc n => (match st[n]? with
    | some (.ins c _) => some (.own c)
    | _ => none)
def blts : List String := ["NoneType", "bool", "int", "str", "tuple", "list", "dict"]
/-- is a value of the built-in type n one of the types bs -/
def tyIs (n : String) (bs : List String) : Bool := bs.any fun b => n == b || (n == "bool" && b == "int")
def isiT (bs : List String) (yes no : List Str) : Ty → Option Bool
  | .blt n => some (tyIs n bs)
  | .own c => if c ∈ yes then some true else if c ∈ no then some false else none
def gIsi (bs : List String) (yes no : List Str) : Op1 := fun d st => match tyD st d with
  | some t => (match isiT bs yes no t with
    | some b => .ok (.bl b) st
    | none => .bad)
  | none => .bad
structure IsiOk (K : PySem.W.Frag) (mg : Glob) (kit : Value → Option Bool) (bs : List String) (yes no : List Str) : Prop where
  b : ∀ n ∈ blts, kit (.type n) = some (tyIs n bs)
  y : ∀ c ∈ yes, ∀ C, mg c = some (.ref C) → InsTy K C ∧ kit (.ref C) = some true
  n : ∀ c ∈ no, ∀ C, mg c = some (.ref C) → InsTy K C ∧ kit (.ref C) = some false
section
variable {X : Cx} {K : PySem.W.Frag} {mg : Glob} {Γ : Ent} {W : WX} {e a b : Expr} {es : List Expr} {m ma mb : EDen} {ms : ADen} {pos p p2 p3 : Pos}
theorem ty_rd {H : Hp} {a : Addr} {kv : List (Key × V)} (h : Rd H a (.dK kv)) : TyX K H (.ref a) (.type "dict") := by
  rcases h with h | ⟨o, h⟩
  · exact .base (.dK h)
  · exact .fDict h
theorem ty_l {H : Hp} {a : Addr} {vs : List V} (h : SqL K H a vs) : TyX K H (.ref a) (.type "list") := by
  rcases h with h | ⟨o, its, n, hk, hc, _⟩
  · rcases h with h | ⟨o, h⟩
    · exact .base (.lst h)
    · exact .base (.frz h)
  · exact .kList hk hc
theorem ty_t {H : Hp} {a : Addr} {vs : List V} (h : SqT K H a vs) : TyX K H (.ref a) (.type "tuple") := by
  rcases h with h | ⟨o, its, n, hk, hc, _⟩
  · rcases h with h | ⟨o, h⟩
    · exact .base (.tup h)
    · exact .fTuple h
  · exact .kTuple hk hc
theorem ty_of {kit : Value → Option Bool} {bs : List String} {yes no : List Str} (A : IsiOk K mg kit bs yes no) {F H H0 : Hp} {L : List Addr} {σ : St} {ρ : REnv} {st : Store} {d : D} {v : V} {t : Ty} {r : Bool} (rl : Rl K mg Γ F L σ H ρ st) (kv : kR K mg σ H0 ρ F L H d v)
    (ht : tyD st d = some t) (hr : isiT bs yes no t = some r) : ∃ u, TyX K H v u ∧ kit u = some r := by
  have own : ∀ c fs, (∃ a C dx fv, v = .ref a ∧ mg c = some (.ref C) ∧ H a = some (.ins C dx fv) ∧ RepF K mg F fs fv) → t = .own c → ∃ u, TyX K H v u ∧ kit u = some r := by
    rintro c fs ⟨a, C, dx, fv, rfl, h1, h2, _⟩ rfl
    replace hr : (if c ∈ yes then some true else if c ∈ no then some false else none) = some r := hr
    split at hr
    · rename_i hy
      cases hr
      obtain ⟨i, k⟩ := A.y c hy C h1
      exact ⟨_, .base (.ins h2 i.cl i.ha i.hn i.htk i.hm), k⟩
    · split at hr
      · rename_i hy
        cases hr
        obtain ⟨i, k⟩ := A.n c hy C h1
        exact ⟨_, .base (.ins h2 i.cl i.ha i.hn i.htk i.hm), k⟩
      · cases hr
  cases d with
  | non => cases ht; cases hr; cases kv.non rl; exact ⟨_, .base .non, A.b _ (by decide)⟩
  | bl x => cases ht; cases hr; cases kv.bl rl; exact ⟨_, .base (.bl _), A.b _ (by decide)⟩
  | int x => cases ht; cases hr; cases kv.int rl; exact ⟨_, .base (.int _), A.b _ (by decide)⟩
  | str x => cases ht; cases hr; cases kv.str rl; exact ⟨_, .base (.str _), A.b _ (by decide)⟩
  | tup ds => cases ht; cases hr; obtain ⟨a, vs, rfl, h, _⟩ := kv.tup rl; exact ⟨_, ty_t h, A.b _ (by decide)⟩
  | lst ds => cases ht; cases hr; obtain ⟨a, vs, rfl, h, _⟩ := kv.lst rl; exact ⟨_, .base (.lst h), A.b _ (by decide)⟩
  | scr ds => cases ht; cases hr; obtain ⟨a, vs, rfl, h, _⟩ := kv.scr rl; exact ⟨_, ty_l h, A.b _ (by decide)⟩
  | dct ds => cases ht; cases hr; obtain ⟨a, vs, rfl, h, _⟩ := kv.dct rl; exact ⟨_, ty_rd h, A.b _ (by decide)⟩
  | ins c fs =>
    cases ht
    refine own c fs ?_ rfl
    rcases kv with kv | ⟨i, h1, h2⟩
    · exact inst_at rl.sto kv (.inl rfl)
    · obtain ⟨a, g1, _, _, _, C, dx, fv, g2, g3, g4⟩ := rl.so i _ h1
      rw [g1] at h2; cases h2
      exact ⟨a, C, dx, fv, rfl, g2, g3, g4⟩
  | loc n =>
    have ht : (match st[n]? with
      | some (.ins c _) => some (.own c)
      | _ => none) = some t := ht
    split at ht
    · rename_i c fs e
      cases ht
      refine own c fs ?_ rfl
      rcases kv with kv | ⟨i, h1, h2⟩
      · exact inst_at rl.sto kv (.inr ⟨n, rfl, e⟩)
      · obtain ⟨_, _, _, _, _, hs⟩ := rl.so i _ h1
        exact hs.elim
    · cases ht
theorem isi_go {kit : Value → Option Bool} {bs : List String} {yes no : List Str} (A : IsiOk K mg kit bs yes no) {σ : St} {H : Hp} {Q : VK} (h : teV K mg Γ W (e1 (gIsi bs yes no) m) σ H Q) : teR K mg Γ W m σ H fun v H1 => ∃ u r, TyX K H1 v u ∧ kit u = some r ∧ Q (.bl r) H1 := by
  obtain ⟨F, L, ρ, st, rl, q⟩ := h
  refine ⟨F, L, ρ, st, rl, q.bind.imp fun F1 L1 H1 st1 d s o q1 v kv => ?_⟩
  unfold gIsi at q1
  split at q1
  · rename_i t ht
    split at q1
    · rename_i r hr
      obtain ⟨u, z1, z2⟩ := ty_of A (rl.step s o) kv ht hr
      exact ⟨u, r, z1, z2, q1.here o _ (.inr rfl)⟩
    · exact q1.elim
  · exact q1.elim
/-- isinstance(e, c), c one class -/
theorem g_isi {c : V} {u : Value} {bs : List String} {yes no : List Str} (hK : X.K = K) (k : ClsV c u) (A : IsiOk K mg (fun t => PySem.W.kitOne K t u) bs yes no) (hm : X.mg "isinstance" = none) (ha : PE X a (teR K mg Γ W m)) (hc : PE X b (tC c)) (hg : Gl X "isinstance" := by rfl)
    (he : starEach [a, b] X.env = (false, eval a X.env) :: starEach [b] X.env := by rfl) (hs2 : starEach [b] X.env = (false, eval b X.env) :: starEach [] X.env := by rfl) (hpl : (backTo pos (starEach [b] X.env)).any (·.1) = false := by rfl) :
    PE X (.Call (.Name "isinstance" p) [a, b] [] pos) (teV K mg Γ W (e1 (gIsi bs yes no) m)) := by
  refine pe_imp (pe_callB (call_isi (X := X)) hg hm boot_isinstance (pa_cons ha (pa_cons hc pa_nil hs2) he) (by decide) (by decide) he hpl) fun σ H Q h => ?_
  obtain ⟨F, L, ρ, st, rl, q⟩ := isi_go A h
  refine ⟨F, L, ρ, st, rl, q.imp fun F1 L1 H1 st1 d s o q1 v kv => ?_⟩
  obtain ⟨t, r, z1, z2, z3⟩ := q1 v kv
  exact ⟨v, c, t, u, r, rfl, k, by rw [hK]; exact z1, by rw [hK]; exact z2, z3⟩
/-- isinstance(e, (c1, c2)) -/
theorem g_isi2 {c1 c2 : V} {u1 u2 : Value} {b1 b2 : Expr} {kk : Nat} {bs : List String} {yes no : List Str} (hK : X.K = K) (k1 : ClsV c1 u1) (k2 : ClsV c2 u2) (A : IsiOk K mg (fun t => PySem.W.kitAny K t [u1, u2]) bs yes no) (hm : X.mg "isinstance" = none) (ha : PE X a (teR K mg Γ W m)) (hc1 : PE X b1 (tC c1)) (hc2 : PE X b2 (tC c2)) (hg : Gl X "isinstance" := by rfl)
    (he : starEach [a, .Tuple [b1, b2] kk p2] X.env = (false, eval a X.env) :: starEach [.Tuple [b1, b2] kk p2] X.env := by rfl) (hs2 : starEach [.Tuple [b1, b2] kk p2] X.env = (false, eval (.Tuple [b1, b2] kk p2) X.env) :: starEach [] X.env := by rfl) (hpl : (backTo pos (starEach [.Tuple [b1, b2] kk p2] X.env)).any (·.1) = false := by rfl)
    (hs3 : starEach [b1, b2] X.env = (false, eval b1 X.env) :: starEach [b2] X.env := by rfl) (hs4 : starEach [b2] X.env = (false, eval b2 X.env) :: starEach [] X.env := by rfl) :
    PE X (.Call (.Name "isinstance" p) [a, .Tuple [b1, b2] kk p2] [] pos) (teV K mg Γ W (e1 (gIsi bs yes no) m)) := by
  refine pe_imp (pe_callB (call_isiT (X := X)) hg hm boot_isinstance (pa_cons ha (pa_cons (pe_tup (pa_cons hc1 (pa_cons hc2 pa_nil hs4) hs3)) pa_nil hs2) he) (by decide) (by decide) he hpl) fun σ H Q h => ?_
  obtain ⟨F, L, ρ, st, rl, q⟩ := h
  refine ⟨F, L, ρ, st, rl, q.bind.imp fun F1 L1 H1 st1 d s o q1 v kv => ?_⟩
  refine ⟨by show 2 ≤ sizeLine; decide, fun tp ntp => ?_⟩
  unfold gIsi at q1
  split at q1
  · rename_i t ht
    split at q1
    · rename_i r hr
      obtain ⟨s2, o2⟩ := o.lay (o := .tup [c1, c2]) ntp
      have rl2 := (rl.step s o).step s2 o2
      obtain ⟨u, z1, z2⟩ := ty_of A rl2 (kR.step kv s2 (H0' := H1)) ht hr
      exact ⟨v, tp, [c1, c2], u, [u1, u2], r, rfl, upd_same, .cons k1 (.cons k2 .nil), by rw [hK]; exact z1, by rw [hK]; exact z2, q1 _ _ _ s2 o2 _ (.inr rfl)⟩
    · exact q1.elim
  · exact q1.elim
end
/-! ### own __bool__, own __eq__ -/
/-- the classes that cf knows have the def nm, and it promises what cf tells -/
def OwnM (X : Cx) (mg : Glob) (kk : Nat) (nm : Str) (cf : Str → Option CallF) : Prop := ∀ c g C, cf c = some g → mg c = some (.ref C) →
  ∃ f fd ps, PySem.W.findIn X.K (.ref C) nm = some (some (.ref f)) ∧ PySem.W.isFn X.K (.ref f) = true ∧ FnOk X.prog X.w X.K X.mg X.base (L2.CX X.prog X.w) kk f fd ps (spG X.K mg g) ∧ Binds X.K fd ps []
theorem run_at {X : Cx} {A : Around} {kk : Nat} {f : Addr} {fd : FuncData} {ps : List Str} {sp : Sp} {E : XK} {pins : List (Addr × Obj)} {σ : St} {H : Hp} {s : Shared} {Q : VK} {us : List Value} {vs : List V} (F : FnOk X.prog X.w X.K X.mg X.base (L2.CX X.prog X.w) kk f fd ps sp) (hr : Room kk A) (hb : Binds X.K fd ps []) (hx : PassesAt (L2.CX X.prog X.w) X σ E)
    (e0 : Env0 X.prog X.w X.K X.mg X.base A X.stack s H) (I : Inv X pins σ H s) (r : Vals vs us) (h : sp vs H Q E) : wpAny (model X.prog X.w) A (call (.ref f) us) (EP X pins σ Q) X.xe s := by
  have hl : us.length = ps.length := by
    rw [← r.length]
    exact F.len _ _ _ _ h
  have b := hb s us I.kIn (by simpa using hl)
  simp only [List.append_nil] at b
  refine wpAny_call (codeAny_mono (F.run A X.stack s H ⟨us, []⟩ us vs Q E hr e0 b r h) fun z s' hq => ?_)
  match z, hq with
  | .error e, hq => exact hx pins H s e s' I hq
  | .ok (.ret u), hq => exact I.after hq
section
variable {X : Cx} {K : PySem.W.Frag} {mg : Glob} {Γ : Ent} {W : WX} {e a b : Expr} {es : List Expr} {m ma mb : EDen} {ms : ADen} {pos p : Pos} {kk : Nat} {cf : Str → Option CallF}
/-- x's def of the class is asked; its answer is a truth value -/
def askB (cf : Str → Option CallF) (args : List D) (d : D) (st : Store) : RC Bool := match instOf st d with
  | some (c, _) => (match cf c with
    | some g => (noX (g (d :: args) st)).bind fun r st2 => match r with
      | .bl b => .ok b st2
      | _ => .bad
    | none => .bad)
  | none => .bad
def tOwn (cf : Str → Option CallF) (m : EDen) : TDen := fun ρ st => (m ρ st).bind fun d st1 => askB cf [] d st1
def eOwn (cf : Str → Option CallF) (m : EDen) : EDen := fun ρ st => (m ρ st).bind fun d st1 => (askB cf [] d st1).bind fun b st2 => .ok (.bl b) st2
/-- what is asked of the heap and of what follows -/
def rAsk (X : Cx) (kk : Nat) (nm : Str) (args : List V) : V → Hp → (Bool → Hp → Prop) → Prop := fun x H Q => ∃ a C dx fs f fd ps sp, x = .ref a ∧ H a = some (.ins C dx fs) ∧ PySem.W.findIn X.K (.ref C) nm = some (some (.ref f)) ∧ PySem.W.isFn X.K (.ref f) = true ∧
  FnOk X.prog X.w X.K X.mg X.base (L2.CX X.prog X.w) kk f fd ps sp ∧ Binds X.K fd ps [] ∧ sp (x :: args) H (fun v H' => ∃ b, v = .bl b ∧ Q b H') (fun _ _ _ => False)
theorem no_pass {X : Cx} {σ : St} (tk : Takes X W0) : PassesAt (L2.CX X.prog X.w) X σ (fun _ _ _ => False) := passAt tk σ
theorem truR_own (hr : Room kk X.A) (tk : Takes X W0) : TruR X (rAsk X kk "__bool__" []) := by
  rintro pins s σ H x v Q I rx ⟨a, C, dx, fs, f, fd, ps, sp, rfl, ha, hf, hi, F, hb, q⟩
  cases rx
  obtain ⟨mA, J, _⟩ := ins_get I.hok ha
  obtain ⟨od, J, _⟩ := J.look
  obtain ⟨m, hF⟩ := I.fr
  refine PySem.W.truthy_K hF I.ok.mod.kin J hf hi (wpAny_mono (run_at (us := [.ref a]) (vs := [.ref a]) F hr hb (no_pass (σ := σ) tk) I.env0 I (.cons rfl .nil) q) (fun r s' z => ?_) fun _ _ y => y)
  obtain ⟨v, H', I', rz, b, rfl, q'⟩ := z
  cases rz
  exact ⟨H', I', q'⟩
theorem ask_go {nm : Str} (hK : X.K = K) (A : OwnM X mg kk nm cf) {F H : Hp} {L : List Addr} {σ : St} {st : Store} {d : D} {v : V} {ds : List D} {vs : List V} {Q : Bool → Hp → Prop} (o : Sto K mg F L H st) (kv : VRep K mg L F d v) (kvs : VRepL K mg L F ds vs)
    (h : Post K mg W σ F L H (askB cf ds d st) fun F' L' H' _ b => Q b H') : rAsk X kk nm vs v H Q := by
  subst hK
  unfold askB at h
  split at h
  · rename_i c fs e
    split at h
    · rename_i g hg
      obtain ⟨a, C, dx, fv, rfl, h1, h2, h3⟩ := inst_at o kv (instOf_at e)
      obtain ⟨f, fd, ps, z1, z2, z3, z4⟩ := A c g C hg h1
      refine ⟨a, C, dx, fv, f, fd, ps, spG X.K mg g, rfl, h2, z1, z2, z3, z4, F, L, d :: ds, st, o, ⟨_, vs, rfl, kv, kvs⟩, ?_⟩
      refine Post.imp (ok' := fun F' L' H' _ d => ∀ w, VRep X.K mg L' F' d w → ∃ b, w = .bl b ∧ Q b H') (h.bind.noX (σ' := [])) (fun F' L' H' st' r s2 o2 z w kw => ?_)
      split at z
      · cases kw.bl
        exact ⟨_, rfl, z.here o2⟩
      · exact z.elim
    · exact h.elim
  · exact h.elim
theorem g_trOwn (hK : X.K = K) (A : OwnM X mg kk "__bool__" cf) (hr : Room kk X.A) (tk : Takes X W0) (h : PE X a (teV K mg Γ W m)) (he : ∀ whole, isTrue a X.env whole = (do let v ← whole; standAt a.pos; holding [v] (truthy v)) := by intro _; rfl) : PT X a (ttG K mg Γ W (tOwn cf m)) := by
  refine pt_imp (pt_truthR h (truR_own hr tk) he) fun σ H Q ⟨F, L, ρ, st, rl, p⟩ => ⟨F, L, ρ, st, rl, p.bind.imp fun F1 L1 H1 st1 d s o p1 v kv => ?_⟩
  exact ask_go (vs := []) (ds := []) hK A o kv rfl p1
/-- == by an own __eq__ -/
def gOwnEq (cf : Str → Option CallF) : Op2 := fun x y st => (askB cf [y] x st).bind fun b st2 => .ok (.bl b) st2
/-- no class of the right ones is a subclass of a left one with another def -/
def NotF (X : Cx) (mg : Glob) (cf : Str → Option CallF) (cs : List Str) : Prop := ∀ c g C, cf c = some g → mg c = some (.ref C) → ∀ c' ∈ cs, ∀ C', mg c' = some (.ref C') → PySem.W.notFirst X.K C (.ref C') = true
def insIn (cs : List Str) (st : Store) (d : D) : Bool := match instOf st d with
  | some (c, _) => decide (c ∈ cs)
  | none => false
/-- .. the right one an instance of a class of cs -/
def gEqI (cf : Str → Option CallF) (cs : List Str) : Op2 := fun x y st => if insIn cs st y = true then gOwnEq cf x y st else .bad
def rEqI (X : Cx) (kk : Nat) : R2 := fun x y H Q => rAsk X kk "__eq__" [y] x H (fun b H' => Q (.bl b) H') ∧ ∃ a b C dx fs C' dx' fs', x = .ref a ∧ y = .ref b ∧ H a = some (.ins C dx fs) ∧ H b = some (.ins C' dx' fs') ∧ PySem.W.notFirst X.K C (.ref C') = true
theorem op_eqI (hr : Room kk X.A) (tk : Takes X W0) : OpR X (compareOp .Eq) (rEqI X kk) := by
  rintro pins s σ H x y v u Q I rx ry ⟨⟨a, C, dx, fs, f, fd, ps, sp, rfl, ha, hf, hi, F, hb, q⟩, a', b', C2, dx2, fs2, C3, dx3, fs3, e1, rfl, hA, hB, nf⟩
  cases e1
  rw [ha] at hA; cases hA
  cases rx
  cases ry
  obtain ⟨mA, J, _⟩ := ins_get I.hok ha
  obtain ⟨mB, J', _⟩ := ins_get I.hok hB
  obtain ⟨od, J, _⟩ := J.look
  obtain ⟨od', J', _⟩ := J'.look
  obtain ⟨m, hF⟩ := I.fr
  refine PySem.W.cmp_K (op := .Eq) (tb := .ref C3) hr.units0 hF I.ok.mod.kin J J'.type nf hf hi (wpAny_mono (run_at (us := [.ref a, .ref b']) (vs := [.ref a, .ref b']) F hr hb (no_pass (σ := σ) tk) I.env0 I (.cons rfl (.cons rfl .nil)) q) (fun r s' z => ?_) fun _ _ y => y)
  obtain ⟨v, H', I', rz, b, rfl, q'⟩ := z
  cases rz
  exact ⟨.bl b, H', I', rfl, q'⟩
theorem g_eqI {cs : List Str} (hK : X.K = K) (A : OwnM X mg kk "__eq__" cf) (nf : NotF X mg cf cs) (hr : Room kk X.A) (tk : Takes X W0) (ha : PE X a (teV K mg Γ W ma)) (hb : PE X b (teV K mg Γ W mb)) (hm : behindInMarks .Eq b = false := by rfl) :
    PE X (.Compare a [.Eq] [b] pos) (teV K mg Γ W (e2 (gEqI cf cs) ma mb)) := by
  refine pe_imp (pe_cmpR (op_eqI hr tk) ha hb hm) fun σ H Q ⟨F, L, ρ, st, rl, q⟩ => ⟨F, L, ρ, st, rl, q.bind.imp fun F1 L1 H1 st1 d s o q1 v kv => ⟨F1, L1, ρ, st1, rl.step s o, q1.bind.imp fun F2 L2 H2 st2 y s2 o2 q2 u ku => ?_⟩⟩
  unfold gEqI at q2
  split at q2
  · rename_i hin
    unfold insIn at hin
    split at hin
    · rename_i c fs ey
      have kx := s2.vrep kv
      have q3 : Post K mg W σ F2 L2 H2 (askB cf [y] d st2) (fun F' L' H' _ b => Q (.bl b) H') := Post.imp (Post.bind (f := fun b st2 => RC.ok (D.bl b) st2) q2) fun F' L' H' st' r s3 o3 z => z.here o3 _ (.inr rfl)
      refine ⟨ask_go (ds := [y]) (vs := [u]) hK A o2 kx ⟨u, [], rfl, ku, rfl⟩ q3, ?_⟩
      obtain ⟨b, C', dx', fv', rfl, g1, g2, g3⟩ := inst_at o2 ku (instOf_at ey)
      unfold askB at q3
      split at q3
      · rename_i c1 fs1 e1
        split at q3
        · rename_i g hg
          obtain ⟨a, C, dx, fv, rfl, h1, h2, h3⟩ := inst_at o2 kx (instOf_at e1)
          exact ⟨a, b, C, dx, fv, C', dx', fv', rfl, rfl, h2, g2, nf c1 g C hg h1 c (by simpa using hin) C' g1⟩
        · exact q3.elim
      · exact q3.elim
    · cases hin
  · exact q2.elim
/-! bool(x), x an instance with an own __bool__ -/
theorem bool_at {prog : Program} {w : World} {A : Around} {E : Value → Shared → Prop} {s : Shared} {x : Value} {Q : Bool → Shared → Prop}
    (h : wpAny (model prog w) A.in1.in1 (truthy x) Q E s) : wpAny (model prog w) A (call (.type "bool") [x]) (fun r s' => ∃ b, r = .bool b ∧ Q b s') E s := by
  refine callType_codes (T := "bool") (Bi := Builtin.«object.__init__») (Q₁ := fun r s₁ => ∃ b, r = Value.bool b ∧ Q b s₁) PySem.F.called_bool (PySem.F.typeCall_bool_1 _) PySem.F.entry_object_init ?_ ?_
  · refine codeAny_of_tree ?_
    show wpAny _ A.in1.in1 (do checkBuiltinCall "bool.__new__" ⟨[.type "bool", x], []⟩; again (.builtin "bool.__new__" ⟨[.type "bool", x], []⟩)) _ _ s
    refine wpAny_bind (wpAny_of_eq (PySem.F.newCall_bool_1 _) (wpAny_pure ⟨plainId_quiet (by decide +kernel) _, codeAny_builtin PySem.F.entry_bool_new ?_⟩))
    rw [Around.under_plainId (by decide +kernel) _]
    unfold Builtin.«bool.__new__»
    refine wpAny_bind (wpAny_of_eq (a := true) (by first | rfl | kernel_rfl) ?_)
    refine PySem.W.KFB.if_not rfl ?_
    refine wpAny_bind (wpAny_of_eq (a := true) PySem.F.conv_sub_bool ?_)
    refine PySem.W.KFB.if_not rfl ?_
    refine wpAny_bind (m := someArgs "bool" 0 1 _) (wpAny_of_eq (a := [x]) (by first | rfl | kernel_rfl) ?_)
    exact wpAny_bind (wpAny_mono h (fun b s' q => wpAny_pure ⟨b, rfl, q⟩) fun _ _ y => y)
  · rintro obj s₁ ⟨b, rfl, hq⟩
    exact ⟨rfl, PySem.F.args_object_init_2 _ _, object_init_meets PySem.F.called_bool.init.lookup PySem.F.called_bool.made (by decide) prog w A.in1 _ s₁ ⟨rfl, rfl, b, rfl, hq⟩⟩
theorem call_boolOwn (hr : Room (kk + 2) X.A) (tk : Takes X W0) : CallR X (.type "bool") (fun xs H Q => ∃ x, xs = [x] ∧ rAsk X kk "__bool__" [] x H (fun b H' => Q (.bl b) H')) := by
  rintro pins s σ H xs us Q I r ⟨x, rfl, a, C, dx, fs, f, fd, ps, sp, rfl, ha, hf, hi, F, hb, q⟩
  obtain ⟨u, rfl, ru⟩ := vals1 r
  cases ru
  obtain ⟨mA, J, _⟩ := ins_get I.hok ha
  obtain ⟨od, J, _⟩ := J.look
  obtain ⟨m, hF⟩ := I.fr
  have hr2 : Room kk X.A.in1.in1 := (show Room (kk + 1) X.A.in1 from Room.in1 hr).in1
  have z := PySem.W.truthy_K (M := model X.prog X.w) (A := X.A.in1.in1) (E := X.xe) (Q := fun b s' => ∃ H', Inv X pins σ H' s' ∧ Q (.bl b) H') hF I.ok.mod.kin J hf hi (wpAny_mono (run_at (us := [.ref a]) (vs := [.ref a]) F hr2 hb (no_pass (σ := σ) tk) I.env0.in1.in1 I (.cons rfl .nil) q) (fun r s' z => by
    obtain ⟨v, H', I', rz, b, rfl, q'⟩ := z
    cases rz
    exact ⟨H', I', q'⟩) fun _ _ y => y)
  refine wpAny_mono (bool_at z) (fun r s' z => ?_) fun _ _ y => y
  obtain ⟨b, rfl, H', I', q'⟩ := z
  exact ⟨.bl b, H', I', rfl, q'⟩
theorem g_boolOwn (hK : X.K = K) (A : OwnM X mg kk "__bool__" cf) (hr : Room (kk + 2) X.A) (tk : Takes X W0) (hm : X.mg "bool" = none) (h : PE X a (teV K mg Γ W m)) (hg : Gl X "bool" := by rfl) (he : starEach [a] X.env = (false, eval a X.env) :: starEach [] X.env := by rfl) (hpl : (backTo pos (starEach [] X.env)).any (·.1) = false := by rfl) :
    PE X (.Call (.Name "bool" p) [a] [] pos) (teV K mg Γ W (eOwn cf m)) := by
  refine pe_imp (pe_callTy (call_boolOwn hr tk) hg hm (by decide +kernel) (pa_cons h pa_nil he) (by decide) (by decide) he hpl) fun σ H Q ⟨F, L, ρ, st, rl, p⟩ => ⟨F, L, ρ, st, rl, p.bind.imp fun F1 L1 H1 st1 d s o p1 v kv => ?_⟩
  exact ⟨v, rfl, ask_go (vs := []) (ds := []) hK A o kv rfl (Post.imp (Post.bind (f := fun b st2 => RC.ok (D.bl b) st2) p1) fun F' L' H' st' r s3 o3 z => z.here o3 _ (.inr rfl))⟩
end
end Gh
/-! Gh13: truth values compared; lists of the store; several targets. -/
namespace Gh
open L2 PyProof.Rows PySem.Spec PySem
section
variable {X : Cx} {K : PySem.W.Frag} {mg : Glob} {Γ : Ent} {W : WX} {e a b tg : Expr} {es : List Expr} {m ma mb mo mi me : EDen} {ms : ADen} {pos p p2 tpos : Pos} {k : Kd}
/-! ### numbers and truth values by order -/
def numOf : D → Option Int
  | .int i => some i
  | .bl b => some (if b then 1 else 0)
  | _ => none
def gLtB : Op2 := fun x y st => match x, y with
  | .bl p, .bl q => .ok (.bl (!p && q)) st
  | _, _ => .bad
theorem op_ltB : OpR X (compareOp .Lt) (fun x y H Q => ∃ p q, x = .bl p ∧ y = .bl q ∧ Q (.bl (!p && q)) H) := by
  rintro pins s σ H x y v u Q I rx ry ⟨c, d, rfl, rfl, q⟩
  cases rx
  cases ry
  refine lt_bool ⟨.bl _, H, I, rfl, ?_⟩
  cases c <;> cases d <;> exact q
theorem sem_ltB : Sem2 kV K mg gLtB (fun x y H Q => ∃ p q, x = .bl p ∧ y = .bl q ∧ Q (.bl (!p && q)) H) := by
  intro Γ W F L σ H ρ st x y v u Q rl kx ky q
  unfold gLtB at q
  split at q
  · exact ⟨_, _, kx.bl rl, ky.bl rl, q.here rl.sto _ (.inr rfl)⟩
  · exact q.elim
/-! ### a list laid into the store -/
def eAlloc (m : EDen) : EDen := fun ρ st => (m ρ st).bind fun d st1 => .ok (.loc st1.length) (st1 ++ [d])
theorem Stp.withO {F H F1 H1 : Hp} {L L1 : List Addr} {a : Addr} (s : Stp F L H F1 L1 H1) (n : H a = none) : Stp F L H F1 (L1 ++ [a]) H1 := by
  refine ⟨s.ex, ?_, fun b u h nb => ?_⟩
  · obtain ⟨M, e⟩ := s.pre
    exact ⟨M ++ [a], by rw [e, List.append_assoc]⟩
  · obtain ⟨h1, h2, h3⟩ := s.kp b u h nb
    refine ⟨h1, h2, fun z => ?_⟩
    rcases List.mem_append.mp z with z | z
    · exact h3 z
    · have z : b = a := by simpa using z
      rw [z, n] at h; cases h
theorem g_alloc (h : PE X e (teO K mg Γ W m)) : PE X e (teV K mg Γ W (eAlloc m)) := by
  refine pe_imp h fun σ H Q ⟨F, L, ρ, st, rl, q⟩ => ⟨F, L, ρ, st, rl, ?_⟩
  unfold eAlloc at q
  cases hd : m ρ st with
  | bad => rw [hd] at q; exact q.elim
  | exc c fs st' => rw [hd] at q; exact q
  | ok d st1 =>
    rw [hd] at q
    intro F1 L1 H1 s o v kv
    obtain ⟨a, rfl, n, nF, nL, hs⟩ := kv
    exact q _ _ _ (s.withO n) (o.add hs nF nL) _ (.inl ⟨st1.length, a, rfl, by rw [← o.len]; simp, rfl⟩)
/-- o[i] op= e, o a list of the store -/
def sAugI (mo mi : EDen) (g : Op2) (me : EDen) : SDen := fun ρ st => (mo ρ st).s ρ fun o st1 => (mi ρ st1).s ρ fun i st2 => match o, i with
  | .loc n, .int k => (match st2[n]? with
    | some (.lst ds) => (match atI ds k with
      | some x => if 0 ≤ k ∧ k < 1000000 then (me ρ st2).s ρ fun y st3 => (g x y st3).s ρ fun z st4 => if isLoc z = false then (match st4[n]? with
        | some (.lst es) => (match ixN es.length k with
          | some j => .nx ρ (st4.set n (.lst (es.set j z)))
          | none => .bad)
        | _ => .bad) else .bad else .bad
      | none => .bad)
    | _ => .bad)
  | _, _ => .bad
theorem pget_list : PGet X (fun o i H Q => ∃ p xs k v, o = .ref p ∧ i = .int k ∧ SqL X.K H p xs ∧ 0 ≤ k ∧ k < 1000000 ∧ atI xs k = some v ∧ Q v H) := by
  rintro pins s σ H x y v u Q I rx ry ⟨p, xs, k, z, rfl, rfl, hq, h0, h1, he, q⟩
  cases rx
  obtain ⟨t, rfl⟩ := ry
  obtain ⟨its, r, pl, hz⟩ := I.list hq
  obtain ⟨j, g1, g2, g3, g4, g5⟩ := atI_get he
  obtain ⟨w, ew, rw'⟩ := r.get g2
  have hj : k.toNat = j := by
    rw [seqIndex_of h0 g5] at g1
    exact Option.some.inj g1
  exact wpAny_getItem_list pl.isList h0 (by omega) (by rw [hj]; simpa using ew) ⟨z, H, I, rw', q⟩
theorem s_augI {o i : Expr} {op : Operator} {r : R2} {g : Op2} (hK : X.K = K) (ho : PE X o (teV K mg Γ W mo)) (hi : PE X i (teV K mg Γ W mi)) (he : PE X e (teV K mg Γ W me)) (hop : OpR X (inplaceOp op) r) (hsem : Sem2 kV K mg g r)
    (ha : ∀ ov iv new, augStore i ov iv new = (do holding [new, ov, iv] (setItem ov iv new); release [new, ov, iv] []; pure .next) := by intros; rfl) : PS X (.AugAssign (.Subscript o i tpos) op e pos) (tsG K mg Γ W (sAugI mo mi g me)) := by
  refine ps_imp (ps_augS (tip := r) ho hi pget_list he (fun pins s σ H x y v u Q I r r2 q => hop pins s σ H x y v u Q I r r2 q) set_list ha) fun D' σ H z => ?_
  obtain ⟨F, L, ρ, st, rl, q⟩ := z
  refine ⟨F, L, ρ, st, rl, (SPost.s q rl).imp fun F1 L1 H1 st1 od s1 o1 q1 ov ko => ?_⟩
  have rl1 := rl.step s1 o1
  refine ⟨F1, L1, ρ, st1, rl1, (SPost.s q1 rl1).imp fun F2 L2 H2 st2 idd s2 o2 q2 iv ki => ?_⟩
  have rl2 := rl1.step s2 o2
  split at q2
  · rename_i n k'
    split at q2
    · rename_i ds e
      split at q2
      · rename_i x ex
        obtain ⟨a, hL, rfl⟩ := (s2.vrep ko).loc
        cases ki.int
        obtain ⟨nF, vs, hv, hr⟩ := o2.at_ n a _ hL e
        obtain ⟨xv, exv, hx⟩ := atI_rep hr ex
        split at q2
        · rename_i hk
          refine ⟨a, vs, k', xv, rfl, rfl, .inl (.inl hv), hk.1, hk.2, exv, F2, L2, ρ, st2, rl2, (SPost.s q2 rl2).imp fun F3 L3 H3 st3 y s3 o3 q3 yv ky => ?_⟩
          have rl3 := rl2.step s3 o3
          refine hsem Γ W F3 L3 σ H3 ρ st3 x y xv yv _ rl3 (.inl (.inr (Rep.mono s3.ex _ hx))) (.inl ky) ((SPost.s q3 rl3).imp fun F4 L4 H4 st4 z s4 o4 q4 zv kz => ?_)
          have rl4 := rl3.step s4 o4
          split at q4
          · rename_i hc
            split at q4
            · rename_i es e4
              split at q4
              · rename_i j hj
                have hL4 : L4[n]? = some a := by
                  obtain ⟨M, e1⟩ := (s3.trans s4).pre
                  rw [e1, List.getElem?_append_left (List.getElem?_eq_some_iff.mp hL).1]
                  exact hL
                obtain ⟨nF4, us, hu, hur⟩ := o4.at_ n a _ hL4 e4
                have rz : Rep K mg F4 z zv := VRep.flat kz hc
                refine ⟨a, us, k', j, rfl, rfl, hu, by rw [← hur.length]; exact hj, ?_⟩
                have o5 := o4.put (d := .lst (es.set j z)) (u := .lst (us.set j zv)) hL4 fun H' h => ⟨_, h, hur.set j rz⟩
                exact q4 F4 L4 σ _ (rl4.step (Stp.put (List.mem_of_getElem? hL4)) o5)
              · exact q4.elim
            · exact q4.elim
          · exact q4.elim
        · exact q2.elim
      · exact q2.elim
    · exact q2.elim
  · exact q2.elim
/-! ### several targets at once -/
abbrev MDen := REnv → Store → RC (List (D × Bool))
/-- (d, false): a value; (d, true): a new list, dict of its own -/
def MixL (K : PySem.W.Frag) (mg : Glob) (Hs F : Hp) (L : List Addr) (H : Hp) : List (D × Bool) → List V → Prop
  | [], vs => vs = []
  | (d, false) :: ds, vs => ∃ v r, vs = v :: r ∧ VRep K mg L F d v ∧ MixL K mg Hs F L H ds r
  | (d, true) :: ds, vs => ∃ a r, vs = .ref a :: r ∧ (Hs a = none ∧ F a = none ∧ a ∉ L ∧ Has K mg F H a d) ∧ (∀ (j : Nat) (d' : D), ds[j]? = some (d', true) → r[j]? ≠ some (V.ref a)) ∧ MixL K mg Hs F L H ds r
theorem MixL.len {Hs F H : Hp} {L : List Addr} : ∀ {ds : List (D × Bool)} {vs : List V}, MixL K mg Hs F L H ds vs → ds.length = vs.length
  | [], vs, h => by
    have h : vs = [] := h
    rw [h] <;> rfl
  | (d, false) :: ds, vs, h => by
    obtain ⟨v, r, rfl, _, h3⟩ := h
    rw [List.length_cons, List.length_cons, h3.len]
  | (d, true) :: ds, vs, h => by
    obtain ⟨v, r, rfl, _, _, h3⟩ := h
    rw [List.length_cons, List.length_cons, h3.len]
theorem MixL.late {Hs Hs' F H : Hp} {L : List Addr} (h0 : ∀ a, Hs a ≠ none → Hs' a ≠ none) : ∀ {ds : List (D × Bool)} {vs : List V}, MixL K mg Hs' F L H ds vs → MixL K mg Hs F L H ds vs
  | [], vs, h => h
  | (d, false) :: ds, vs, h => by
    obtain ⟨v, r, rfl, h1, h3⟩ := h
    exact ⟨v, r, rfl, h1, h3.late h0⟩
  | (d, true) :: ds, vs, h => by
    obtain ⟨v, r, rfl, ⟨h1, h2⟩, h4, h3⟩ := h
    exact ⟨v, r, rfl, ⟨Classical.byContradiction fun z => h0 _ z h1, h2⟩, h4, h3.late h0⟩
theorem MixL.fresh {Hs F H : Hp} {L : List Addr} : ∀ {ds : List (D × Bool)} {vs : List V} {j : Nat} {d : D} {a : Addr}, MixL K mg Hs F L H ds vs → ds[j]? = some (d, true) → vs[j]? = some (.ref a) → Hs a = none
  | [], vs, j, d, a, h, e, e' => by simp at e
  | (d, false) :: ds, vs, 0, d', a, h, e, e' => by simp at e
  | (d, true) :: ds, vs, 0, d', a, h, e, e' => by
    obtain ⟨v, r, rfl, ⟨h1, _⟩, _, _⟩ := h
    have e' : v = a := by simpa using e'
    exact e' ▸ h1
  | (d, false) :: ds, vs, j + 1, d', a, h, e, e' => by
    obtain ⟨v, r, rfl, _, h3⟩ := h
    exact h3.fresh (by simpa using e) (by simpa using e')
  | (d, true) :: ds, vs, j + 1, d', a, h, e, e' => by
    obtain ⟨v, r, rfl, _, _, h3⟩ := h
    exact h3.fresh (by simpa using e) (by simpa using e')
theorem MixL.more {Hs F H H' : Hp} {L : List Addr} (x : ∀ a o, H a = some o → H' a = some o) : ∀ {ds : List (D × Bool)} {vs : List V}, MixL K mg Hs F L H ds vs → MixL K mg Hs F L H' ds vs
  | [], vs, h => h
  | (d, false) :: ds, vs, h => by
    obtain ⟨v, r, rfl, h1, h3⟩ := h
    exact ⟨v, r, rfl, h1, h3.more x⟩
  | (d, true) :: ds, vs, h => by
    obtain ⟨v, r, rfl, ⟨h1, h2, h5, h6⟩, h4, h3⟩ := h
    exact ⟨v, r, rfl, ⟨h1, h2, h5, h6.mono (Ex.refl F) (x v)⟩, h4, h3.more x⟩
def tmG (K : PySem.W.Frag) (mg : Glob) (Γ : Ent) (W : WX) (m : MDen) : TA := fun σ H Q => ∃ F L ρ st, Rl K mg Γ F L σ H ρ st ∧
  Post K mg W σ F L H (m ρ st) fun F' L' H' _ ds => ∀ vs, MixL K mg H F' L' H' ds vs → Q vs H'
def mNil : MDen := fun _ st => .ok [] st
def mVal (m : EDen) (ms : MDen) : MDen := fun ρ st => (m ρ st).bind fun d st1 => (ms ρ st1).bind fun ds st2 => .ok ((d, false) :: ds) st2
def mOwn (m : EDen) (ms : MDen) : MDen := fun ρ st => (m ρ st).bind fun d st1 => (ms ρ st1).bind fun ds st2 => .ok ((d, true) :: ds) st2
theorem m_nil : PA X [] (tmG K mg Γ W mNil) := pa_imp pa_nil fun σ H Q ⟨F, L, ρ, st, rl, q⟩ => q.here rl.sto [] rfl
theorem m_val {ms : MDen} (ha : PE X e (teV K mg Γ W m)) (hr : PA X es (tmG K mg Γ W ms)) (hs : starEach (e :: es) X.env = (false, eval e X.env) :: starEach es X.env := by rfl) : PA X (e :: es) (tmG K mg Γ W (mVal m ms)) := by
  refine pa_imp (pa_cons ha hr hs) fun σ H Q ⟨F, L, ρ, st, rl, q⟩ => ⟨F, L, ρ, st, rl, q.bind.imp fun F1 L1 H1 st1 d s o q1 v kv => ?_⟩
  refine ⟨F1, L1, ρ, st1, rl.step s o, q1.bind.imp fun F2 L2 H2 st2 ds s2 o2 q2 vs kvs => ?_⟩
  exact q2.here o2 (v :: vs) ⟨v, vs, rfl, s2.vrep kv, kvs.late (s.more o)⟩
theorem m_own {ms : MDen} (ha : PE X e (teO K mg Γ W m)) (hr : PA X es (tmG K mg Γ W ms)) (hs : starEach (e :: es) X.env = (false, eval e X.env) :: starEach es X.env := by rfl) : PA X (e :: es) (tmG K mg Γ W (mOwn m ms)) := by
  refine pa_imp (pa_cons ha hr hs) fun σ H Q ⟨F, L, ρ, st, rl, q⟩ => ⟨F, L, ρ, st, rl, q.bind.imp fun F1 L1 H1 st1 d s o q1 v kv => ?_⟩
  refine ⟨F1, L1, ρ, st1, rl.step s o, q1.bind.imp fun F2 L2 H2 st2 ds s2 o2 q2 vs kvs => ?_⟩
  obtain ⟨a, rfl, n, nF, nL, hs⟩ := kv
  obtain ⟨u, hu⟩ := hs.there
  obtain ⟨g1, g2, g3⟩ := s2.kp a u hu nL
  refine q2.here o2 (.ref a :: vs) ⟨a, vs, rfl, ⟨n, g2.trans nF, g3, hs.mono s2.ex fun w z => (s2.kp a w z nL).1⟩, fun j d' e1 e2 => ?_, kvs.late (s.more o)⟩
  rw [kvs.fresh e1 e2] at hu; cases hu
def setR (ρ : REnv) : List Nat → List (D × Bool) → REnv
  | i :: is, (d, true) :: ds => setR (ρ.set i (.own d)) is ds
  | i :: is, (d, false) :: ds => setR (ρ.set i (.val d)) is ds
  | _, _ => ρ
def setAll (σ : St) : List Nat → List V → St
  | i :: is, v :: vs => setAll (σ.set i (some v)) is vs
  | _, _ => σ
theorem Rl.setAll {Hs F H : Hp} {L : List Addr} {st : Store} (n0 : ∀ a, Hs a = none → Γ.H0 a = none) : ∀ (is : List Nat) {σ : St} {ρ : REnv} {ds : List (D × Bool)} {vs : List V}, Rl K mg Γ F L σ H ρ st → MixL K mg Hs F L H ds vs →
    (∀ (i : Nat) (d : D) (b : Addr), ρ[i]? = some (Sl.own d) → σ[i]? = some (some (V.ref b)) → ∀ (j : Nat) (d' : D), ds[j]? = some (d', true) → vs[j]? ≠ some (V.ref b)) → Rl K mg Γ F L (Gh.setAll σ is vs) H (setR ρ is ds) st
  | [], σ, ρ, ds, vs, rl, h, ne => by
    have e : setR ρ [] ds = ρ := by cases ds <;> rfl
    have e2 : Gh.setAll σ [] vs = σ := by cases vs <;> rfl
    rw [e, e2]; exact rl
  | i :: is, σ, ρ, [], vs, rl, h, ne => by
    have h : vs = [] := h
    subst h
    exact rl
  | i :: is, σ, ρ, (d, false) :: ds, vs, rl, h, ne => by
    obtain ⟨v, r, rfl, h1, h3⟩ := h
    refine Rl.setAll n0 is (rl.setV i h1) h3 fun k e b k1 k2 j d' j1 => ?_
    rcases set_get k1 with ⟨_, q, _⟩ | ⟨n, q⟩
    · cases q
    · rw [List.getElem?_set_ne (Ne.symm n)] at k2
      have := ne k e b q k2 (j + 1) d' (by simpa using j1)
      simpa using this
  | i :: is, σ, ρ, (d, true) :: ds, vs, rl, h, ne => by
    obtain ⟨a, r, rfl, ⟨h1, h2, h5, h6⟩, h4, h3⟩ := h
    refine Rl.setAll n0 is (rl.setO i h2 h5 (n0 a h1) h6 fun j e q => fun z => ne j e a q z 0 d rfl rfl) h3 fun k e b k1 k2 j d' j1 => ?_
    rcases set_get k1 with ⟨hki, q, hl⟩ | ⟨n, q⟩
    · subst hki
      rw [List.getElem?_set_self (by rw [← rl.len]; exact hl)] at k2
      cases k2
      exact h4 j d' j1
    · rw [List.getElem?_set_ne (Ne.symm n)] at k2
      have := ne k e b q k2 (j + 1) d' (by simpa using j1)
      simpa using this
end
end Gh
/-! Gh14: statements with several targets. -/
namespace Gh
open L2 PyProof.Rows PySem.Spec PySem
section
variable {X : Cx} {K : PySem.W.Frag} {mg : Glob} {Γ : Ent} {W : WX} {e a b c tg : Expr} {es ts : List Expr} {m ma mb mo mi me : EDen} {ms : MDen} {pos p p2 tpos px py pz pt pt2 : Pos} {k : Kd} {kt k2 : Nat} {vs ws : List Nat} {bd : BDen}
def sPar (is : List Nat) (m : MDen) : SDen := fun ρ st => (m ρ st).s ρ fun ds st' => if ds.length = is.length then .nx (setR ρ is ds) st' else .bad
/-- from the outcome of the values to the slots -/
theorem par_go {D' : Ends} {σ : St} {H : Hp} {is : List Nat} (h : tsG K mg Γ W (sPar is ms) D' σ H) : tmG K mg Γ W ms σ H fun vs H1 => vs.length = is.length ∧ (∀ p u, H1 p = none → D'.nx (setAll σ is vs) (upd H1 p u)) ∧ D'.nx (setAll σ is vs) H1 := by
  obtain ⟨F, L, ρ, st, rl, q⟩ := h
  refine ⟨F, L, ρ, st, rl, (SPost.s q rl).imp fun F1 L1 H1 st1 ds s o q1 vs kvs => ?_⟩
  split at q1
  · rename_i hl
    have rl1 := rl.step s o
    have fin : ∀ H2, Rl K mg Γ F1 L1 σ H2 ρ st1 → MixL K mg H F1 L1 H2 ds vs → D'.nx (setAll σ is vs) H2 := fun H2 r2 k2 => by
      refine q1 F1 L1 _ H2 (r2.setAll (Hs := H) (fun a n => rl.new0 n) is k2 fun i d b e1 e2 j d' j1 j2 => ?_)
      obtain ⟨a, g1, _, _, _, hh⟩ := rl.so i d e1
      rw [g1] at e2
      cases e2
      obtain ⟨u, hu⟩ := hh.there
      rw [k2.fresh j1 j2] at hu; cases hu
    refine ⟨by rw [← kvs.len]; exact hl, fun p u np => fin _ (rl1.step (Stp.fresh np) (o.fresh np)) (kvs.more fun a w z => by rw [upd_ne (ne_of_none z np)]; exact z), fin H1 rl1 kvs⟩
  · exact q1.elim
theorem s_par2 {i j : Nat} {x y : Str} (hc : X.calm = true) (hN : X.N.Nodup) (ha : PA X [a, b] (tmG K mg Γ W ms)) (hi : X.N[i]? = some x := by rfl) (hj : X.N[j]? = some y := by rfl) (hij : i ≠ j := by decide) (hx : X.env.scope.names.lookup x = some .local := by rfl) (hy : X.env.scope.names.lookup y = some .local := by rfl)
    (hw : swappedStores [.Tuple [.Name x px, .Name y py] kt pt] (.Tuple [a, b] k2 pt2) X.env = pure (some [x, y]) := by rfl) (hs : swapsWithSole [.Tuple [.Name x px, .Name y py] kt pt] (.Tuple [a, b] k2 pt2) pos.line X.env = pure false := by rfl) :
    PS X (.Assign [.Tuple [.Name x px, .Name y py] kt pt] (.Tuple [a, b] k2 pt2) pos) (tsG K mg Γ W (sPar [i, j] ms)) := by
  refine ps_imp (ps_par hc hN hi hj hij hx hy ha hw hs) fun D' σ H h => ?_
  obtain ⟨F, L, ρ, st, rl, q⟩ := par_go h
  refine ⟨F, L, ρ, st, rl, q.imp fun F1 L1 H1 st1 ds s o q1 vs kvs => ?_⟩
  obtain ⟨hl, _, q2⟩ := q1 vs kvs
  match vs, hl, q2 with
  | [v, u], _, q2 => exact ⟨v, u, rfl, q2⟩
theorem s_par3 {i j l : Nat} {x y z : Str} (hc : X.calm = true) (hN : X.N.Nodup) (ha : PA X [a, b, c] (tmG K mg Γ W ms)) (hi : X.N[i]? = some x := by rfl) (hj : X.N[j]? = some y := by rfl) (hl : X.N[l]? = some z := by rfl) (hij : i ≠ j := by decide) (hil : i ≠ l := by decide) (hjl : j ≠ l := by decide)
    (hx : X.env.scope.names.lookup x = some .local := by rfl) (hy : X.env.scope.names.lookup y = some .local := by rfl) (hz : X.env.scope.names.lookup z = some .local := by rfl)
    (hw : swappedStores [.Tuple [.Name x px, .Name y py, .Name z pz] kt pt] (.Tuple [a, b, c] k2 pt2) X.env = pure (some [x, y, z]) := by rfl) (hs : swapsWithSole [.Tuple [.Name x px, .Name y py, .Name z pz] kt pt] (.Tuple [a, b, c] k2 pt2) pos.line X.env = pure false := by rfl) :
    PS X (.Assign [.Tuple [.Name x px, .Name y py, .Name z pz] kt pt] (.Tuple [a, b, c] k2 pt2) pos) (tsG K mg Γ W (sPar [i, j, l] ms)) := by
  refine ps_imp (ps_par3 hc hN hi hj hl hij hil hjl hx hy hz ha hw hs) fun D' σ H h => ?_
  obtain ⟨F, L, ρ, st, rl, q⟩ := par_go h
  refine ⟨F, L, ρ, st, rl, q.imp fun F1 L1 H1 st1 ds s o q1 vs kvs => ?_⟩
  obtain ⟨hl, _, q2⟩ := q1 vs kvs
  match vs, hl, q2 with
  | [v, u, w], _, q2 => exact ⟨v, u, w, rfl, q2⟩
/-- any number of plain names -/
def gAll' (is : List Nat) : TGs := fun vs σ H Q => vs.length = is.length ∧ Q (setAll σ is vs) H
theorem n_nil : PGs X [] (gAll' []) := pgs_imp pgs_nil fun vs σ H Q ⟨h1, h2⟩ => by
  have e : vs = [] := by simpa using h1
  subst e
  exact ⟨rfl, h2⟩
theorem n_cons {x : Str} {is : List Nat} (i : Nat) (hN : X.N.Nodup) (h2 : PGs X es (gAll' is)) (hi : X.N[i]? = some x := by rfl) (hx : Loc X.env.scope x := by first | exact Or.inl rfl | exact Or.inr rfl) (hf : X.fn x = true ∨ X.env.scope.names.lookup x = some .local := by first | exact .inl rfl | exact .inr rfl | assumption)
    (hs : (assignEach (.Name x pos :: es) X.env).map (·.2) = assign (.Name x pos) X.env :: (assignEach es X.env).map (·.2) := by rfl) : PGs X (.Name x pos :: es) (gAll' (i :: is)) := by
  refine pgs_imp (pgs_cons (pg_name hN hi hx hf) h2 hs) fun vs σ H Q ⟨h1, h3⟩ => ?_
  match vs, h1, h3 with
  | v :: r, h1, h3 => exact ⟨v, r, rfl, by simpa using h1, h3⟩
theorem s_parN {is : List Nat} {x1 : Nat} (hK : X.K = K) (hc : X.calm = true) (ha : PA X es (tmG K mg Γ W ms)) (h : PGs X ts (gAll' is)) (hl9 : is.length < 100) (hn : (assignEach ts X.env).length = is.length := by rfl) (hst : (assignEach ts X.env).findIdx? (·.1) = none := by rfl)
    (hs : swapsWithSole [.Tuple ts kt tpos] (.Tuple es x1 p) pos.line X.env = pure false := by rfl) (hw : swappedStores [.Tuple ts kt tpos] (.Tuple es x1 p) X.env = pure none := by rfl)
    (h1 : (assignEach [.Tuple ts kt tpos] X.env).map (·.2) = [assign (.Tuple ts kt tpos) X.env] := by rfl) : PS X (.Assign [.Tuple ts kt tpos] (.Tuple es x1 p) pos) (tsG K mg Γ W (sPar is ms)) := by
  refine ps_imp (ps_asg (pe_tup ha) (pg_tup hc h hn hst) hs hw h1) fun D' σ H h => ?_
  obtain ⟨F, L, ρ, st, rl, q⟩ := par_go h
  refine ⟨F, L, ρ, st, rl, q.imp fun F1 L1 H1 st1 ds s o q1 vs kvs => ?_⟩
  obtain ⟨hl, q2, _⟩ := q1 vs kvs
  exact ⟨by rw [hl, sizeLine_eq]; omega, fun p np => ⟨p, vs, rfl, .inl (.inl upd_same), hl, hl, q2 p _ np⟩⟩
/-- target = e, e a value -/
def sAsgT (bd : BDen) (m : EDen) : SDen := fun ρ st => (m ρ st).s ρ fun d st' => if isLoc d = true then .bad else match bd d ρ with
  | some ρ' => .nx ρ' st'
  | none => .bad
theorem s_asgT (he : PE X e (teV K mg Γ W m)) (hg : PG X tg (tgG K mg Γ vs bd)) (hs : swapsWithSole [tg] e pos.line X.env = pure false := by rfl) (hw : swappedStores [tg] e X.env = pure none := by rfl) (h1 : (assignEach [tg] X.env).map (·.2) = [assign tg X.env] := by rfl) :
    PS X (.Assign [tg] e pos) (tsG K mg Γ W (sAsgT bd m)) := by
  refine ps_imp (ps_asg he hg hs hw h1) fun D' σ H ⟨F, L, ρ, st, rl, q⟩ => ⟨F, L, ρ, st, rl, (SPost.s q rl).imp fun F1 L1 H1 st1 d s o q1 v kv => ?_⟩
  split at q1
  · exact q1.elim
  · rename_i hl
    split at q1
    · rename_i ρ' hb
      exact ⟨F1, L1, ρ, st1, d, ρ', rl.step s o, VRep.flat kv (by simpa using hl), hb, fun σ' _ rl' => q1 F1 L1 σ' H1 rl'⟩
    · exact q1.elim
end
end Gh
/-! Gh15: what the top has written, in one word a def; the rules by it; the end. -/
namespace Gh
open L2 PyProof.Rows PySem.Spec PySem
theorem takesW {X : Cx} : Takes X W0 := fun u s' ⟨_, _, _, _, _, _, _, _, _, _, _, _, _, _, _, _, w⟩ => w.elim
section
variable {P : Program} {w : World} {K : PySem.W.Frag} {mg : Glob} {base : Heap}
/-- a def of the module promises m -/
def OkG (P : Program) (w : World) (K : PySem.W.Frag) (mg : Glob) (base : Heap) (kk : Nat) (x : Str) (ps : List Str) (m : CallF) : Prop :=
  ∃ f fd, mg x = some (.ref f) ∧ FnOk P w K mg base (L2.CX P w) kk f fd ps (spG K mg m) ∧ PySem.W.keepIn K (.ref f) = true ∧ Binds K fd ps []
/-- a def of a class promises m -/
def OkM (P : Program) (w : World) (K : PySem.W.Frag) (mg : Glob) (base : Heap) (kk : Nat) (c x : Str) (ps : List Str) (m : CallF) : Prop :=
  ∃ C f fd, mg c = some (.ref C) ∧ Cls K C ∧ Meth K C x f ∧ FnOk P w K mg base (L2.CX P w) kk f fd ps (spG K mg m) ∧ Binds K fd ps []
/-- the class may be called, its __init__ promises m -/
def OkC (P : Program) (w : World) (K : PySem.W.Frag) (mg : Glob) (base : Heap) (kk : Nat) (c : Str) (ps : List Str) (m : CallF) : Prop :=
  ∃ C f fd, mg c = some (.ref C) ∧ Mk K C f ∧ FnOk P w K mg base (L2.CX P w) kk f fd ps (spG K mg m) ∧ Binds K fd ps []
/-- the same def x in some classes -/
def OkMs (P : Program) (w : World) (K : PySem.W.Frag) (mg : Glob) (base : Heap) (kk : Nat) (x : Str) (l : List (Str × CallF)) : Prop := ∀ c g, l.lookup c = some g → ∃ ps, OkM P w K mg base kk c x ps g
theorem OkMs.nil {kk : Nat} {x : Str} : OkMs P w K mg base kk x [] := fun c g h => by cases h
theorem OkMs.cons {kk : Nat} {c x : Str} {ps : List Str} {m : CallF} {l : List (Str × CallF)} (h : OkM P w K mg base kk c x ps m) (t : OkMs P w K mg base kk x l) : OkMs P w K mg base kk x ((c, m) :: l) := fun d g e => by
  rw [List.lookup_cons] at e
  cases q : d == c with
  | true =>
    rw [q] at e
    cases e
    rw [beq_iff_eq] at q
    subst q
    exact ⟨ps, h⟩
  | false =>
    rw [q] at e
    exact t d g e
theorem OkG.mono {j k : Nat} {x : Str} {ps : List Str} {m : CallF} (h : OkG P w K mg base j x ps m) (e : j ≤ k) : OkG P w K mg base k x ps m := by
  obtain ⟨f, fd, h1, h2, h3, h4⟩ := h
  exact ⟨f, fd, h1, h2.mono e, h3, h4⟩
theorem OkM.mono {j k : Nat} {c x : Str} {ps : List Str} {m : CallF} (h : OkM P w K mg base j c x ps m) (e : j ≤ k) : OkM P w K mg base k c x ps m := by
  obtain ⟨C, f, fd, h1, h2, h3, h4, h5⟩ := h
  exact ⟨C, f, fd, h1, h2, h3, h4.mono e, h5⟩
theorem OkC.mono {j k : Nat} {c : Str} {ps : List Str} {m : CallF} (h : OkC P w K mg base j c ps m) (e : j ≤ k) : OkC P w K mg base k c ps m := by
  obtain ⟨C, f, fd, h1, h3, h4, h5⟩ := h
  exact ⟨C, f, fd, h1, h3, h4.mono e, h5⟩
/-! what the top has written -/
def TG (K : PySem.W.Frag) (mg : Glob) (x qual : Str) (st : Stmt) : Prop := ∃ f fd, mg x = some (.ref f) ∧ Fun K x qual st f fd ∧ PySem.W.keepIn K (.ref f) = true
def TC (K : PySem.W.Frag) (mg : Glob) (c : Str) : Prop := ∃ C, mg c = some (.ref C) ∧ Cls K C ∧ PySem.W.makesIn K C = true ∧ PySem.W.keepIn K (.ref C) = true
def TM (K : PySem.W.Frag) (mg : Glob) (c x qual : Str) (st : Stmt) : Prop := ∃ C f fd, mg c = some (.ref C) ∧ Meth K C x f ∧ Fun K x qual st f fd
def TF (K : PySem.W.Frag) (mg : Glob) (c f : Str) : Prop := ∃ C, mg c = some (.ref C) ∧ Cls K C ∧ NoAttr K C f
theorem tg_mk {h : Heap} {x qual : Str} {st : Stmt} {f : Addr} {oc : Value} {od an : Option Addr} {osl : Array (Option Value)} {kV doc pm cdv ct : Value} (X : K.In h) (G : h.Ns mainGlobals mg) (a : PySem.W.nsIn K mainGlobals x = some (some (.ref f)))
    (l : K.lookup f = some ⟨oc, od, .func (PySem.W.fnOf x qual (defArgs st) (defBody st) (defScope st) .none kV doc pm an cdv ct), osl⟩) (c : PySem.W.codeIn K cdv qual = true) (k : PySem.W.keepIn K (.ref f) = true) : TG K mg x qual st :=
  ⟨f, _, PySem.W.mg_of X G a, fun_mk l c k, k⟩
theorem tc_mk {h : Heap} {c : Str} {C : Addr} (X : K.In h) (G : h.Ns mainGlobals mg) (a : PySem.W.nsIn K mainGlobals c = some (some (.ref C))) (pg : PySem.W.plainGet K C Str.empty = true) (hd : PySem.W.hasDictIn K C = true) (po : PySem.W.plainOver K C = true)
    (sa : PySem.W.findIn K (.ref C) "__setattr__" = some (some (.builtin "object.__setattr__"))) (mk : PySem.W.makesIn K C = true) (kc : PySem.W.keepIn K (.ref C) = true) : TC K mg c := ⟨C, PySem.W.mg_of X G a, ⟨pg, hd, po, sa⟩, mk, kc⟩
theorem tm_mk {h : Heap} {c x qual : Str} {st : Stmt} {C f : Addr} {oc : Value} {od an : Option Addr} {osl : Array (Option Value)} {kV doc pm cdv ct : Value} (X : K.In h) (G : h.Ns mainGlobals mg) (a : PySem.W.nsIn K mainGlobals c = some (some (.ref C)))
    (b : PySem.W.findIn K (.ref C) x = some (some (.ref f))) (i : PySem.W.isFn K (.ref f) = true)
    (l : K.lookup f = some ⟨oc, od, .func (PySem.W.fnOf x qual (defArgs st) (defBody st) (defScope st) .none kV doc pm an cdv ct), osl⟩) (d : PySem.W.codeIn K cdv qual = true) (k : PySem.W.keepIn K (.ref f) = true) : TM K mg c x qual st :=
  ⟨C, f, _, PySem.W.mg_of X G a, ⟨b, i, k⟩, fun_mk l d k⟩
theorem tf_mk {h : Heap} {c f : Str} {C : Addr} (X : K.In h) (G : h.Ns mainGlobals mg) (T : TC K mg c) (a : PySem.W.nsIn K mainGlobals c = some (some (.ref C))) (n : PySem.W.findIn K (.ref C) f = some none) : TF K mg c f := by
  obtain ⟨C', h1, h2, _⟩ := T
  rw [PySem.W.mg_of X G a] at h1
  cases h1
  exact ⟨C, PySem.W.mg_of X G a, h2, n⟩
theorem AttOk.nil {f : Str} : AttOk K mg f [] := fun c h => by cases h
theorem AttOk.cons {c f : Str} {cs : List Str} (h : TF K mg c f) (t : AttOk K mg f cs) : AttOk K mg f (c :: cs) := fun d hd C hC => by
  rcases List.mem_cons.mp hd with rfl | hd
  · obtain ⟨C', h1, h2, h3⟩ := h
    rw [h1] at hC
    cases hC
    exact ⟨h2, h3⟩
  · exact t d hd C hC
/-- one class among those that isinstance asks of -/
def TI1 (K : PySem.W.Frag) (mg : Glob) (kit : Value → Option Bool) (c : Str) (r : Bool) : Prop := ∃ C, mg c = some (.ref C) ∧ InsTy K C ∧ kit (.ref C) = some r
theorem isiOk_mk {kit : Value → Option Bool} {bs : List String} {yes no : List Str} (hb : ∀ n ∈ blts, kit (.type n) = some (tyIs n bs)) (hy : ∀ c ∈ yes, TI1 K mg kit c true) (hn : ∀ c ∈ no, TI1 K mg kit c false) : IsiOk K mg kit bs yes no := by
  refine ⟨hb, fun c h C hC => ?_, fun c h C hC => ?_⟩
  · obtain ⟨C', h1, h2⟩ := hy c h
    rw [h1] at hC; cases hC
    exact h2
  · obtain ⟨C', h1, h2⟩ := hn c h
    rw [h1] at hC; cases hC
    exact h2
theorem OkMs.own {X : Cx} {kk : Nat} {x : Str} {l : List (Str × CallF)} (h : OkMs X.prog X.w X.K X.mg X.base kk x l) : OwnM X X.mg kk x (fun c => l.lookup c) := fun c g C e hC => by
  obtain ⟨ps, C', f, fd, h1, h2, h3, h4, h5⟩ := h c g e
  rw [h1] at hC; cases hC
  exact ⟨f, fd, ps, h3.at_, h3.fn, h4, h5⟩
/-! the promise of a def -/
theorem okG_of {x : Str} {st : Stmt} {ps : List Str} {kk : Nat} {m : CallF} (T : TG K mg x x st) (hb : ∀ f fd, Fun K x x st f fd → Binds K fd ps []) (F : ∀ f fd, Fun K x x st f fd → FnOk P w K mg base (L2.CX P w) kk f fd ps (spG K mg m)) : OkG P w K mg base kk x ps m := by
  obtain ⟨f, fd, h1, h2, h3⟩ := T
  exact ⟨f, fd, h1, F f fd h2, h3, hb f fd h2⟩
theorem okM_of {c x qual : Str} {st : Stmt} {ps : List Str} {kk : Nat} {m : CallF} (T0 : TC K mg c) (T : TM K mg c x qual st) (hb : ∀ f fd, Fun K x qual st f fd → Binds K fd ps []) (F : ∀ f fd, Fun K x qual st f fd → FnOk P w K mg base (L2.CX P w) kk f fd ps (spG K mg m)) : OkM P w K mg base kk c x ps m := by
  obtain ⟨C, f, fd, h1, h2, h3⟩ := T
  obtain ⟨C', g1, g2, _⟩ := T0
  rw [h1] at g1; cases g1
  exact ⟨C, f, fd, h1, g2, h2, F f fd h3, hb f fd h3⟩
theorem okC_of {c : Str} {ps : List Str} {kk : Nat} {m : CallF} (T0 : TC K mg c) (h : OkM P w K mg base kk c "__init__" ps m) : OkC P w K mg base kk c ps m := by
  obtain ⟨C, f, fd, h1, h2, h3, h4, h5⟩ := h
  obtain ⟨C', g1, g2, g3, g4⟩ := T0
  rw [h1] at g1; cases g1
  exact ⟨C, f, fd, h1, ⟨g3, h3.at_, h3.fn, g4⟩, h4, h5⟩
end
section
variable {X : Cx} {mg : Glob} {Γ : Ent} {W : WX} {e o : Expr} {es : List Expr} {m mo : EDen} {ms : ADen} {pos p apos : Pos} {kk : Nat} {x c mname : Str} {ps : List Str} {cf : CallF}
theorem f_call (h : OkG X.prog X.w X.K X.mg X.base kk x ps cf) (hr : Room kk X.A) (tk : Takes X W) (ha : PA X (e :: es) (taG X.K X.mg Γ W ms)) (hg : Gl X x := by rfl) (hdb : (x == ("__debug__" : Str)) = false := by decide)
    (he : starEach (e :: es) X.env = (false, eval e X.env) :: starEach es X.env := by rfl) (hpl : (backTo pos (starEach es X.env)).any (·.1) = false := by rfl) : PE X (.Call (.Name x p) (e :: es) [] pos) (teV X.K X.mg Γ W (eCall cf ms)) := by
  obtain ⟨f, fd, h1, h2, h3, h4⟩ := h
  exact g_call h2 hr h1 h3 h4 tk ha hg hdb he hpl
theorem f_call0 (h : OkG X.prog X.w X.K X.mg X.base kk x ps cf) (hr : Room kk X.A) (tk : Takes X W) (hg : Gl X x := by rfl) (hdb : (x == ("__debug__" : Str)) = false := by decide) : PE X (.Call (.Name x p) [] [] pos) (teV X.K X.mg Γ W (eCall cf aNil)) := by
  obtain ⟨f, fd, h1, h2, h3, h4⟩ := h
  exact g_call0 h2 hr h1 h3 h4 tk hg hdb
theorem f_make (h : OkC X.prog X.w X.K X.mg X.base kk c ps cf) (hr : Room (kk + 1) X.A) (tk : Takes X W) (ha : PA X (e :: es) (taG X.K X.mg Γ W ms)) (hg : Gl X c := by rfl) (hdb : (c == ("__debug__" : Str)) = false := by decide)
    (he : starEach (e :: es) X.env = (false, eval e X.env) :: starEach es X.env := by rfl) (hpl : (backTo pos (starEach es X.env)).any (·.1) = false := by rfl) : PE X (.Call (.Name c p) (e :: es) [] pos) (teV X.K X.mg Γ W (eMake c cf ms)) := by
  obtain ⟨C, f, fd, h1, h2, h3, h4⟩ := h
  exact g_make h2 h3 hr h1 h1 h4 tk ha hg hdb he hpl
theorem f_makeM (h : OkC X.prog X.w X.K X.mg X.base kk c ps cf) (hr : Room (kk + 1) X.A) (tk : Takes X W) (ha : PA X (e :: es) (taG X.K X.mg Γ W ms)) (hg : Gl X c := by rfl) (hdb : (c == ("__debug__" : Str)) = false := by decide)
    (he : starEach (e :: es) X.env = (false, eval e X.env) :: starEach es X.env := by rfl) (hpl : (backTo pos (starEach es X.env)).any (·.1) = false := by rfl) : PE X (.Call (.Name c p) (e :: es) [] pos) (teV X.K X.mg Γ W (eMakeM c cf ms)) := by
  obtain ⟨C, f, fd, h1, h2, h3, h4⟩ := h
  exact g_makeM h2 h3 hr h1 h1 h4 tk ha hg hdb he hpl
theorem f_makeM0 (h : OkC X.prog X.w X.K X.mg X.base kk c ps cf) (hr : Room (kk + 1) X.A) (tk : Takes X W) (hg : Gl X c := by rfl) (hdb : (c == ("__debug__" : Str)) = false := by decide) : PE X (.Call (.Name c p) [] [] pos) (teV X.K X.mg Γ W (eMakeM c cf aNil)) := by
  obtain ⟨C, f, fd, h1, h2, h3, h4⟩ := h
  exact g_makeM0 h2 h3 hr h1 h1 h4 tk hg hdb
/-- o.m(..), o of one of the classes of l -/
def eMethU (l : List (Str × CallF)) (m : Str) (mo : EDen) (ms : ADen) : EDen := fun ρ st => (mo ρ st).bind fun d st1 => match instOf st1 d with
  | some (c, fs) => (match l.lookup c with
    | some f => if (fs.lookup m).isNone = true then (ms ρ st1).bind fun ds st2 => f (d :: ds) st2 else .bad
    | none => .bad)
  | none => .bad
theorem methU_go {Q : VK} {σ : St} {H : Hp} {l : List (Str × CallF)} (A : OkMs X.prog X.w X.K X.mg X.base kk mname l) (h : teV X.K X.mg Γ W (eMethU l mname mo ms) σ H Q) :
    teV X.K X.mg Γ W mo σ H fun x H1 => ∃ C a dx fs f fd ps cf, x = .ref a ∧ H1 a = some (.ins C dx fs) ∧ fs.lookup mname = none ∧ Cls X.K C ∧ Meth X.K C mname f ∧ FnOk X.prog X.w X.K X.mg X.base (L2.CX X.prog X.w) kk f fd ps (spG X.K X.mg cf) ∧ Binds X.K fd ps [] ∧
      taG X.K X.mg Γ W ms σ H1 fun vs H2 => spG X.K X.mg cf (x :: vs) H2 Q (WE W σ) := by
  obtain ⟨F, L, ρ, st, rl, q⟩ := h
  refine ⟨F, L, ρ, st, rl, q.bind.imp fun F1 L1 H1 st1 d s o q1 v kv => ?_⟩
  split at q1
  · rename_i c' fs e
    split at q1
    · rename_i g hg
      split at q1
      · rename_i hn
        obtain ⟨a, C', dx, fv, rfl, h1, h2, h3⟩ := inst_at o kv (instOf_at e)
        obtain ⟨ps, C, f, fd, g1, g2, g3, g4, g5⟩ := A c' g hg
        rw [h1] at g1; cases g1
        refine ⟨C', a, dx, fv, f, fd, ps, g, rfl, h2, h3.lookNone (by simpa using hn), g2, g3, g4, g5, F1, L1, ρ, st1, rl.step s o, q1.bind.imp fun F2 L2 H2 st2 ds s2 o2 q2 vs kvs => ?_⟩
        exact ⟨F2, L2, d :: ds, st2, o2, ⟨_, vs, rfl, s2.vrep kv, kvs⟩, Post.wish q2⟩
      · exact q1.elim
    · exact q1.elim
  · exact q1.elim
theorem f_meth {pl : Sem Bool} {l : List (Str × CallF)} (A : OkMs X.prog X.w X.K X.mg X.base kk mname l) (hr : Room kk X.A) (tk : Takes X W) (ho : PE X o (teV X.K X.mg Γ W mo)) (ha : PA X (e :: es) (taG X.K X.mg Γ W ms))
    (hst : starEach (e :: es) X.env = (false, eval e X.env) :: starEach es X.env := by rfl) (hpl : (backTo pos (starEach es X.env)).any (·.1) = false := by rfl)
    (ht : eval (.Call (.Attribute o mname apos) (e :: es) [] pos) X.env = (do let ov ← eval o X.env; standAt apos.atName; let (f, first) ← holding [ov] (getMethod ov mname pl); callWith pos f first (backTo pos (starEach (e :: es) X.env)) (backToKw pos (keywordEach [] X.env))) := by rfl) :
    PE X (.Call (.Attribute o mname apos) (e :: es) [] pos) (teV X.K X.mg Γ W (eMethU l mname mo ms)) := by
  refine ⟨fun pins s σ H Q I h => PySem.W.methodCall_KW (pl := pl) (thn (ho.run pins s σ H _ I (methU_go A h)) fun u s1 hh => ?_) ht⟩
  obtain ⟨x, H1, I1, rx, C, a, dx, fs, f, fd, ps, cf, ex, ea, ln, cl, hm, F, hb, q⟩ := hh
  cases ex
  cases (show u = Value.ref a from rx)
  exact getmeth_ok I1 ea cl hm ln (PySem.W.callWith_K (first := [.ref a]) (h₀ := X.base) I.ok.mod.kin hm.kp (thn (ha.run pos pins s1 σ H1 _ I1 q) fun us s2 ⟨vs, H2, I2, r, q2⟩ =>
    ⟨I2.kIn, run_fnS (us := .ref a :: us) (vs := .ref a :: vs) (E := WE W) F hr hb (passAt tk σ) I2 (.cons rfl r) q2⟩) hst hpl)
theorem f_meth0 {pl : Sem Bool} {l : List (Str × CallF)} (A : OkMs X.prog X.w X.K X.mg X.base kk mname l) (hr : Room kk X.A) (tk : Takes X W) (ho : PE X o (teV X.K X.mg Γ W mo))
    (ht : eval (.Call (.Attribute o mname apos) [] [] pos) X.env = (do let ov ← eval o X.env; standAt apos.atName; let (f, first) ← holding [ov] (getMethod ov mname pl); callWith pos f first (backTo pos (starEach [] X.env)) (backToKw pos (keywordEach [] X.env))) := by rfl) :
    PE X (.Call (.Attribute o mname apos) [] [] pos) (teV X.K X.mg Γ W (eMethU l mname mo aNil)) := by
  refine ⟨fun pins s σ H Q I h => PySem.W.methodCall_KW (pl := pl) (thn (ho.run pins s σ H _ I (methU_go A h)) fun u s1 hh => ?_) ht⟩
  obtain ⟨x, H1, I1, rx, C, a, dx, fs, f, fd, ps, cf, ex, ea, ln, cl, hm, F, hb, F', L', ρ', st', rl', q⟩ := hh
  cases ex
  cases (show u = Value.ref a from rx)
  obtain ⟨F2, L2', ds, st2, o2, k2, q2⟩ := q.here rl'.sto [] rfl
  exact getmeth_ok I1 ea cl hm ln (PySem.W.callWith_K0 (first := [.ref a]) I1.kIn hm.kp (run_fnS (us := [.ref a]) (vs := [.ref a]) (E := WE W) F hr hb (passAt tk σ) I1 (.cons rfl .nil) ⟨F2, L2', ds, st2, o2, k2, q2⟩))
/-! what is never come to -/
def eBad : EDen := fun _ _ => .bad
def sBad : SDen := fun _ _ => .bad
theorem e_bad {k : Kd} {K : PySem.W.Frag} : PE X e (teG k K mg Γ W eBad) := ⟨fun pins s σ H Q I ⟨_, _, _, _, _, q⟩ => q.elim⟩
theorem s_bad {K : PySem.W.Frag} {st : Stmt} : PS X st (tsG K mg Γ W sBad) := ⟨fun pins s σ H D' I ⟨_, _, _, _, _, q⟩ => q.elim⟩
end
/-! ### the end -/
/-- law's: a list of at most 63 ints is handed in, True comes out -/
def spLaw (K : PySem.W.Frag) : Sp := fun vs H Q _ => ∃ (a : Addr) (ns : List Int), vs = [.ref a] ∧ SqL K H a (ns.map V.int) ∧ ns.length ≤ 63 ∧ ∀ H', Q (.bl true) H'
theorem repl_ints {K : PySem.W.Frag} {mg : Glob} {F : Hp} : ∀ ns : List Int, RepL K mg F (ns.map D.int) (ns.map V.int)
  | [] => rfl
  | n :: ns => ⟨_, _, rfl, rfl, repl_ints ns⟩
theorem law_sp {K : PySem.W.Frag} {mg : Glob} {m : CallF} (h : ∀ ns : List Int, ns.length ≤ 63 → m [.scr (ns.map D.int)] [] = .ok (.bl true) []) : ∀ vs H Q E, spLaw K vs H Q E → spG K mg m vs H Q E := by
  rintro vs H Q E ⟨a, ns, rfl, h1, h2, h3⟩
  refine ⟨H, [], [.scr (ns.map D.int)], [], ⟨ExF.of (Ex.refl H), List.nodup_nil, rfl, fun n a d e => by cases e⟩, ⟨_, [], rfl, .inr ⟨a, _, rfl, h1, repl_ints ns⟩, rfl⟩, ?_⟩
  rw [h ns h2]
  intro F' L' H' s o v kv
  rw [kv.bl]
  exact h3 H'
/-- law's own entry, by what the top has written -/
def LawB (P : Program) (w : World) (K : PySem.W.Frag) (mg : Glob) (k : Nat) (x : Str) (m : CallF) : Prop := ∃ fd f, mg x = some (.ref f) ∧ (∀ (s : Shared) (u : Value), BindsTo s fd ⟨[u], []⟩ [("script", u)]) ∧
  ∀ base : Heap, K.In base → base.Ns mainGlobals mg → FnOk P w K mg base (L2.CX P w) k f fd ["script"] (spG K mg m)
theorem lawB_of {P : Program} {w : World} {K : PySem.W.Frag} {mg : Glob} {k : Nat} {x : Str} {m : CallF} {st : Stmt} (T : TG K mg x x st) (hb : ∀ (f : Addr) (fd : FuncData), Fun K x x st f fd → ∀ (s : Shared) (u : Value), BindsTo s fd ⟨[u], []⟩ [("script", u)])
    (F : ∀ (base : Heap) (f : Addr) (fd : FuncData), Fun K x x st f fd → FnOk P w K mg base (L2.CX P w) k f fd ["script"] (spG K mg m)) : LawB P w K mg k x m := by
  obtain ⟨f, fd, h1, h2, h3⟩ := T
  exact ⟨fd, f, h1, hb f fd h2, fun base _ _ => F base f fd h2⟩
theorem law_walk {l : PySem.W.OpenLaw} {k : Nat} {q : Program} {loose : List Str} {XP : (Str → Option Value) → Heap → Prop} {YP : World → Heap → Prop} {d : DefRec} {K : Params → PySem.W.Frag} {m : CallF} (hn : l.most = some 63) (hdf : d.params.defaults = []) (hr : Room k callerA)
    (hY : ∀ (w : World) (h : Heap), YP w h → (K w.params).In h) (hm : ∀ ns : List Int, ns.length ≤ 63 → m [.scr (ns.map D.int)] [] = .ok (.bl true) [])
    (B : ∀ (w : World) (mg : Glob) (h : Heap), (K w.params).In h → h.Ns mainGlobals mg → LawB l.prog w (K w.params) mg k d.name m) :
    PySem.W.WalkO q loose XP YP l.row.toRowW d [] (fun f vs => PySem.call f vs) := by
  refine L2.walk_of (n := 63) (k := k) (x := "script") (CX := fun w => L2.CX l.prog w) (sp := fun w => spLaw (K w.params)) hn (by decide) hdf hr hY (fun w mg fa h KX G hfa => ?_) (fun _ _ a ns hl _ hS => ⟨a, ns, rfl, hS, hl, fun _ => rfl⟩) ?_
  · obtain ⟨fd, f, h1, h2, h3⟩ := B w mg h KX G
    rw [h1] at hfa
    cases hfa
    exact ⟨fd, h2, fun base b1 b2 => (h3 base b1 b2).imp (law_sp hm)⟩
  · rintro w H s e s' ⟨_, _, _, _, _, _, _, _, _, _, _, _, z⟩
    exact z
/-! facts of classes -/
theorem the {K : PySem.W.Frag} {h : Heap} (_ : K.In h) (p : PySem.W.Frag → Prop) (t : p K) : p K := t
theorem insTy_mk {K : PySem.W.Frag} {mg : Glob} {h : Heap} {c : Str} {C : Addr} (X : K.In h) (G : h.Ns mainGlobals mg) (T : TC K mg c) (a : PySem.W.nsIn K mainGlobals c = some (some (.ref C))) (ha : PySem.W.findIn K (.ref C) "__class__" = some (some (.builtin "object.__class__")))
    (hn : PySem.W.specialIn K (.builtin "object.__class__") "__get__" = some (some (.builtin "getset_descriptor.__get__"))) (htk : PySem.W.takesIn K (.builtin "object.__class__") = some true) (hm : PySem.W.mroIn K C (.type "object") = some true) : mg c = some (.ref C) ∧ InsTy K C := by
  obtain ⟨C', h1, h2, _⟩ := T
  rw [PySem.W.mg_of X G a] at h1
  cases h1
  exact ⟨PySem.W.mg_of X G a, h2, ha, hn, htk, hm⟩
end Gh
/-! Gh16: isinstance, own truth and == by what the top has written; the def rule for okG, okM. -/
namespace Gh
open L2 PyProof.Rows PySem.Spec PySem
def gAddI : Op2 := gI (fun _ _ => true) fun i j => .int (i + j)
theorem sem_addI {K : PySem.W.Frag} {mg : Glob} : Sem2 kV K mg gAddI (rI0 fun i j => .int (i + j)) := sem_I0 fun F i j => rfl
/-- isinstance by the class c0 of the text -/
def TIs (K : PySem.W.Frag) (mg : Glob) (c0 : Str) (yes no : List Str) : Prop := ∃ C, mg c0 = some (.ref C) ∧ IsiOk K mg (fun t => PySem.W.kitOne K t (.ref C)) [] yes no
/-- .. by a built-in type, by two -/
def TIb (K : PySem.W.Frag) (mg : Glob) (n : String) (no : List Str) : Prop := IsiOk K mg (fun t => PySem.W.kitOne K t (.type n)) [n] [] no
def TIb2 (K : PySem.W.Frag) (mg : Glob) (n n2 : String) (no : List Str) : Prop := IsiOk K mg (fun t => PySem.W.kitAny K t [.type n, .type n2]) [n, n2] [] no
section
variable {X : Cx} {mg : Glob} {Γ : Ent} {W : WX} {a : Expr} {m : EDen} {pos p p2 p3 pt : Pos} {kk : Nat} {c0 x y : Str} {yes no : List Str} {n n2 : String} {kt : Nat}
theorem f_isiC (h : TIs X.K X.mg c0 yes no) (hm : X.mg "isinstance" = none) (ha : PE X a (teR X.K X.mg Γ W m)) (hg : Gl X "isinstance" := by rfl) (hg2 : Gl X c0 := by rfl) (hd : (c0 == ("__debug__" : Str)) = false := by decide)
    (he : starEach [a, .Name c0 p2] X.env = (false, eval a X.env) :: starEach [.Name c0 p2] X.env := by rfl) (hs2 : starEach [.Name c0 p2] X.env = (false, eval (.Name c0 p2) X.env) :: starEach [] X.env := by rfl) (hpl : (backTo pos (starEach [.Name c0 p2] X.env)).any (·.1) = false := by rfl) :
    PE X (.Call (.Name "isinstance" p) [a, .Name c0 p2] [] pos) (teV X.K X.mg Γ W (e1 (gIsi [] yes no) m)) := by
  obtain ⟨C, h1, h2⟩ := h
  exact g_isi rfl (.own C) h2 hm ha (pe_glob hg2 h1 rfl hd) hg he hs2 hpl
theorem f_isiB (h : TIb X.K X.mg n no) (hm : X.mg "isinstance" = none) (hx : X.mg x = none) (hv : bootBuiltins x = some (.type n)) (ha : PE X a (teR X.K X.mg Γ W m)) (hg : Gl X "isinstance" := by rfl) (hg2 : Gl X x := by rfl) (hn : x ≠ "__name__" := by decide) (hd : (x == ("__debug__" : Str)) = false := by decide)
    (he : starEach [a, .Name x p2] X.env = (false, eval a X.env) :: starEach [.Name x p2] X.env := by rfl) (hs2 : starEach [.Name x p2] X.env = (false, eval (.Name x p2) X.env) :: starEach [] X.env := by rfl) (hpl : (backTo pos (starEach [.Name x p2] X.env)).any (·.1) = false := by rfl) :
    PE X (.Call (.Name "isinstance" p) [a, .Name x p2] [] pos) (teV X.K X.mg Γ W (e1 (gIsi [n] [] no) m)) :=
  g_isi rfl (.ty n) h hm ha (pe_bltn hg2 hx hv rfl hn hd) hg he hs2 hpl
theorem f_isiB2 (h : TIb2 X.K X.mg n n2 no) (hm : X.mg "isinstance" = none) (hx : X.mg x = none) (hv : bootBuiltins x = some (.type n)) (hy : X.mg y = none) (hv2 : bootBuiltins y = some (.type n2)) (ha : PE X a (teR X.K X.mg Γ W m)) (hg : Gl X "isinstance" := by rfl) (hg2 : Gl X x := by rfl) (hn : x ≠ "__name__" := by decide) (hd : (x == ("__debug__" : Str)) = false := by decide)
    (hg3 : Gl X y := by rfl) (hn3 : y ≠ "__name__" := by decide) (hd3 : (y == ("__debug__" : Str)) = false := by decide)
    (he : starEach [a, .Tuple [.Name x p2, .Name y p3] kt pt] X.env = (false, eval a X.env) :: starEach [.Tuple [.Name x p2, .Name y p3] kt pt] X.env := by rfl) (hs2 : starEach [.Tuple [.Name x p2, .Name y p3] kt pt] X.env = (false, eval (.Tuple [.Name x p2, .Name y p3] kt pt) X.env) :: starEach [] X.env := by rfl)
    (hpl : (backTo pos (starEach [.Tuple [.Name x p2, .Name y p3] kt pt] X.env)).any (·.1) = false := by rfl) (hs3 : starEach [.Name x p2, .Name y p3] X.env = (false, eval (.Name x p2) X.env) :: starEach [.Name y p3] X.env := by rfl) (hs4 : starEach [.Name y p3] X.env = (false, eval (.Name y p3) X.env) :: starEach [] X.env := by rfl) :
    PE X (.Call (.Name "isinstance" p) [a, .Tuple [.Name x p2, .Name y p3] kt pt] [] pos) (teV X.K X.mg Γ W (e1 (gIsi [n, n2] [] no) m)) :=
  g_isi2 rfl (.ty n) (.ty n2) h hm ha (pe_bltn hg2 hx hv rfl hn hd) (pe_bltn hg3 hy hv2 rfl hn3 hd3) hg he hs2 hpl hs3 hs4
theorem f_trOwn {l : List (Str × CallF)} (A : OkMs X.prog X.w X.K X.mg X.base kk "__bool__" l) (hr : Room kk X.A) (h : PE X a (teV X.K X.mg Γ W m)) (he : ∀ whole, isTrue a X.env whole = (do let v ← whole; standAt a.pos; holding [v] (truthy v)) := by intro _; rfl) : PT X a (ttG X.K X.mg Γ W (tOwn (fun c => l.lookup c) m)) :=
  g_trOwn rfl A.own hr takesW h he
theorem f_boolOwn {l : List (Str × CallF)} (A : OkMs X.prog X.w X.K X.mg X.base kk "__bool__" l) (hr : Room (kk + 2) X.A) (hm : X.mg "bool" = none) (h : PE X a (teV X.K X.mg Γ W m)) (hg : Gl X "bool" := by rfl) (he : starEach [a] X.env = (false, eval a X.env) :: starEach [] X.env := by rfl) (hpl : (backTo pos (starEach [] X.env)).any (·.1) = false := by rfl) :
    PE X (.Call (.Name "bool" p) [a] [] pos) (teV X.K X.mg Γ W (eOwn (fun c => l.lookup c) m)) :=
  g_boolOwn rfl A.own hr takesW hm h hg he hpl
/-- no left class has a right one below it -/
def TNf (K : PySem.W.Frag) (mg : Glob) (ls rs : List Str) : Prop := ∀ c ∈ ls, ∀ C, mg c = some (.ref C) → ∀ c' ∈ rs, ∀ C', mg c' = some (.ref C') → PySem.W.notFirst K C (.ref C') = true
theorem f_eqI {b : Expr} {ma mb : EDen} {l : List (Str × CallF)} {cs : List Str} (A : OkMs X.prog X.w X.K X.mg X.base kk "__eq__" l) (N : TNf X.K X.mg (l.map (·.1)) cs) (hr : Room kk X.A) (ha : PE X a (teV X.K X.mg Γ W ma)) (hb : PE X b (teV X.K X.mg Γ W mb)) (hm : behindInMarks .Eq b = false := by rfl) :
    PE X (.Compare a [.Eq] [b] pos) (teV X.K X.mg Γ W (e2 (gEqI (fun c => l.lookup c) cs) ma mb)) := by
  refine g_eqI rfl A.own (fun c g C e hC c' hc' C' hC' => N c ?_ C hC c' hc' C' hC') hr takesW ha hb hm
  clear A N
  induction l with
  | nil => cases e
  | cons p t ih =>
    rw [List.lookup_cons] at e
    cases q : c == p.1 with
    | true => rw [beq_iff_eq] at q; simp [q]
    | false =>
      rw [q] at e
      exact List.mem_cons_of_mem _ (ih e)
end
theorem kit_ref {K : PySem.W.Frag} {t : Value} {C : Addr} {r : Bool} (ic : PySem.W.isClsIn K C = true) (tc : PySem.W.typeIn K (.ref C) = some (.type "type")) (s : PySem.W.subIn K t (.ref C) = some r) (h : (t == Value.ref C) = false) : PySem.W.kitOne K t (.ref C) = some r := by
  unfold PySem.W.kitOne
  rw [h, if_neg (by decide)]
  show (if ((PySem.W.clsIn K C).isSome && PySem.W.typeIn K (.ref C) == some (.type "type")) = true then PySem.W.subIn K t (.ref C) else none) = some r
  rw [show (PySem.W.clsIn K C).isSome = true from ic, tc, if_pos (by rfl)]
  exact s
theorem kit_self {K : PySem.W.Frag} {C : Addr} : PySem.W.kitOne K (.ref C) (.ref C) = some true := by
  unfold PySem.W.kitOne
  rw [if_pos (beq_self_eq_true _)]
theorem tis_mk {K : PySem.W.Frag} {mg : Glob} {h : Heap} {c0 : Str} {C : Addr} {yes no : List Str} (X : K.In h) (G : h.Ns mainGlobals mg) (a : PySem.W.nsIn K mainGlobals c0 = some (some (.ref C))) (ic : PySem.W.isClsIn K C = true) (tc : PySem.W.typeIn K (.ref C) = some (.type "type"))
    (k1 : PySem.W.subIn K (.type "NoneType") (.ref C) = some false) (k2 : PySem.W.subIn K (.type "bool") (.ref C) = some false) (k3 : PySem.W.subIn K (.type "int") (.ref C) = some false) (k4 : PySem.W.subIn K (.type "str") (.ref C) = some false)
    (k5 : PySem.W.subIn K (.type "tuple") (.ref C) = some false) (k6 : PySem.W.subIn K (.type "list") (.ref C) = some false) (k7 : PySem.W.subIn K (.type "dict") (.ref C) = some false)
    (hy : ∀ c ∈ yes, TI1 K mg (fun t => PySem.W.kitOne K t (.ref C)) c true) (hn : ∀ c ∈ no, TI1 K mg (fun t => PySem.W.kitOne K t (.ref C)) c false) : TIs K mg c0 yes no := by
  refine ⟨C, PySem.W.mg_of X G a, isiOk_mk (fun n h => ?_) hy hn⟩
  simp only [blts, List.mem_cons, List.not_mem_nil, or_false] at h
  rcases h with rfl | rfl | rfl | rfl | rfl | rfl | rfl
  · exact kit_ref ic tc k1 rfl
  · exact kit_ref ic tc k2 rfl
  · exact kit_ref ic tc k3 rfl
  · exact kit_ref ic tc k4 rfl
  · exact kit_ref ic tc k5 rfl
  · exact kit_ref ic tc k6 rfl
  · exact kit_ref ic tc k7 rfl
theorem ti1_mk {K : PySem.W.Frag} {mg : Glob} {c : Str} {C C0 : Addr} {r : Bool} (h : mg c = some (.ref C) ∧ InsTy K C) (k : PySem.W.kitOne K (.ref C) (.ref C0) = some r) : TI1 K mg (fun t => PySem.W.kitOne K t (.ref C0)) c r := ⟨C, h.1, h.2, k⟩
def TNf1 (K : PySem.W.Frag) (mg : Glob) (c c' : Str) : Prop := ∀ C, mg c = some (.ref C) → ∀ C', mg c' = some (.ref C') → PySem.W.notFirst K C (.ref C') = true
theorem nf1_mk {K : PySem.W.Frag} {mg : Glob} {h : Heap} {c c' : Str} {C C' : Addr} (X : K.In h) (G : h.Ns mainGlobals mg) (a : PySem.W.nsIn K mainGlobals c = some (some (.ref C))) (b : PySem.W.nsIn K mainGlobals c' = some (some (.ref C'))) (n : PySem.W.notFirst K C (.ref C') = true) : TNf1 K mg c c' := fun D h1 D' h2 => by
  rw [PySem.W.mg_of X G a] at h1
  rw [PySem.W.mg_of X G b] at h2
  cases h1
  cases h2
  exact n
theorem nf_mk {K : PySem.W.Frag} {mg : Glob} {ls rs : List Str} (h : ∀ c ∈ ls, ∀ c' ∈ rs, TNf1 K mg c c') : TNf K mg ls rs := fun c hc C hC c' hc' C' hC' => h c hc c' hc' C hC C' hC'
theorem isi_b {K : PySem.W.Frag} {n : String} (h : ∀ a ∈ blts, kitB a n = some (tyIs a [n])) : ∀ a ∈ blts, PySem.W.kitOne K (.type a) (.type n) = some (tyIs a [n]) := fun a ha => kit_ty (h a ha)
theorem tib_mk {K : PySem.W.Frag} {mg : Glob} {n : String} (h : ∀ a ∈ blts, kitB a n = some (tyIs a [n])) : TIb K mg n [] := isiOk_mk (isi_b h) (fun _ h => by cases h) (fun _ h => by cases h)
theorem kitAny2 {K : PySem.W.Frag} {t u v : Value} {r s : Bool} (h1 : PySem.W.kitOne K t u = some r) (h2 : PySem.W.kitOne K t v = some s) : PySem.W.kitAny K t [u, v] = some (r || s) := by
  refine kitAny_cons h1 (fun e => ?_) (fun e => by rw [e]; rfl)
  rw [e]
  exact kitAny_cons h2 (fun e => by rw [e]; exact kitAny_nil) (fun e => by rw [e]; rfl)
theorem tib2_mk {K : PySem.W.Frag} {mg : Glob} {n n2 : String} (h : ∀ a ∈ blts, kitB a n = some (tyIs a [n])) (h2 : ∀ a ∈ blts, kitB a n2 = some (tyIs a [n2])) (h3 : ∀ a ∈ blts, (tyIs a [n] || tyIs a [n2]) = tyIs a [n, n2]) : TIb2 K mg n n2 [] :=
  isiOk_mk (fun a ha => by rw [← h3 a ha]; exact kitAny2 (isi_b h a ha) (isi_b h2 a ha)) (fun _ h => by cases h) (fun _ h => by cases h)
/-! comparisons as tests -/
section
variable {X : Cx} {K : PySem.W.Frag} {mg : Glob} {Γ : Ent} {W : WX} {a b c : Expr} {m ma mb mc : EDen} {pos : Pos}
theorem tb_go {σ : St} {H : Hp} {Q : Bool → Hp → Prop} (h : ttG K mg Γ W (Gh.tB m) σ H Q) : teV K mg Γ W m σ H fun x H' => ∃ k, x = .bl k ∧ Q k H' := by
  obtain ⟨F, L, ρ, st, rl, q⟩ := h
  refine ⟨F, L, ρ, st, rl, q.bind.imp fun F1 L1 H1 st1 d s o q1 v kv => ?_⟩
  split at q1
  · exact ⟨_, kv.bl, q1.here o⟩
  · exact q1.elim
theorem g_tcmp {op : CmpOp} {r : R2} {g : Op2} (ho : OpR X (compareOp op) r) (hs : Sem2 kV K mg g r) (ha : PE X a (teR K mg Γ W ma)) (hb : PE X b (teR K mg Γ W mb)) (hm : behindInMarks op b = false) : PT X (.Compare a [op] [b] pos) (ttG K mg Γ W (Gh.tB (e2 g ma mb))) :=
  pt_imp (pt_cmpR ho ha hb hm) fun σ H Q h => t2_of (k := kV) kV_late hs σ H _ (tb_go h)
theorem pc_of {op : CmpOp} {r : R2} {ta tb : TE} (ho : OpR X (compareOp op) r) (ha : PE X a ta) (hb : PE X b tb) : PC X op a b (tOp r ta tb) := by
  refine ⟨fun pins s σ H Q I h => ?_⟩
  exact thn (ha.run pins s σ H _ I h) fun v s1 ⟨x, H1, I1, r1, q1⟩ => thn (hb.run pins s1 σ H1 _ I1 q1) fun u s2 ⟨y, H2, I2, r2, q2⟩ => ho pins s2 σ H2 x y v u Q I2 r1 r2 q2
theorem pc_or {op : CmpOp} {t t' : TE} (h : PC X op a b t) (h' : PC X op a b t') : PC X op a b (fun σ H Q => t σ H Q ∨ t' σ H Q) := ⟨fun pins s σ H Q I q => q.elim (h.run pins s σ H Q I) (h'.run pins s σ H Q I)⟩
theorem g_tin (hu : X.A.units + 64 < cLine) (ha : PE X a (teR X.K mg Γ W ma)) (hb : PE X b (teR X.K mg Γ W mb)) (hm : behindInMarks .In b = false := by rfl) : PT X (.Compare a [.In] [b] pos) (ttG X.K mg Γ W (Gh.tB (e2 gIn ma mb))) :=
  pt_imp (pt_cmp (pc_or (pc_of (op_inU hu) ha hb) (pc_din (by omega) ha hb)) hm) fun σ H Q h => in_go (tb_go h)
theorem g_tnotIn (hu : X.A.units + 64 < cLine) (ha : PE X a (teR X.K mg Γ W ma)) (hb : PE X b (teR X.K mg Γ W mb)) (hm : behindInMarks .NotIn b = false := by rfl) : PT X (.Compare a [.NotIn] [b] pos) (ttG X.K mg Γ W (Gh.tB (e2 gNotIn ma mb))) :=
  pt_imp (pt_cmp (pc_or (pc_of (op_notInU hu) ha hb) (pc_dnotin (by omega) ha hb)) hm) fun σ H Q h => notIn_go (tb_go h)
theorem chain_go {r r' : R2} {g g' : Op2} (hs : Sem2 kV K mg g r) (hs' : Sem2 kV K mg g' r') {σ : St} {H : Hp} {Q : VK} (h : teV K mg Γ W (eChain g g' ma mb mc) σ H Q) : tChain r r' (teR K mg Γ W ma) (teR K mg Γ W mb) (teR K mg Γ W mc) σ H Q := by
  obtain ⟨F, L, ρ, st, rl, p⟩ := h
  refine ⟨F, L, ρ, st, rl, p.bind.imp fun F1 L1 H1 st1 x s1 o1 p1 v kv => ?_⟩
  have rl1 := rl.step s1 o1
  refine ⟨F1, L1, ρ, st1, rl1, p1.bind.imp fun F2 L2 H2 st2 y s2 o2 p2 u ku => ?_⟩
  have rl2 := rl1.step s2 o2
  refine hs Γ W F2 L2 σ H2 ρ st2 x y v u _ rl2 (kR.step kv s2) ku (p2.bind.imp fun F3 L3 H3 st3 z s3 o3 p3 w kw => ?_)
  have rl3 := rl2.step s3 o3
  split at p3
  · obtain rfl := kw.bl
    refine ⟨true, rfl, ?_⟩
    rw [if_pos rfl]
    refine ⟨F3, L3, ρ, st3, rl3, p3.bind.imp fun F4 L4 H4 st4 u' s4 o4 p4 v' kv' => ?_⟩
    have rl4 := rl3.step s4 o4
    exact hs' Γ W F4 L4 σ H4 ρ st4 y u' u v' Q rl4 (kR.step (H0 := H2) (H := H3) (kR.step ku s3) s4) kv' p4
  · obtain rfl := kw.bl
    refine ⟨false, rfl, ?_⟩
    rw [if_neg (by decide)]
    exact p3.here o3 _ (.inr rfl)
  · exact p3.elim
theorem g_tchain {op op' : CmpOp} {r r' : R2} {g g' : Op2} (ho : OpR X (compareOp op) r) (ho' : OpR X (compareOp op') r') (hs : Sem2 kV K mg g r) (hs' : Sem2 kV K mg g' r') (ha : PE X a (teR K mg Γ W ma)) (hb : PE X b (teR K mg Γ W mb)) (hc : PE X c (teR K mg Γ W mc))
    (hm : lastMarks [op, op'] [b, c] = false := by with_unfolding_all rfl) : PT X (.Compare a [op, op'] [b, c] pos) (ttG K mg Γ W (Gh.tB (eChain g g' ma mb mc))) :=
  pt_imp (pt_chain ho ho' ha hb hc hm) fun σ H Q h => chain_go hs hs' (tb_go h)
end
end Gh
/-! Gh17: reckoning with denotations. -/
namespace Gh
open L2 PyProof.Rows PySem.Spec PySem
section
variable {ρ : REnv} {st : Store}
@[simp] theorem r_var (i : Nat) : eVar i ρ st = (match ρ[i]? with | some (Sl.val d) => .ok d st | _ => .bad) := rfl
@[simp] theorem r_peek (i : Nat) : ePeek i ρ st = (match ρ[i]? with | some (Sl.val d) => .ok d st | some (Sl.own d) => .ok d st | _ => .bad) := rfl
@[simp] theorem r_c (d : D) : eC d ρ st = .ok d st := rfl
@[simp] theorem r_e1 (g : Op1) (m : EDen) : e1 g m ρ st = (m ρ st).bind fun x st1 => g x st1 := rfl
@[simp] theorem r_e2 (g : Op2) (m n : EDen) : e2 g m n ρ st = (m ρ st).bind fun x st1 => (n ρ st1).bind fun y st2 => g x y st2 := rfl
@[simp] theorem r_eN (g : OpN) (m : ADen) : eN g m ρ st = (m ρ st).bind fun xs st1 => g xs st1 := rfl
@[simp] theorem r_aNil : aNil ρ st = .ok [] st := rfl
@[simp] theorem r_aCons (m : EDen) (r : ADen) : aCons m r ρ st = (m ρ st).bind fun d st1 => (r ρ st1).bind fun ds st2 => .ok (d :: ds) st2 := rfl
@[simp] theorem r_tup (m : ADen) : eTup m ρ st = (m ρ st).bind fun ds st1 => if flatL ds = true ∧ ds.length ≤ 1000 then .ok (.tup ds) st1 else .bad := rfl
@[simp] theorem r_lst (m : ADen) : eLst m ρ st = (m ρ st).bind fun ds st1 => if flatL ds = true ∧ ds.length ≤ 100000 then .ok (.lst ds) st1 else .bad := rfl
@[simp] theorem r_chain (g g' : Op2) (ma mb mc : EDen) : eChain g g' ma mb mc ρ st = (ma ρ st).bind fun x st1 => (mb ρ st1).bind fun y st2 => (g x y st2).bind fun z st3 => match z with
  | .bl true => (mc ρ st3).bind fun u st4 => g' y u st4
  | .bl false => .ok (.bl false) st3
  | _ => .bad := rfl
@[simp] theorem r_tB (m : EDen) : tB m ρ st = (m ρ st).bind fun d st1 => match d with
  | .bl b => .ok b st1
  | _ => .bad := rfl
@[simp] theorem r_tTr (m : EDen) : tTr m ρ st = (m ρ st).bind fun d st1 => match truth d with
  | some b => .ok b st1
  | none => .bad := rfl
@[simp] theorem r_tAnd (t u : TDen) : tAnd t u ρ st = (t ρ st).bind fun b st1 => if b then u ρ st1 else .ok false st1 := rfl
@[simp] theorem r_tOr (t u : TDen) : tOr t u ρ st = (t ρ st).bind fun b st1 => if b then .ok true st1 else u ρ st1 := rfl
@[simp] theorem r_tNot (t : TDen) : tNot t ρ st = (t ρ st).bind fun b st1 => .ok (!b) st1 := rfl
@[simp] theorem r_eOr (ma mb : EDen) : eOr ma mb ρ st = (ma ρ st).bind fun d st1 => match truth d with
  | some true => .ok d st1
  | some false => mb ρ st1
  | none => .bad := rfl
@[simp] theorem r_eAnd (ma mb : EDen) : eAnd ma mb ρ st = (ma ρ st).bind fun d st1 => match truth d with
  | some false => .ok d st1
  | some true => mb ρ st1
  | none => .bad := rfl
@[simp] theorem r_eNot (ma : EDen) : eNot ma ρ st = (ma ρ st).bind fun d st1 => match truth d with
  | some b => .ok (.bl (!b)) st1
  | none => .bad := rfl
@[simp] theorem r_eIf (t : TDen) (ma mb : EDen) : eIf t ma mb ρ st = (t ρ st).bind fun b st1 => if b then ma ρ st1 else mb ρ st1 := rfl
@[simp] theorem r_tYes : tYes ρ st = .ok true st := rfl
@[simp] theorem r_tOwn (cf : Str → Option CallF) (m : EDen) : tOwn cf m ρ st = (m ρ st).bind fun d st1 => askB cf [] d st1 := rfl
@[simp] theorem r_eOwn (cf : Str → Option CallF) (m : EDen) : eOwn cf m ρ st = (m ρ st).bind fun d st1 => (askB cf [] d st1).bind fun b st2 => .ok (.bl b) st2 := rfl
@[simp] theorem r_cutL (m : EDen) (lo hi : ODen) : eCutL m lo hi ρ st = (m ρ st).bind fun x st1 => (lo ρ st1).bind fun l st2 => (hi ρ st2).bind fun h st3 => gCutL x l h st3 := rfl
@[simp] theorem r_cut (m : EDen) (lo hi : ODen) : eCut m lo hi ρ st = (m ρ st).bind fun x st1 => (lo ρ st1).bind fun l st2 => (hi ρ st2).bind fun h st3 => gCut x l h st3 := rfl
@[simp] theorem r_oNone : oNone ρ st = .ok none st := rfl
@[simp] theorem r_oSome (m : EDen) : oSome m ρ st = (m ρ st).bind fun d st1 => match d with
  | .int i => .ok (some i) st1
  | _ => .bad := rfl
@[simp] theorem r_lSeq (m : EDen) : lSeq m ρ st = (m ρ st).bind fun d st1 => match seqOf d with
  | some ds => .ok ds st1
  | none => .bad := rfl
@[simp] theorem r_range1 (m : ADen) : lRange1 m ρ st = (m ρ st).bind fun ds st1 => match ds with
  | [.int n] => if -1000000000 ≤ n ∧ n ≤ 1000000000 then .ok (upto 0 n.toNat) st1 else .bad
  | _ => .bad := rfl
@[simp] theorem r_range2 (m : ADen) : lRange2 m ρ st = (m ρ st).bind fun ds st1 => match ds with
  | [.int i, .int j] => if -1000000000 ≤ i ∧ i ≤ 1000000000 ∧ -1000000000 ≤ j ∧ j ≤ 1000000000 then .ok (upto i (j - i).toNat) st1 else .bad
  | _ => .bad := rfl
theorem r_enum (m : ADen) : lEnumU m ρ st = (m ρ st).bind fun ds st1 => match ds with
  | [.lst xs] => .ok (numbered xs) st1
  | [.tup xs] => .ok (numbered xs) st1
  | _ => .bad := rfl
@[simp] theorem r_meth (l : List (Str × CallF)) (m : Str) (mo : EDen) (ms : ADen) : eMethU l m mo ms ρ st = (mo ρ st).bind fun d st1 => match instOf st1 d with
  | some (c, fs) => (match l.lookup c with
    | some f => if (fs.lookup m).isNone = true then (ms ρ st1).bind fun ds st2 => f (d :: ds) st2 else .bad
    | none => .bad)
  | none => .bad := rfl
@[simp] theorem r_mNil : mNil ρ st = .ok [] st := rfl
@[simp] theorem r_mVal (m : EDen) (ms : MDen) : mVal m ms ρ st = (m ρ st).bind fun d st1 => (ms ρ st1).bind fun ds st2 => .ok ((d, false) :: ds) st2 := rfl
@[simp] theorem r_mOwn (m : EDen) (ms : MDen) : mOwn m ms ρ st = (m ρ st).bind fun d st1 => (ms ρ st1).bind fun ds st2 => .ok ((d, true) :: ds) st2 := rfl
/-! statements -/
@[simp] theorem r_sNil : sNil ρ st = .nx ρ st := rfl
@[simp] theorem r_seq (a b : SDen) : sSeq a b ρ st = (match a ρ st with
  | .nx ρ' st' => b ρ' st'
  | r => r) := rfl
@[simp] theorem r_drop (m : EDen) : sDrop m ρ st = (m ρ st).s ρ fun _ st' => .nx ρ st' := rfl
@[simp] theorem r_ret (m : EDen) : sRet m ρ st = (m ρ st).s ρ fun d st' => .rt d st' := rfl
@[simp] theorem r_if (t : TDen) (a b : SDen) : sIf t a b ρ st = (t ρ st).s ρ fun c st' => if c then a ρ st' else b ρ st' := rfl
@[simp] theorem r_asg (i : Nat) (m : EDen) : sAsg i m ρ st = (m ρ st).s ρ fun d st' => .nx (ρ.set i (.val d)) st' := rfl
@[simp] theorem r_asgO (i : Nat) (m : EDen) : sAsgO i m ρ st = (m ρ st).s ρ fun d st' => .nx (ρ.set i (.own d)) st' := rfl
@[simp] theorem r_val (i : Nat) (s : SDen) : sVal i s ρ st = (match s ρ st with
  | .nx ρ' st' => .nx (frzE ρ' i) st'
  | r => r) := rfl
@[simp] theorem r_frz (is : List Nat) (s : SDen) : sFrz is s ρ st = s (is.foldl frzE ρ) st := rfl
@[simp] theorem r_par (is : List Nat) (m : MDen) : sPar is m ρ st = (m ρ st).s ρ fun ds st' => if ds.length = is.length then .nx (setR ρ is ds) st' else .bad := rfl
@[simp] theorem r_app (i : Nat) (m : EDen) : sApp i m ρ st = (match ρ[i]? with
  | some (.own (.lst ds)) => (m ρ st).s ρ fun d st1 => if ds.length < 100000 ∧ isLoc d = false then .nx (ρ.set i (.own (.lst (ds ++ [d])))) st1 else .bad
  | _ => .bad) := rfl
@[simp] theorem r_asgT (bd : BDen) (m : EDen) : sAsgT bd m ρ st = (m ρ st).s ρ fun d st' => if isLoc d = true then .bad else match bd d ρ with
  | some ρ' => .nx ρ' st'
  | none => .bad := rfl
@[simp] theorem r_for (mi : LDen) (bd : BDen) (b : SDen) : sFor mi bd b ρ st = (mi ρ st).s ρ fun ds st1 => forGo bd b ds ρ st1 := rfl
@[simp] theorem r_setR0 (is : List Nat) : setR ρ is [] = ρ := by cases is <;> rfl
@[simp] theorem r_setRv (i : Nat) (is : List Nat) (d : D) (ds : List (D × Bool)) : setR ρ (i :: is) ((d, false) :: ds) = setR (ρ.set i (.val d)) is ds := rfl
@[simp] theorem r_setRo (i : Nat) (is : List Nat) (d : D) (ds : List (D × Bool)) : setR ρ (i :: is) ((d, true) :: ds) = setR (ρ.set i (.own d)) is ds := rfl
@[simp] theorem r_bName (i : Nat) (d : D) : bName i d ρ = some (ρ.set i (.val d)) := rfl
@[simp] theorem r_bTup (n : Nat) (b : List D → REnv → Option REnv) (ds : List D) : bTup n b (.tup ds) ρ = if ds.length = n then b ds ρ else none := rfl
@[simp] theorem r_bNil : bNil [] ρ = some ρ := rfl
@[simp] theorem r_bCons (bd : BDen) (bds : List D → REnv → Option REnv) (d : D) (r : List D) : bCons bd bds (d :: r) ρ = (bd d ρ).bind (bds r) := rfl
@[simp] theorem r_frzE (i : Nat) : frzE ρ i = (match ρ[i]? with | some (.own d) => ρ.set i (.val d) | _ => ρ) := rfl
/-! operations -/
@[simp] theorem r_gAddI (i j : Int) : gAddI (.int i) (.int j) st = .ok (.int (i + j)) st := rfl
@[simp] theorem r_gSub (i j : Int) : gSub (.int i) (.int j) st = .ok (.int (i - j)) st := rfl
@[simp] theorem r_gMul (i j : Int) : gMul (.int i) (.int j) st = if (small64 i || small64 j) = true then .ok (.int (i * j)) st else .bad := rfl
@[simp] theorem r_gFdiv (i j : Int) : gFdiv (.int i) (.int j) st = if decide (0 < j ∧ j < 1073741824) = true then .ok (.int (i / j)) st else .bad := rfl
@[simp] theorem r_gMod (i j : Int) : gMod (.int i) (.int j) st = if decide (0 < j) = true then .ok (.int (i % j)) st else .bad := rfl
@[simp] theorem r_gLt (i j : Int) : gLt (.int i) (.int j) st = .ok (.bl (decide (i < j))) st := rfl
@[simp] theorem r_gLe (i j : Int) : gLe (.int i) (.int j) st = .ok (.bl (decide (i ≤ j))) st := rfl
@[simp] theorem r_gGt (i j : Int) : gGt (.int i) (.int j) st = .ok (.bl (decide (j < i))) st := rfl
@[simp] theorem r_gGe (i j : Int) : gGe (.int i) (.int j) st = .ok (.bl (decide (j ≤ i))) st := rfl
@[simp] theorem r_gNeg (i : Int) : gNeg (.int i) st = .ok (.int (-i)) st := rfl
@[simp] theorem r_gIs (d : D) : gIs d .non st = .ok (.bl (isNon d)) st := rfl
@[simp] theorem r_gIsNot (d : D) : gIsNot d .non st = .ok (.bl (!isNon d)) st := rfl
@[simp] theorem r_truthB (b : Bool) : truth (.bl b) = some b := rfl
@[simp] theorem r_truthI (i : Int) : truth (.int i) = some (i != 0) := rfl
@[simp] theorem r_truthN : truth .non = some false := rfl
@[simp] theorem r_truthL (ds : List D) : truth (.lst ds) = some (!ds.isEmpty) := rfl
@[simp] theorem r_truthT (ds : List D) : truth (.tup ds) = some (!ds.isEmpty) := rfl
@[simp] theorem r_seqL (ds : List D) : seqOf (.lst ds) = some ds := rfl
@[simp] theorem r_seqT (ds : List D) : seqOf (.tup ds) = some ds := rfl
end
/-! calls -/
theorem seq_nx {a b : SDen} {ρ ρ' : REnv} {st st' : Store} (h : a ρ st = .nx ρ' st') : sSeq a b ρ st = b ρ' st' := by
  unfold sSeq
  rw [h]
theorem seq_P {a b : SDen} {ρ ρ' : REnv} {st st' : Store} (P : SR → Prop) (h : a ρ st = .nx ρ' st') (k : P (b ρ' st')) : P (sSeq a b ρ st) := by
  rw [seq_nx h]
  exact k
theorem seq_rt {a b : SDen} {ρ : REnv} {st st' : Store} {d : D} (h : a ρ st = .rt d st') : sSeq a b ρ st = .rt d st' := by
  unfold sSeq
  rw [h]
theorem finD_flat {n : Nat} {d : D} {st : Store} (h : isLoc d = false) : finD n d st = .ok d (st.take n) := by
  cases d with
  | loc k => cases h
  | _ => rfl
theorem callD_rt {np nl : Nat} {body : SDen} {ds : List D} {st st' : Store} {d : D} (hl : ds.length = np) (h : body (ds.map Sl.val ++ List.replicate (nl - np) Sl.un) st = .rt d st') (hd : isLoc d = false) : callD np nl body ds st = .ok d (st'.take st.length) := by
  unfold callD
  rw [if_pos hl, h]
  exact finD_flat hd
theorem callD_nx {np nl : Nat} {body : SDen} {ds : List D} {st st' : Store} {ρ' : REnv} (hl : ds.length = np) (h : body (ds.map Sl.val ++ List.replicate (nl - np) Sl.un) st = .nx ρ' st') : callD np nl body ds st = .ok .non (st'.take st.length) := by
  unfold callD
  rw [if_pos hl, h]
  rfl
theorem callD_rt0 {np nl : Nat} {body : SDen} {ds : List D} {st : Store} {d : D} (hl : ds.length = np) (h : body (ds.map Sl.val ++ List.replicate (nl - np) Sl.un) st = .rt d st) (hd : isLoc d = false) : callD np nl body ds st = .ok d st := by
  rw [callD_rt hl h hd, List.take_length]
theorem callD_nx0 {np nl : Nat} {body : SDen} {ds : List D} {st : Store} {ρ' : REnv} (hl : ds.length = np) (h : body (ds.map Sl.val ++ List.replicate (nl - np) Sl.un) st = .nx ρ' st) : callD np nl body ds st = .ok .non st := by
  rw [callD_nx hl h, List.take_length]
/-! loops, comprehensions -/
theorem compGo_map {α : Type} {bd : BDen} {t : TDen} {me : EDen} {ρ : REnv} {st : Store} (emb f : α → D) (q : α → Bool) : ∀ ds : List α, (∀ a ∈ ds, ∃ ρ1, bd (emb a) ρ = some ρ1 ∧ t ρ1 st = .ok (q a) st ∧ (q a = true → me ρ1 st = .ok (f a) st ∧ isLoc (f a) = false)) →
    compGo bd t me ρ (ds.map emb) st = .ok ((ds.filter q).map f) st
  | [], _ => rfl
  | a :: ds, h => by
    obtain ⟨ρ1, h1, h2, h3⟩ := h a List.mem_cons_self
    have ih := compGo_map emb f q ds fun b hb => h b (List.mem_cons_of_mem _ hb)
    rw [List.map_cons]
    unfold compGo
    rw [h1]
    dsimp only
    rw [h2, RC.bind_ok]
    cases hq : q a with
    | true =>
      obtain ⟨h4, h5⟩ := h3 hq
      rw [if_pos rfl, h4, RC.bind_ok, h5, if_neg (by decide), ih, List.filter_cons, hq]
      rfl
    | false =>
      rw [if_neg (by decide), ih, List.filter_cons, hq]
      rfl
theorem eComp_map {α : Type} {mi : LDen} {bd : BDen} {t : TDen} {me : EDen} {vs : List Nat} {ρ : REnv} {st : Store} (emb f : α → D) (q : α → Bool) (ds : List α) (hi : mi ρ st = .ok (ds.map emb) st) (hl : ds.length < 100000)
    (h : ∀ a ∈ ds, ∃ ρ1, bd (emb a) (wipeR ρ vs) = some ρ1 ∧ t ρ1 st = .ok (q a) st ∧ (q a = true → me ρ1 st = .ok (f a) st ∧ isLoc (f a) = false)) : eComp mi bd t me vs ρ st = .ok (.lst ((ds.filter q).map f)) st := by
  unfold eComp
  rw [hi, RC.bind_ok, List.length_map, if_pos hl, compGo_map emb f q ds h]
  rfl
theorem forGo_inv {α : Type} {bd : BDen} {b : SDen} (emb : α → D) (I : REnv → Store → Prop) : ∀ (ds : List α), (∀ a ∈ ds, ∀ ρ st, I ρ st → ∃ ρ1, bd (emb a) ρ = some ρ1 ∧ ∃ ρ2 st2, b ρ1 st = .nx ρ2 st2 ∧ I ρ2 st2) → ∀ ρ st, I ρ st → ∃ ρ2 st2, forGo bd b (ds.map emb) ρ st = .nx ρ2 st2 ∧ I ρ2 st2
  | [], _, ρ, st, i => ⟨ρ, st, rfl, i⟩
  | a :: ds, h, ρ, st, i => by
    obtain ⟨ρ1, h1, ρ2, st2, h2, i2⟩ := h a List.mem_cons_self ρ st i
    obtain ⟨ρ3, st3, h3, i3⟩ := forGo_inv emb I ds (fun x hx => h x (List.mem_cons_of_mem _ hx)) ρ2 st2 i2
    refine ⟨ρ3, st3, ?_, i3⟩
    rw [List.map_cons]
    unfold forGo
    rw [h1]
    dsimp only
    rw [h2]
    exact h3
theorem forGo_find {α : Type} {bd : BDen} {b : SDen} {st : Store} (emb ret : α → D) (p : α → Bool) (Iv : REnv → Prop) : ∀ (ds : List α), (∀ a ∈ ds, ∀ ρ, Iv ρ → ∃ ρ1, bd (emb a) ρ = some ρ1 ∧ (p a = true → b ρ1 st = .rt (ret a) st) ∧ (p a = false → ∃ ρ2, b ρ1 st = .nx ρ2 st ∧ Iv ρ2)) →
    ∀ ρ, Iv ρ → (∃ a, ds.find? p = some a ∧ forGo bd b (ds.map emb) ρ st = .rt (ret a) st) ∨ (ds.find? p = none ∧ ∃ ρ2, forGo bd b (ds.map emb) ρ st = .nx ρ2 st ∧ Iv ρ2)
  | [], _, ρ, i => .inr ⟨rfl, ρ, rfl, i⟩
  | a :: ds, h, ρ, i => by
    obtain ⟨ρ1, h1, h2, h3⟩ := h a List.mem_cons_self ρ i
    rw [List.map_cons]
    unfold forGo
    rw [h1]
    dsimp only
    cases hp : p a with
    | true =>
      refine .inl ⟨a, by rw [List.find?_cons, hp], ?_⟩
      rw [h2 hp]
    | false =>
      obtain ⟨ρ2, h4, i2⟩ := h3 hp
      rw [h4, List.find?_cons, hp]
      exact forGo_find emb ret p Iv ds (fun x hx => h x (List.mem_cons_of_mem _ hx)) ρ2 i2
/-- a list's items with their places, from k on -/
def numF (k : Nat) : List D → List D
  | [] => []
  | d :: r => .tup [.int k, d] :: numF (k + 1) r
theorem numF_get : ∀ (ds : List D) (k i : Nat), (numF k ds)[i]? = (ds[i]?).map fun d => D.tup [.int ((k + i : Nat) : Int), d]
  | [], k, i => by simp [numF]
  | d :: r, k, 0 => by simp [numF]
  | d :: r, k, i + 1 => by
    have := numF_get r (k + 1) i
    simp only [numF, List.getElem?_cons_succ, this]
    rw [show k + 1 + i = k + (i + 1) by omega]
theorem numbered_F (ds : List D) : numbered ds = numF 0 ds := by
  apply List.ext_getElem?
  intro i
  rw [numF_get]
  unfold numbered
  rw [List.getElem?_map]
  by_cases h : i < ds.length
  · simp [h, List.getElem?_eq_getElem h, List.getD]
  · have h' : ds.length ≤ i := by omega
    simp [List.getElem?_eq_none h', h]
end Gh
/-! Gh18: != by an own __eq__; own == and != as tests. -/
namespace Gh
open L2 PyProof.Rows PySem.Spec PySem
theorem ne_bind (self : Value) : bindSpecial (.builtin "object.__ne__") self = pure (.builtin "object.__ne__", [self]) :=
  (Slot.of (T := "object") (name := "__ne__") (owner := "object") (n := "__ne__") (by rw [typeLookup_type, builtinLookup_eq_fast]; kernel_rfl) (by decide +kernel) (by decide +kernel) (by decide +kernel)
    (.inl (by decide +kernel)) (by rw [isSubtype_type]; kernel_rfl)).bind self
section
variable {prog : Program} {w : World} {A : Around} {E : Value → Shared → Prop} {s : Shared} {K : PySem.W.Frag} {x C L f : Addr} {h₀ : Heap} {m : Str → Option Value} {ox : Obj} {od : Option Obj} {b tb : Value}
theorem ne_K {Q : Value → Shared → Prop} (hu : A.units + 1 < cLine) (F : Fr h₀ L s.heap m) (X₀ : K.In h₀) (I : PySem.W.InstAt s.heap x ox C od) (hb : PySem.W.Looks (model prog w) s.heap (typeOf b) tb) (hn : PySem.W.notFirst K C tb = true)
    (hne : PySem.W.findIn K (.ref C) "__ne__" = some (some (.builtin "object.__ne__"))) (ho : PySem.W.mroIn K C (.type "object") = some true) (hs : PySem.W.findIn K (.ref C) "__eq__" = some (some (.ref f))) (hf : PySem.W.isFn K (.ref f) = true)
    (h : wpAny (model prog w) A.in1 (call (.ref f) [.ref x, b]) (fun r s' => ∃ c, r = .bool c ∧ Q (.bool (!c)) s') E s) : wpAny (model prog w) A (richCompare .NotEq (.ref x) b) Q E s := by
  have X := X₀.keeps F.keep
  have body : wpAny (model prog w) A.in1 (Builtin.«object.__ne__» ⟨[.ref x, b], []⟩) (fun fin s' => ∃ v, fin = .done (.ret v) ∧ (∃ c, v = .bool c ∧ Q v s')) E s := by
    unfold Builtin.«object.__ne__»
    refine wpAny_bind (m := slotArgs "__ne__" 1 _) (wpAny_of_eq (a := (Value.ref x, [b])) (by first | rfl | kernel_rfl) ?_)
    dsimp only
    refine wpAny_bind (wpAny_cRoomFor hu ?_)
    refine wpAny_bind (PySem.W.ifBound_K X I hs hf (wpAny_mono h (fun r s' hr => ?_) fun _ _ e => e))
    obtain ⟨c, rfl, hq⟩ := hr
    refine wpAny_bind (wpAny_truthy_bool ?_)
    exact wpAny_pure ⟨_, rfl, _, rfl, hq⟩
  have run : wpAny (model prog w) A (call (.builtin "object.__ne__") [.ref x, b]) (fun v s' => ∃ c, v = .bool c ∧ Q v s') E s := by
    refine wpAny_call (codeAny_call_builtin (by decide +kernel) PySem.F.cmpEntry_ne (PySem.W.check_slot PySem.F.cmpKind_ne PySem.F.cmpSplit_ne ?_ (PySem.F.cmpArgs_ne _ _) ?_))
    · exact I.type.andThen (PySem.W.looks_subIn X (show PySem.W.subIn K (.ref C) (.type "object") = some true from ho))
    · refine wpAny_mono body (fun fin s' z => ?_) fun _ _ e => e
      obtain ⟨v, rfl, c, rfl, q⟩ := z
      exact ⟨c, rfl, q⟩
  have one : wpAny (model prog w) A (tryCompare (.ref x) "__ne__" b) (fun r s' => ∃ v, r = some v ∧ Q v s') E s := by
    unfold tryCompare
    refine wpAny_bind ?_
    simp only [callSpecialIfBound?, bindSpecialIfBound?]
    refine wpAny_holding (wpAny_bind (wpAny_bind (wpAny_bind (I.type.here ((PySem.W.looks_findIn X hne).here ?_)))))
    refine wpAny_bind (wpAny_askSetting (wpAny_ite ?_))
    have fin : wpAny (model prog w) A (call (.builtin "object.__ne__") ([.ref x] ++ [b]) >>= fun v => pure (some v)) (fun r s' => ∃ c, r = some (.bool c) ∧ Q (.bool c) s') E s := by
      refine wpAny_bind (wpAny_mono run (fun v s' z => ?_) fun _ _ e => e)
      obtain ⟨c, rfl, q⟩ := z
      exact wpAny_pure ⟨c, rfl, q⟩
    have fin2 : wpAny (model prog w) A (call (.builtin "object.__ne__") ([.ref x] ++ [b]) >>= fun v => pure (some v)) (fun r s' => wpAny (model prog w) A (match r with | some .notImplemented | none => pure none | some v => pure (some v)) (fun r s' => ∃ v, r = some v ∧ Q v s') E s') E s := by
      refine wpAny_mono fin (fun r s' z => ?_) fun _ _ e => e
      obtain ⟨c, rfl, q⟩ := z
      exact wpAny_pure ⟨_, rfl, q⟩
    split
    · exact wpAny_bind (wpAny_of_eq (ne_bind _) (wpAny_pure (by exact fin2)))
    · exact wpAny_tryCatch (wpAny_bind (wpAny_of_eq (ne_bind _) (wpAny_pure (by exact fin2))))
  unfold richCompare
  simp only [oneThing_ref]
  refine wpAny_holding (wpAny_bind (wpAny_cRoomFor (by omega) ?_))
  refine wpAny_bind (I.type.here (wpAny_bind (hb.here ?_)))
  split
  · rename_i q
    have e : PySem.W.subIn K tb (.ref C) = some false := by
      rcases Bool.or_eq_true_iff.mp hn with e | e
      · rw [beq_iff_eq.mp e] at q; simp at q
      · exact beq_iff_eq.mp e
    refine wpAny_bind ((PySem.W.looks_subIn X e).here ?_)
    simp only [Bool.false_eq_true, if_false]
    refine wpAny_bind (wpAny_mono one (fun r s' z => ?_) fun _ _ e => e)
    obtain ⟨v, rfl, hq⟩ := z
    exact wpAny_pure hq
  · refine wpAny_bind (wpAny_pure ?_)
    simp only [Bool.false_eq_true, if_false]
    refine wpAny_bind (wpAny_mono one (fun r s' z => ?_) fun _ _ e => e)
    obtain ⟨v, rfl, hq⟩ := z
    exact wpAny_pure hq
end
/-- the class takes its != from object -/
def TNe (K : PySem.W.Frag) (mg : Glob) (c : Str) : Prop := ∃ C, mg c = some (.ref C) ∧ PySem.W.findIn K (.ref C) "__ne__" = some (some (.builtin "object.__ne__")) ∧ PySem.W.mroIn K C (.type "object") = some true
theorem tne_mk {K : PySem.W.Frag} {mg : Glob} {h : Heap} {c : Str} {C : Addr} (X : K.In h) (G : h.Ns mainGlobals mg) (a : PySem.W.nsIn K mainGlobals c = some (some (.ref C))) (n : PySem.W.findIn K (.ref C) "__ne__" = some (some (.builtin "object.__ne__"))) (o : PySem.W.mroIn K C (.type "object") = some true) : TNe K mg c :=
  ⟨C, PySem.W.mg_of X G a, n, o⟩
section
variable {X : Cx} {K : PySem.W.Frag} {mg : Glob} {Γ : Ent} {W : WX} {a b : Expr} {ma mb : EDen} {pos p : Pos} {kk : Nat} {cf : Str → Option CallF} {cs : List Str} {l : List (Str × CallF)}
def gNeI (cf : Str → Option CallF) (cs : List Str) : Op2 := fun x y st => if insIn cs st y = true then (askB cf [y] x st).bind fun b st2 => .ok (.bl (!b)) st2 else .bad
def rNeI (X : Cx) (kk : Nat) : R2 := fun x y H Q => rAsk X kk "__eq__" [y] x H (fun b H' => Q (.bl (!b)) H') ∧ ∃ a b C dx fs C' dx' fs', x = .ref a ∧ y = .ref b ∧ H a = some (.ins C dx fs) ∧ H b = some (.ins C' dx' fs') ∧ PySem.W.notFirst X.K C (.ref C') = true ∧
  PySem.W.findIn X.K (.ref C) "__ne__" = some (some (.builtin "object.__ne__")) ∧ PySem.W.mroIn X.K C (.type "object") = some true
theorem op_neI (hr : Room (kk + 1) X.A) (tk : Takes X W0) : OpR X (compareOp .NotEq) (rNeI X kk) := by
  rintro pins s σ H x y v u Q I rx ry ⟨⟨a, C, dx, fs, f, fd, ps, sp, rfl, ha, hf, hi, F, hb, q⟩, a', b', C2, dx2, fs2, C3, dx3, fs3, e1, rfl, hA, hB, nf, hne, ho⟩
  cases e1
  rw [ha] at hA; cases hA
  cases rx
  cases ry
  obtain ⟨mA, J, _⟩ := ins_get I.hok ha
  obtain ⟨mB, J', _⟩ := ins_get I.hok hB
  obtain ⟨od, J, _⟩ := J.look
  obtain ⟨od', J', _⟩ := J'.look
  obtain ⟨m, hF⟩ := I.fr
  refine ne_K (tb := .ref C3) (hu_of hr) hF I.ok.mod.kin J J'.type nf hne ho hf hi (wpAny_mono (run_at (us := [.ref a, .ref b']) (vs := [.ref a, .ref b']) F hr.in1 hb (no_pass (σ := σ) tk) I.env0.in1 I (.cons rfl (.cons rfl .nil)) q) (fun r s' z => ?_) fun _ _ y => y)
  obtain ⟨v, H', I', rz, c, rfl, q'⟩ := z
  cases rz
  exact ⟨c, rfl, .bl (!c), H', I', rfl, q'⟩
/-- what gEqI, gNeI have of the classes -/
theorem two_go {F H : Hp} {L : List Addr} {σ : St} {st : Store} {x y : D} {v u : V} {Q : Bool → Hp → Prop} (hK : X.K = K) (A : OwnM X mg kk "__eq__" cf) (o : Sto K mg F L H st) (kx : VRep K mg L F x v) (ky : VRep K mg L F y u) (hin : insIn cs st y = true)
    (h : Post K mg W σ F L H (askB cf [y] x st) fun F' L' H' _ b => Q b H') : rAsk X kk "__eq__" [u] v H Q ∧ ∃ a b C dx fs C' dx' fs' c c', v = .ref a ∧ u = .ref b ∧ H a = some (.ins C dx fs) ∧ H b = some (.ins C' dx' fs') ∧ mg c = some (.ref C) ∧ mg c' = some (.ref C') ∧ (cf c).isSome = true ∧ c' ∈ cs := by
  refine ⟨ask_go (ds := [y]) (vs := [u]) hK A o kx ⟨u, [], rfl, ky, rfl⟩ h, ?_⟩
  unfold insIn at hin
  split at hin
  · rename_i c' fs' ey
    obtain ⟨b, C', dx', fv', rfl, g1, g2, g3⟩ := inst_at o ky (instOf_at ey)
    unfold askB at h
    split at h
    · rename_i c1 fs1 e1
      split at h
      · rename_i g hg
        obtain ⟨a, C, dx, fv, rfl, h1, h2, h3⟩ := inst_at o kx (instOf_at e1)
        exact ⟨a, b, C, dx, fv, C', dx', fv', c1, c', rfl, rfl, h2, g2, h1, g1, by rw [hg]; rfl, by simpa using hin⟩
      · exact h.elim
    · exact h.elim
  · cases hin
theorem neI_go (hK : X.K = K) (A : OwnM X mg kk "__eq__" cf) (N : ∀ c, (cf c).isSome = true → ∀ C, mg c = some (.ref C) → (∀ c' ∈ cs, ∀ C', mg c' = some (.ref C') → PySem.W.notFirst X.K C (.ref C') = true) ∧ PySem.W.findIn X.K (.ref C) "__ne__" = some (some (.builtin "object.__ne__")) ∧ PySem.W.mroIn X.K C (.type "object") = some true)
    {σ : St} {H : Hp} {Q : VK} (h : teV K mg Γ W (e2 (gNeI cf cs) ma mb) σ H Q) : tOp (rNeI X kk) (teV K mg Γ W ma) (teV K mg Γ W mb) σ H Q := by
  obtain ⟨F, L, ρ, st, rl, q⟩ := h
  refine ⟨F, L, ρ, st, rl, q.bind.imp fun F1 L1 H1 st1 d s o q1 v kv => ⟨F1, L1, ρ, st1, rl.step s o, q1.bind.imp fun F2 L2 H2 st2 y s2 o2 q2 u ku => ?_⟩⟩
  unfold gNeI at q2
  split at q2
  · rename_i hin
    have q3 : Post K mg W σ F2 L2 H2 (askB cf [y] d st2) (fun F' L' H' _ b => Q (.bl (!b)) H') := Post.imp (Post.bind (f := fun b st2 => RC.ok (D.bl (!b)) st2) q2) fun F' L' H' st' r s3 o3 z => z.here o3 _ (.inr rfl)
    obtain ⟨z1, a, b, C, dx, fs, C', dx', fs', c, c', e1, e2, h1, h2, h3, h4, h5, h6⟩ := two_go (cs := cs) hK A o2 (s2.vrep kv) ku hin q3
    obtain ⟨n1, n2, n3⟩ := N c h5 C h3
    exact ⟨z1, a, b, C, dx, fs, C', dx', fs', e1, e2, h1, h2, n1 c' h6 C' h4, n2, n3⟩
  · exact q2.elim
theorem eqI_go (hK : X.K = K) (A : OwnM X mg kk "__eq__" cf) (N : ∀ c, (cf c).isSome = true → ∀ C, mg c = some (.ref C) → ∀ c' ∈ cs, ∀ C', mg c' = some (.ref C') → PySem.W.notFirst X.K C (.ref C') = true)
    {σ : St} {H : Hp} {Q : VK} (h : teV K mg Γ W (e2 (gEqI cf cs) ma mb) σ H Q) : tOp (rEqI X kk) (teV K mg Γ W ma) (teV K mg Γ W mb) σ H Q := by
  obtain ⟨F, L, ρ, st, rl, q⟩ := h
  refine ⟨F, L, ρ, st, rl, q.bind.imp fun F1 L1 H1 st1 d s o q1 v kv => ⟨F1, L1, ρ, st1, rl.step s o, q1.bind.imp fun F2 L2 H2 st2 y s2 o2 q2 u ku => ?_⟩⟩
  unfold gEqI at q2
  split at q2
  · rename_i hin
    have q3 : Post K mg W σ F2 L2 H2 (askB cf [y] d st2) (fun F' L' H' _ b => Q (.bl b) H') := Post.imp (Post.bind (f := fun b st2 => RC.ok (D.bl b) st2) q2) fun F' L' H' st' r s3 o3 z => z.here o3 _ (.inr rfl)
    obtain ⟨z1, a, b, C, dx, fs, C', dx', fs', c, c', e1, e2, h1, h2, h3, h4, h5, h6⟩ := two_go (cs := cs) hK A o2 (s2.vrep kv) ku hin q3
    exact ⟨z1, a, b, C, dx, fs, C', dx', fs', e1, e2, h1, h2, N c h5 C h3 c' h6 C' h4⟩
  · exact q2.elim
theorem look_mem : ∀ (l : List (Str × CallF)) (c : Str), (l.lookup c).isSome = true → c ∈ l.map (·.1)
  | [], c, h => by cases h
  | p :: t, c, h => by
    rw [List.lookup_cons] at h
    cases q : c == p.1 with
    | true => rw [beq_iff_eq] at q; simp [q]
    | false =>
      rw [q] at h
      exact List.mem_cons_of_mem _ (look_mem t c h)
theorem f_teqI (A : OkMs X.prog X.w X.K X.mg X.base kk "__eq__" l) (N : TNf X.K X.mg (l.map (·.1)) cs) (hr : Room kk X.A) (ha : PE X a (teV X.K X.mg Γ W ma)) (hb : PE X b (teV X.K X.mg Γ W mb)) (hm : behindInMarks .Eq b = false := by rfl) :
    PT X (.Compare a [.Eq] [b] pos) (ttG X.K X.mg Γ W (Gh.tB (e2 (gEqI (fun c => l.lookup c) cs) ma mb))) :=
  pt_imp (pt_cmpR (op_eqI hr takesW) ha hb hm) fun σ H Q h => eqI_go rfl A.own (fun c hc C hC c' hc' C' hC' => N c (look_mem l c hc) C hC c' hc' C' hC') (tb_go h)
theorem ne_facts (N : TNf X.K X.mg (l.map (·.1)) cs) (M : ∀ c ∈ l.map (·.1), TNe X.K X.mg c) : ∀ c, (l.lookup c).isSome = true → ∀ C, X.mg c = some (.ref C) → (∀ c' ∈ cs, ∀ C', X.mg c' = some (.ref C') → PySem.W.notFirst X.K C (.ref C') = true) ∧ PySem.W.findIn X.K (.ref C) "__ne__" = some (some (.builtin "object.__ne__")) ∧ PySem.W.mroIn X.K C (.type "object") = some true := fun c hc C hC => by
  obtain ⟨C', h1, h2, h3⟩ := M c (look_mem l c hc)
  rw [h1] at hC; cases hC
  exact ⟨fun c' hc' C'' hC'' => N c (look_mem l c hc) _ h1 c' hc' C'' hC'', h2, h3⟩
theorem f_neI (A : OkMs X.prog X.w X.K X.mg X.base kk "__eq__" l) (N : TNf X.K X.mg (l.map (·.1)) cs) (M : ∀ c ∈ l.map (·.1), TNe X.K X.mg c) (hr : Room (kk + 1) X.A) (ha : PE X a (teV X.K X.mg Γ W ma)) (hb : PE X b (teV X.K X.mg Γ W mb)) (hm : behindInMarks .NotEq b = false := by rfl) :
    PE X (.Compare a [.NotEq] [b] pos) (teV X.K X.mg Γ W (e2 (gNeI (fun c => l.lookup c) cs) ma mb)) :=
  pe_imp (pe_cmpR (op_neI hr takesW) ha hb hm) fun σ H Q h => neI_go rfl A.own (ne_facts N M) h
theorem f_tneI (A : OkMs X.prog X.w X.K X.mg X.base kk "__eq__" l) (N : TNf X.K X.mg (l.map (·.1)) cs) (M : ∀ c ∈ l.map (·.1), TNe X.K X.mg c) (hr : Room (kk + 1) X.A) (ha : PE X a (teV X.K X.mg Γ W ma)) (hb : PE X b (teV X.K X.mg Γ W mb)) (hm : behindInMarks .NotEq b = false := by rfl) :
    PT X (.Compare a [.NotEq] [b] pos) (ttG X.K X.mg Γ W (Gh.tB (e2 (gNeI (fun c => l.lookup c) cs) ma mb))) :=
  pt_imp (pt_cmpR (op_neI hr takesW) ha hb hm) fun σ H Q h => neI_go rfl A.own (ne_facts N M) (tb_go h)
end
end Gh
/-! Gh19: dicts: displays, get. -/
namespace Gh
open L2 PyProof.Rows PySem.Spec PySem
section
variable {X : Cx} {K : PySem.W.Frag} {mg : Glob} {Γ : Ent} {W : WX} {o e f : Expr} {mo me mf : EDen} {pos apos cpos : Pos}
/-- d.get(k, x) -/
def eGet2 (mo me mf : EDen) : EDen := fun ρ st => (mo ρ st).bind fun x st1 => match x with
  | .dct kvs => (me ρ st1).bind fun y st2 => (mf ρ st2).bind fun z st3 => match keyOf y with
    | some k => .ok ((valD kvs k).getD z) st3
    | none => .bad
  | _ => .bad
/-- a dict that is read -/
theorem kR.isD {F H H0 : Hp} {L : List Addr} {σ : St} {ρ : REnv} {st : Store} {kvs : List (Key × D)} {v : V} (rl : Rl K mg Γ F L σ H ρ st) (kv : kR K mg σ H0 ρ F L H (.dct kvs) v) : ∃ a, v = .ref a ∧ IsD H a := by
  obtain ⟨a, vs, rfl, h1, _⟩ := kv.dct rl
  exact ⟨a, rfl, .inl ⟨vs, h1⟩⟩
theorem g_get2 (hK : X.K = K) (hu : X.A.units + 1 < cLine) (ho : PE X o (teR K mg Γ W mo)) (he : PE X e (teR K mg Γ W me)) (hf : PE X f (teV K mg Γ W mf)) (m : M2 X o "get" apos e f cpos) : PE X (.Call (.Attribute o "get" apos) [e, f] [] cpos) (teV K mg Γ W (eGet2 mo me mf)) := by
  refine pe_imp (pe_dget2 hu ho he hf m) fun σ H Q ⟨F, L, ρ, st, rl, q⟩ => ⟨F, L, ρ, st, rl, q.bind.imp fun F1 L1 H1 st1 x s1 o1 q1 v kv => ?_⟩
  have rl1 := rl.step s1 o1
  cases x with
  | dct kvs =>
    obtain ⟨a, rfl, hd⟩ := kR.isD rl1 kv
    refine ⟨a, rfl, hd, F1, L1, ρ, st1, rl1, q1.bind.imp fun F2 L2 H2 st2 y s2 o2 q2 u ku => ?_⟩
    have rl2 := rl1.step s2 o2
    refine ⟨F2, L2, ρ, st2, rl2, q2.bind.imp fun F3 L3 H3 st3 z s3 o3 q3 w kw => ?_⟩
    have rl3 := rl2.step s3 o3
    split at q3
    · rename_i k hk
      have kv3 : kR K mg σ H3 ρ F3 L3 H3 (.dct kvs) (.ref a) := kR.step (H0 := H3) (kR.step (H0 := H) (H0' := H3) (H3 := H3) kv s2) s3
      obtain ⟨a', vs, e1, h1, h2⟩ := kv3.dct rl3
      cases e1
      have ku3 : kR K mg σ H3 ρ F3 L3 H3 y u := kR.step ku s3
      cases key_at rl3 ku3 hk
      refine ⟨valV vs k, .inl ⟨vs, k, h1, rfl, rfl⟩, q3.here o3 _ ?_⟩
      rcases h2.val k with ⟨z1, z2⟩ | ⟨d, w', z1, z2, z3⟩
      · rw [z1, z2]; exact kw
      · rw [z1, z2]; exact .inr z3
    · exact q3.elim
  | _ => exact q1.elim
/-! ### displays -/
abbrev PDen := REnv → Store → RC (List (Key × D))
def pNil : PDen := fun _ st => .ok [] st
def pCons (mk mv : EDen) (r : PDen) : PDen := fun ρ st => (mk ρ st).bind fun x st1 => (mv ρ st1).bind fun y st2 => (r ρ st2).bind fun kvs st3 => match keyOf x with
  | some k => if isLoc y = false then .ok ((k, y) :: kvs) st3 else .bad
  | none => .bad
/-- the pairs of a display -/
def PrG (K : PySem.W.Frag) (mg : Glob) (Γ : Ent) (W : WX) (trs : List (TE × TE)) (m : PDen) : Prop := ∀ (σ : St) (H : Hp) (Q : List (V × V) → Hp → Prop), (∃ F L ρ st, Rl K mg Γ F L σ H ρ st ∧
  Post K mg W σ F L H (m ρ st) fun F' L' H' _ kvs => ∀ vs, RepK K mg F' kvs vs → Q (vs.map fun kv => (L2.kV kv.1, kv.2)) H') → tPairs trs σ H Q
theorem p_nil : PrG K mg Γ W [] pNil := fun σ H Q ⟨F, L, ρ, st, rl, q⟩ => q.here rl.sto [] rfl
theorem p_cons {mk mv : EDen} {r : PDen} {trs : List (TE × TE)} (h : PrG K mg Γ W trs r) : PrG K mg Γ W ((teV K mg Γ W mk, teV K mg Γ W mv) :: trs) (pCons mk mv r) := fun σ H Q ⟨F, L, ρ, st, rl, q⟩ => by
  refine ⟨F, L, ρ, st, rl, q.bind.imp fun F1 L1 H1 st1 x s1 o1 q1 v kv => ?_⟩
  have rl1 := rl.step s1 o1
  refine ⟨F1, L1, ρ, st1, rl1, q1.bind.imp fun F2 L2 H2 st2 y s2 o2 q2 u ku => ?_⟩
  have rl2 := rl1.step s2 o2
  refine h σ H2 _ ⟨F2, L2, ρ, st2, rl2, q2.bind.imp fun F3 L3 H3 st3 kvs s3 o3 q3 vs kvs' => ?_⟩
  split at q3
  · rename_i k hk
    split at q3
    · rename_i hl
      have e := keyOf_v hk kv
      subst e
      have := q3.here o3 ((k, u) :: vs) ⟨u, vs, rfl, VRep.flat (s3.vrep ku) hl, kvs'⟩
      simpa using this
    · exact q3.elim
  · exact q3.elim
/-- {k: v, ..}: a new dict -/
def eDict (m : PDen) : EDen := fun ρ st => (m ρ st).bind fun kvs st1 => if kvs.length ≤ 15 then .ok (.dct (mergeD [] kvs)) st1 else .bad
theorem g_dict0 : PE X (.Dict [] [] pos) (teO K mg Γ W (eDict pNil)) := by
  refine pe_imp pe_dnewK fun σ H Q ⟨F, L, ρ, st, rl, q⟩ p hp => ?_
  exact q F L (upd H p (.dK [])) (Stp.fresh hp) (rl.sto.fresh hp) _ ⟨p, rfl, hp, rl.newF hp, rl.newL hp, [], upd_same, rfl⟩
theorem Sto.updN {F H : Hp} {L : List Addr} {st : Store} {p : Addr} {u : HO} (x : Sto K mg F L H st) (nF : F p = none) (nL : p ∉ L) : Sto K mg F L (upd H p u) st := by
  refine ⟨fun b w q => ?_, x.nd, x.len, fun n b d h1 h2 => ?_⟩
  · have hb : b ≠ p := fun z => by rw [z, nF] at q; cases q
    rw [upd_ne hb]
    exact x.ex b w q
  · obtain ⟨g1, g2⟩ := x.at_ n b d h1 h2
    have hb : b ≠ p := fun z => nL (z ▸ List.mem_of_getElem? h1)
    exact ⟨g1, g2.mono (Ex.refl F) fun w z => by rw [upd_ne hb]; exact z⟩
theorem g_dict {keys : List (Option Expr)} {values : List Expr} {trs : List (TE × TE)} {m : PDen} (h : PPs X pos keys values trs) (hp : PrG K mg Γ W trs m) (hall : keys.all (·.isSome) = true := by rfl) (hl : keys.length = values.length := by rfl) (h0 : keys ≠ [] := by exact fun z => by cases z)
    (h15 : keys.length ≤ 15 := by decide) : PE X (.Dict keys values pos) (teO K mg Γ W (eDict m)) := by
  refine pe_imp (pe_disp h hall hl h0 h15) fun σ H Q ⟨F, L, ρ, st, rl, q⟩ p np => ?_
  have s0 : Stp F L H F L (upd H p (.dK [])) := Stp.fresh np
  have o0 := rl.sto.fresh (o := .dK []) np
  refine hp σ _ _ ⟨F, L, ρ, st, rl.step s0 o0, ?_⟩
  unfold eDict at q
  cases hm : m ρ st with
  | bad => rw [hm] at q; exact q.elim
  | exc c fs st' =>
    rw [hm] at q
    exact Post.step q s0
  | ok kvs st1 =>
    rw [hm] at q
    dsimp only [RC.bind_ok] at q
    intro F1 L1 H1 s o vs kvs'
    split at q
    · rename_i h15
      obtain ⟨g1, g2, g3⟩ := s.kp p _ upd_same (rl.newL np)
      have nF : F1 p = none := g2.trans (rl.newF np)
      refine ⟨g1, vs, rfl, by rw [← kvs'.length]; exact h15, ?_⟩
      have s2 : Stp F L H F1 L1 (upd H1 p (.dK (mergeK [] vs))) := by
        refine ⟨s.ex, s.pre, fun b u hb nb => ?_⟩
        have hne : b ≠ p := ne_of_none hb np
        obtain ⟨k1, k2, k3⟩ := s.kp b u (by rw [upd_ne hne]; exact hb) nb
        exact ⟨by rw [upd_ne hne]; exact k1, k2, k3⟩
      exact q F1 L1 _ s2 (o.updN nF g3) _ ⟨p, rfl, np, nF, g3, _, upd_same, RepK.merge kvs' rfl⟩
    · exact q.elim
end
end Gh
/-! Gh20: the module's constants. -/
namespace Gh
open L2 PyProof.Rows PySem.Spec PySem
/-- a text, a number of the module -/
def TS (mg : Glob) (x s : Str) : Prop := ∃ t, mg x = some (.str s t)
def TN (mg : Glob) (x : Str) (i : Int) : Prop := ∃ t, mg x = some (.int i t)
section
variable {X : Cx} {Γ : Ent} {W : WX} {pos : Pos} {x s : Str} {i : Int}
theorem f_gs (h : TS X.mg x s) (hg : Gl X x := by rfl) (hd : (x == ("__debug__" : Str)) = false := by decide) : PE X (.Name x pos) (teV X.K X.mg Γ W (eC (.str s))) := by
  obtain ⟨t, h⟩ := h
  exact g_glob (v := .str s) h ⟨t, rfl⟩ (fun F => rfl) hg hd
theorem f_gn (h : TN X.mg x i) (hg : Gl X x := by rfl) (hd : (x == ("__debug__" : Str)) = false := by decide) : PE X (.Name x pos) (teV X.K X.mg Γ W (eC (.int i))) := by
  obtain ⟨t, h⟩ := h
  exact g_glob (v := .int i) h ⟨t, rfl⟩ (fun F => rfl) hg hd
end
theorem ts_mk {K : PySem.W.Frag} {mg : Glob} {h : Heap} {x s : Str} {t : Tok} (X : K.In h) (G : h.Ns mainGlobals mg) (a : PySem.W.nsIn K mainGlobals x = some (some (.str s t))) : TS mg x s := ⟨t, PySem.W.mg_of X G a⟩
theorem tn_mk {K : PySem.W.Frag} {mg : Glob} {h : Heap} {x : Str} {i : Int} {t : Tok} (X : K.In h) (G : h.Ns mainGlobals mg) (a : PySem.W.nsIn K mainGlobals x = some (some (.int i t))) : TN mg x i := ⟨t, PySem.W.mg_of X G a⟩
end Gh
/-! Gh21: list.index; sorted. -/
namespace Gh
open L2 PyProof.Rows PySem.Spec PySem
section
variable {X : Cx} {K : PySem.W.Frag} {mg : Glob} {Γ : Ent} {W : WX} {o e : Expr} {mo me : EDen} {pos apos cpos : Pos}
/-- the first place of x among items -/
def idxD (x : D) (ds : List D) : Option Nat := ds.findIdx? fun y => D.eqv y x
def eIndex (mo me : EDen) : EDen := fun ρ st => (mo ρ st).bind fun x st1 => match x with
  | .lst ds => (me ρ st1).bind fun y st2 => if flatD y = true ∧ ds.all flatD = true then (match idxD y ds with
    | some i => .ok (.int (i : Int)) st2
    | none => .bad) else .bad
  | _ => .bad
theorem repl_flat {F : Hp} {L : List Addr} {y : D} {u : V} (hy : flatD y = true) (ry : VRep K mg L F y u) : ∀ {ds : List D} {vs : List V}, ds.all flatD = true → RepL K mg F ds vs → vs.all flatV = true ∧ ∀ (m : Nat) (z : D) (w : V), ds[m]? = some z → vs[m]? = some w → eqV w u = D.eqv z y
  | [], vs, _, h => by
    have h : vs = [] := h
    subst h
    exact ⟨rfl, fun m z w e => by simp at e⟩
  | d :: ds, vs, ha, h => by
    obtain ⟨v, r, rfl, h2, h3⟩ := h
    simp only [List.all_cons, Bool.and_eq_true] at ha
    obtain ⟨i1, i2⟩ := repl_flat hy ry ha.2 h3
    obtain ⟨f1, f2⟩ := flat_of (K := K) (mg := mg) (F := F) (H := F) (L := L) ha.1 (.inr h2)
    refine ⟨by simp [f1, i1], fun m z w e1 e2 => ?_⟩
    cases m with
    | zero =>
      have e1 : d = z := by simpa using e1
      have e2 : v = w := by simpa using e2
      subst e1 e2
      exact f2 y u hy ry
    | succ m => exact i2 m z w (by simpa using e1) (by simpa using e2)
theorem g_index (hK : X.K = K) (ho : PE X o (teR K mg Γ W mo)) (he : PE X e (teV K mg Γ W me)) (hbase : attributeBase o "index" X.env (eval o X.env) = eval o X.env := by rfl)
    (hfew : ((backTo cpos (starEach [e] X.env)).all (fun x => !x.1) && (backToKw cpos (keywordEach [] X.env)).all (fun x => x.1.isSome)
      && decide (([e] : List Expr).length + ([] : List Keyword).length + (if ([] : List Keyword).isEmpty then 0 else 1) < 30)) = true := by rfl)
    (hline : (apos.endLine == cpos.line) = true := by rfl) (hs : starEach [e] X.env = (false, eval e X.env) :: starEach [] X.env := by rfl) (hplain : (backTo cpos (starEach [] X.env)).any (·.1) = false := by rfl) :
    PE X (.Call (.Attribute o "index" apos) [e] [] cpos) (teV K mg Γ W (eIndex mo me)) := by
  subst hK
  refine pe_imp (pe_bm PySem.F.plainAttrs_list PySem.F.slot_list_index PySem.F.type_list_index mt_index ho (pa_cons he pa_nil hs) hbase hfew hline hs hplain) fun σ H Q ⟨F, L, ρ, st, rl, q⟩ => ⟨F, L, ρ, st, rl, q.bind.imp fun F1 L1 H1 st1 x s1 o1 q1 v kv => ?_⟩
  have rl1 := rl.step s1 o1
  cases x with
  | lst ds =>
    obtain ⟨a, vs, rfl, h1, h2⟩ := kv.lst rl1
    refine ⟨.inl ⟨rfl, vs, .inl (.inl h1)⟩, F1, L1, ρ, st1, rl1, q1.bind.imp fun F2 L2 H2 st2 y s2 o2 q2 u ku => ?_⟩
    have rl2 := rl1.step s2 o2
    split at q2
    · rename_i hf
      split at q2
      · rename_i i hi
        have kv2 : kR X.K mg σ H2 ρ F2 L2 H2 (.lst ds) (.ref a) := kR.step kv s2
        obtain ⟨a', ws, e1, g1, g2⟩ := kv2.lst rl2
        cases e1
        obtain ⟨f1, f2⟩ := repl_flat hf.1 ku hf.2 g2
        unfold idxD at hi
        rw [List.findIdx?_eq_some_iff_getElem] at hi
        obtain ⟨hlt, z1, z2⟩ := hi
        obtain ⟨w, hw, rw'⟩ := g2.get (List.getElem?_eq_getElem hlt)
        refine ⟨a, ws, u, i, w, rfl, rfl, .inl (.inl g1), (flat_of (H := H2) hf.1 ku).1, f1, hw, ?_, fun m z' hm hz => ?_, q2.here o2 _ (.inr rfl)⟩
        · rw [f2 i _ w (List.getElem?_eq_getElem hlt) hw]
          exact z1
        · have hml : m < ds.length := by omega
          rw [f2 m _ z' (List.getElem?_eq_getElem hml) hz]
          have := z2 m hm
          simpa using this
      · exact q2.elim
    · exact q2.elim
  | _ => exact q1.elim
end
end Gh
/-! Gh22: sorted of ints. -/
namespace Gh
open L2 PyProof.Rows PySem.Spec PySem
def sortI (ns : List Int) : List Int := ns.mergeSort fun a b => decide (a ≤ b)
theorem sortI_perm (ns : List Int) : (sortI ns).Perm ns := List.mergeSort_perm ns _
theorem sortI_le (ns : List Int) : (sortI ns).Pairwise (· ≤ ·) := by
  have h := List.pairwise_mergeSort (le := fun (a b : Int) => decide (a ≤ b)) (fun a b c h1 h2 => by simp at *; omega) (fun a b => by simp; omega) ns
  exact h.imp fun h => by simpa using h
theorem sortI_is {ns ms : List Int} (p : ms.Perm ns) (h : ms.Pairwise (· ≤ ·)) : ms = sortI ns := by
  refine List.Perm.eq_of_pairwise (le := (· ≤ ·)) (fun a b _ _ h1 h2 => by omega) h (sortI_le ns) (p.trans (sortI_perm ns).symm)
def gSorted : OpN := fun ds st => match ds with
  | [.lst es] => (match asInts es with
    | some ns => .ok (.lst ((sortI ns).map D.int)) st
    | none => .bad)
  | _ => .bad
section
variable {X : Cx} {K : PySem.W.Frag} {mg : Glob}
theorem repl_I {F : Hp} : ∀ ns : List Int, RepL K mg F (ns.map D.int) (ns.map V.int)
  | [] => rfl
  | n :: ns => ⟨_, _, rfl, rfl, repl_I ns⟩
theorem sem_sorted : SemN kO K mg gSorted (rSortedI K) := by
  intro Γ W F L σ H ρ st ds vs Q rl kvs q
  unfold gSorted at q
  split at q
  · rename_i es
    obtain ⟨v, rfl, kv⟩ := kvs.one (Γ := Γ)
    split at q
    · rename_i ns hb
      obtain ⟨a, us, rfl, h1, h2⟩ := list_at rl kv
      cases asInts_rep h2 hb
      refine ⟨a, ns, rfl, h1, fun ms p hp hs np => ?_⟩
      rw [sortI_is hp hs]
      exact q F L (upd H p (.lst ((sortI ns).map V.int))) (Stp.fresh np) (rl.sto.fresh np) _ ⟨p, rfl, np, rl.newF np, rl.newL np, _, upd_same, repl_I _⟩
    · exact q.elim
  · exact q.elim
end
end Gh
/-! Gh23: sorted of texts. -/
namespace Gh
open L2 PyProof.Rows PySem.Spec PySem
def leS (a b : Str) : Bool := !decide (b.cps.toList < a.cps.toList)
theorem leS_iff (a b : Str) : leS a b = true ↔ a.cps.toList ≤ b.cps.toList := by
  unfold leS
  simp only [Bool.not_eq_true', decide_eq_false_iff_not]
  exact List.not_lt
theorem leS_trans (a b c : Str) (h : leS a b = true) (h2 : leS b c = true) : leS a c = true := by
  rw [leS_iff] at h h2 ⊢
  exact List.le_trans h h2
theorem leS_total (a b : Str) : (leS a b || leS b a) = true := by
  rcases List.le_total a.cps.toList b.cps.toList with h | h
  · rw [(leS_iff a b).mpr h]
    rfl
  · rw [(leS_iff b a).mpr h, Bool.or_true]
theorem leS_anti (a b : Str) (h : leS a b = true) (h2 : leS b a = true) : a = b := by
  rw [leS_iff] at h h2
  have e := List.le_antisymm h h2
  cases a with
  | mk x =>
    cases b with
    | mk y =>
      congr 1
      exact Array.ext' e
def sortS (xs : List Str) : List Str := xs.mergeSort leS
theorem sortS_perm (xs : List Str) : (sortS xs).Perm xs := List.mergeSort_perm xs _
theorem sortS_le (xs : List Str) : (sortS xs).Pairwise (fun a b => leS a b = true) := List.pairwise_mergeSort leS_trans leS_total xs
theorem rising_pw : ∀ (l : List Str) (p : Str), risingS p l = true → (p :: l).Pairwise (fun a b => leS a b = true)
  | [], p, _ => by simp
  | x :: r, p, h => by
    have h : (!ltCps x.cps.toList p.cps.toList && risingS x r) = true := h
    simp only [Bool.and_eq_true] at h
    have ih := rising_pw r x h.2
    have hp : leS p x = true := by
      unfold leS
      rw [← ltCps_eq]
      exact h.1
    refine List.pairwise_cons.mpr ⟨fun z hz => ?_, ih⟩
    rcases List.mem_cons.mp hz with rfl | hz
    · exact hp
    · exact leS_trans _ _ _ hp ((List.pairwise_cons.mp ih).1 z hz)
theorem sortedS_pw (l : List Str) (h : sortedS l = true) : l.Pairwise (fun a b => leS a b = true) := by
  cases l with
  | nil => exact List.Pairwise.nil
  | cons x r => exact rising_pw r x h
theorem sortS_is {xs ys : List Str} (p : ys.Perm xs) (h : sortedS ys = true) : ys = sortS xs :=
  List.Perm.eq_of_pairwise (le := fun a b => leS a b = true) (fun a b _ _ h1 h2 => leS_anti a b h1 h2) (sortedS_pw ys h) (sortS_le xs) (p.trans (sortS_perm xs).symm)
def asStrs : List D → Option (List Str)
  | [] => some []
  | .str i :: r => (asStrs r).map (i :: ·)
  | _ => none
section
variable {X : Cx} {K : PySem.W.Frag} {mg : Glob}
theorem asStrs_rep {F : Hp} : ∀ {ds : List D} {vs : List V} {ns : List Str}, RepL K mg F ds vs → asStrs ds = some ns → vs = ns.map V.str
  | [], vs, ns, h, e => by
    have h : vs = [] := h
    cases e
    exact h
  | .str i :: ds, vs, ns, h, e => by
    obtain ⟨v, r, rfl, h2, h3⟩ := h
    have e : (asStrs ds).map (i :: ·) = some ns := e
    cases hq : asStrs ds with
    | none => rw [hq] at e; cases e
    | some ms =>
      rw [hq] at e
      cases e
      rw [asStrs_rep h3 hq, show v = V.str i from h2]
      rfl
  | .non :: ds, vs, ns, h, e => by cases e
  | .bl _ :: ds, vs, ns, h, e => by cases e
  | .int _ :: ds, vs, ns, h, e => by cases e
  | .tup _ :: ds, vs, ns, h, e => by cases e
  | .lst _ :: ds, vs, ns, h, e => by cases e
  | .scr _ :: ds, vs, ns, h, e => by cases e
  | .dct _ :: ds, vs, ns, h, e => by cases e
  | .ins _ _ :: ds, vs, ns, h, e => by cases e
  | .loc _ :: ds, vs, ns, h, e => by cases e
theorem repl_S {F : Hp} : ∀ ns : List Str, RepL K mg F (ns.map D.str) (ns.map V.str)
  | [] => rfl
  | n :: ns => ⟨_, _, rfl, rfl, repl_S ns⟩
def gSortedS : OpN := fun ds st => match ds with
  | [.lst es] => (match asStrs es with
    | some ns => if ns.length < 64 then .ok (.lst ((sortS ns).map D.str)) st else .bad
    | none => .bad)
  | _ => .bad
theorem sem_sortedS : SemN kO K mg gSortedS (rSortedS K) := by
  intro Γ W F L σ H ρ st ds vs Q rl kvs q
  unfold gSortedS at q
  split at q
  · rename_i es
    obtain ⟨v, rfl, kv⟩ := kvs.one (Γ := Γ)
    split at q
    · rename_i ns hb
      split at q
      · rename_i hl
        obtain ⟨a, us, rfl, h1, h2⟩ := list_at rl kv
        cases asStrs_rep h2 hb
        refine ⟨a, ns, rfl, h1, hl, fun ms p hp hs np => ?_⟩
        rw [sortS_is hp hs]
        exact q F L (upd H p (.lst ((sortS ns).map V.str))) (Stp.fresh np) (rl.sto.fresh np) _ ⟨p, rfl, np, rl.newF np, rl.newL np, _, upd_same, repl_S _⟩
      · exact q.elim
    · exact q.elim
  · exact q.elim
end
end Gh
/-! Gh24: own exceptions by what the top has written: raise, try. -/
namespace Gh
open L2 PyProof.Rows PySem.Spec PySem
/-- an exception class whose own __init__ keeps the fields fs -/
def TX (K : PySem.W.Frag) (mg : Glob) (c qual : Str) (fs : List Str) (st : Stmt) : Prop := ∃ C fI fd, mg c = some (.ref C) ∧ OexC K C ∧ XfC K C ∧ (∀ f ∈ fs, PySem.W.findIn K (.ref C) f = some none) ∧
  PySem.W.findIn K (.ref C) "__init__" = some (some (.ref fI)) ∧ PySem.W.typeIn K (.ref fI) = some (.type "function") ∧ Fun K "__init__" qual st fI fd
def NoF (K : PySem.W.Frag) (mg : Glob) (c f : Str) : Prop := ∃ C, mg c = some (.ref C) ∧ PySem.W.findIn K (.ref C) f = some none
section
variable {K : PySem.W.Frag} {mg : Glob}
theorem nof_mk {h : Heap} {c f : Str} {C : Addr} (X : K.In h) (G : h.Ns mainGlobals mg) (a : PySem.W.nsIn K mainGlobals c = some (some (.ref C))) (n : PySem.W.findIn K (.ref C) f = some none) : NoF K mg c f := ⟨C, PySem.W.mg_of X G a, n⟩
theorem nof_nil {c : Str} : ∀ f ∈ ([] : List Str), NoF K mg c f := fun f h => by cases h
theorem nof_cons {c f : Str} {fs : List Str} (h : NoF K mg c f) (t : ∀ g ∈ fs, NoF K mg c g) : ∀ g ∈ f :: fs, NoF K mg c g := fun g hg => by
  rcases List.mem_cons.mp hg with rfl | hg
  · exact h
  · exact t g hg
/-- the class's object, its parts as k_is finds them -/
def XLook (K : PySem.W.Frag) (C : Addr) : Prop := ∃ nm q N bs bm sn sub ab col dd k0 k1 k2 k3 k5, K.lookup C = some (excClassObj nm q C N bs bm true sn sub ab col dd k0 k1 k2 k3 k5 "ValueError.__new__") ∧ PySem.HandSPX.refsVE bm = true
theorem xlook_mk {C N : Addr} {nm q : Str} {bs bm : List Value} {sn : List Str} {sub : List Value} {ab : Bool} {col : Option Bool} {dd : Option Addr} {k0 k1 k2 k3 k5 : Option Value}
    (l : K.lookup C = some (excClassObj nm q C N bs bm true sn sub ab col dd k0 k1 k2 k3 k5 "ValueError.__new__")) (b : PySem.HandSPX.refsVE bm = true) : XLook K C := ⟨nm, q, N, bs, bm, sn, sub, ab, col, dd, k0, k1, k2, k3, k5, l, b⟩
theorem tx_mk {h : Heap} {c qual : Str} {fs : List Str} {st : Stmt} {C fI : Addr} {oc : Value} {od an : Option Addr} {osl : Array (Option Value)} {kV doc pm cdv ct : Value} (X : K.In h) (G : h.Ns mainGlobals mg) (a : PySem.W.nsIn K mainGlobals c = some (some (.ref C))) (x : XLook K C)
    (sa : PySem.W.findIn K (.ref C) "__setattr__" = some (some (.builtin "object.__setattr__"))) (ex : PySem.W.subIn K (.ref C) (.type "BaseException") = some true) (ty : PySem.W.typeIn K (.ref C) = some (.type "type")) (kc : PySem.W.keepIn K (.ref C) = true)
    (ga : PySem.W.findIn K (.ref C) "__getattribute__" = some (some (.builtin "BaseException.__getattribute__"))) (gg : PySem.W.findIn K (.ref C) "__getattr__" = some none) (hd : PySem.W.hasDictIn K C = true)
    (i : PySem.W.findIn K (.ref C) "__init__" = some (some (.ref fI))) (ti : PySem.W.typeIn K (.ref fI) = some (.type "function")) (l : K.lookup fI = some ⟨oc, od, .func (PySem.W.fnOf "__init__" qual (defArgs st) (defBody st) (defScope st) .none kV doc pm an cdv ct), osl⟩) (d : PySem.W.codeIn K cdv qual = true) (kf : PySem.W.keepIn K (.ref fI) = true)
    (nf : ∀ f ∈ fs, NoF K mg c f) : TX K mg c qual fs st := by
  have hC := PySem.W.mg_of X G a
  refine ⟨C, fI, _, hC, ⟨x, sa, ex, ty, kc⟩, ⟨ga, gg, ex, hd⟩, fun f hf => ?_, i, ti, fun_mk l d kf⟩
  obtain ⟨C', h1, h2⟩ := nf f hf
  rw [hC] at h1; cases h1
  exact h2
/-- what a clause that names x makes of each of the classes -/
def TEm (K : PySem.W.Frag) (mg : Glob) (x : Str) (all cs : List Str) : Prop := ∃ C, mg x = some (.ref C) ∧ ExcAll K mg (.ref C) all cs
def Em1 (K : PySem.W.Frag) (mg : Glob) (x c : Str) (b : Bool) : Prop := ∃ C D, mg x = some (.ref C) ∧ mg c = some (.ref D) ∧ PySem.W.exmOne K (.ref D) (.ref C) = some b
theorem em1_mk {h : Heap} {x c : Str} {C D : Addr} {b : Bool} (X : K.In h) (G : h.Ns mainGlobals mg) (a : PySem.W.nsIn K mainGlobals x = some (some (.ref C))) (a2 : PySem.W.nsIn K mainGlobals c = some (some (.ref D))) (h1 : PySem.W.subIn K (.ref C) (.type "BaseException") = some true) (h2 : PySem.W.isClsIn K C = true)
    (h3 : PySem.W.typeIn K (.ref C) = some (.type "type")) (h4 : PySem.W.subIn K (.ref D) (.ref C) = some b) : Em1 K mg x c b := by
  refine ⟨C, D, PySem.W.mg_of X G a, PySem.W.mg_of X G a2, ?_⟩
  have h2' : (PySem.W.clsIn K C).isSome = true := h2
  unfold PySem.W.exmOne PySem.W.kitCls
  simp [h1, h2', h3, h4]
theorem tem_mk {h : Heap} {x : Str} {all cs : List Str} {C : Addr} (X : K.In h) (G : h.Ns mainGlobals mg) (a : PySem.W.nsIn K mainGlobals x = some (some (.ref C))) (em : ∀ c ∈ all, Em1 K mg x c (decide (c ∈ cs))) : TEm K mg x all cs := by
  refine ⟨C, PySem.W.mg_of X G a, fun c hc D hD => ?_⟩
  obtain ⟨C', D', h1, h2, h3⟩ := em c hc
  rw [PySem.W.mg_of X G a] at h1; cases h1
  rw [hD] at h2; cases h2
  exact h3
end
section
variable {P : Program} {w : World} {K : PySem.W.Frag} {mg : Glob} {base : Heap}
def spX (K : PySem.W.Frag) : List Str → Sp
  | [f1] => spInit1 K f1
  | [f1, f2] => spInit2 K f1 f2
  | _ => fun _ _ _ _ => False
def OkX (P : Program) (w : World) (K : PySem.W.Frag) (mg : Glob) (base : Heap) (kk : Nat) (c : Str) (fs : List Str) : Prop := ∃ C fI fd ps, mg c = some (.ref C) ∧ OexC K C ∧ XfC K C ∧ (∀ f ∈ fs, PySem.W.findIn K (.ref C) f = some none) ∧
  PySem.W.findIn K (.ref C) "__init__" = some (some (.ref fI)) ∧ PySem.W.typeIn K (.ref fI) = some (.type "function") ∧ FnOk P w K mg base (L2.CX P w) kk fI fd ps (spX K fs) ∧ Binds K fd ps []
theorem okX2_of {c qual f1 f2 x y z : Str} {st : Stmt} (T : TX K mg c qual [f1, f2] st) (S : FnScope [x, y, z] [x, y, z] (defScope st)) (hb : ∀ f fd, Fun K "__init__" qual st f fd → Binds K fd [x, y, z] [])
    (hbody : ∀ (f : Addr) (cdv : Value) (A : Around) (outer : List Env) (s : Shared) (H : Hp) (E : XK), PSs (cxOf (L2.CX P w) P w K mg base [x, y, z] qual (defScope st) f cdv A outer s H E) (defBody st) (tSeq (tOst K f1 (tVar 0) (tVar 1)) (tOst K f2 (tVar 0) (tVar 2)))) :
    OkX P w K mg base 1 c [f1, f2] := by
  obtain ⟨C, fI, fd, h1, h2, h3, h4, h5, h6, F⟩ := T
  refine ⟨C, fI, fd, [x, y, z], h1, h2, h3, h4, h5, h6, ?_, hb fI fd F⟩
  refine F.okX (k := 0) S (fun vs H Q E h => ?_) fun cdv A outer s H vs Q E hr h => ⟨_, hbody fI cdv A outer s H E, read2 (E := E) h⟩
  obtain ⟨a, C, u, v, rfl, _⟩ := h
  rfl
theorem okX1_of {c qual f1 x y : Str} {st : Stmt} (T : TX K mg c qual [f1] st) (S : FnScope [x, y] [x, y] (defScope st)) (hb : ∀ f fd, Fun K "__init__" qual st f fd → Binds K fd [x, y] [])
    (hbody : ∀ (f : Addr) (cdv : Value) (A : Around) (outer : List Env) (s : Shared) (H : Hp) (E : XK), PSs (cxOf (L2.CX P w) P w K mg base [x, y] qual (defScope st) f cdv A outer s H E) (defBody st) (tOst K f1 (tVar 0) (tVar 1))) :
    OkX P w K mg base 1 c [f1] := by
  obtain ⟨C, fI, fd, h1, h2, h3, h4, h5, h6, F⟩ := T
  refine ⟨C, fI, fd, [x, y], h1, h2, h3, h4, h5, h6, ?_, hb fI fd F⟩
  refine F.okX (k := 0) S (fun vs H Q E h => ?_) fun cdv A outer s H vs Q E hr h => ⟨_, hbody fI cdv A outer s H E, read1 (E := E) h⟩
  obtain ⟨a, C, u, rfl, _⟩ := h
  rfl
theorem OkX.mono {j k : Nat} {c : Str} {fs : List Str} (h : OkX P w K mg base j c fs) (e : j ≤ k) : OkX P w K mg base k c fs := by
  obtain ⟨C, fI, fd, ps, h1, h2, h3, h4, h5, h6, h7, h8⟩ := h
  exact ⟨C, fI, fd, ps, h1, h2, h3, h4, h5, h6, h7.mono e, h8⟩
end
section
variable {X : Cx} {Γ : Ent} {W : WX} {e e2 : Expr} {pos pos2 pos' p np : Pos} {ms : ADen} {kk : Nat} {c f1 f2 x n : Str} {all cs : List Str} {mb mh : SDen} {i : Nat} {body suite : List Stmt} {b₀ : Stmt}
theorem f_raise2 (h : OkX X.prog X.w X.K X.mg X.base kk c [f1, f2]) (hr : Room (kk + 1) X.A) (hcalm : X.calm = true) (tk : Takes X W) (ha : PA X [e, e2] (taG X.K X.mg Γ W ms))
    (hg : Gl X c := by rfl) (hdb : (c == ("__debug__" : Str)) = false := by decide) (he : starEach (e :: [e2]) X.env = (false, eval e X.env) :: starEach [e2] X.env := by rfl) (hpl : (backTo pos (starEach [e2] X.env)).any (·.1) = false := by rfl) :
    PS X (.Raise (some (.Call (.Name c p) [e, e2] [] pos)) none pos2) (tsG X.K X.mg Γ W (sRaise c [f1, f2] ms)) := by
  obtain ⟨C, fI, fd, ps, h1, h2, h3, h4, h5, h6, h7, h8⟩ := h
  exact s_raise2 rfl hcalm tk h2 (h4 _ List.mem_cons_self) (h4 _ (List.mem_cons_of_mem _ List.mem_cons_self)) h5 h6 h7 hr h8 h1 h1 ha hg hdb he hpl
theorem f_raise1 (h : OkX X.prog X.w X.K X.mg X.base kk c [f1]) (hr : Room (kk + 1) X.A) (hcalm : X.calm = true) (tk : Takes X W) (ha : PA X [e] (taG X.K X.mg Γ W ms))
    (hg : Gl X c := by rfl) (hdb : (c == ("__debug__" : Str)) = false := by decide) (he : starEach (e :: []) X.env = (false, eval e X.env) :: starEach [] X.env := by rfl) (hpl : (backTo pos (starEach [] X.env)).any (·.1) = false := by rfl) :
    PS X (.Raise (some (.Call (.Name c p) [e] [] pos)) none pos2) (tsG X.K X.mg Γ W (sRaise c [f1] ms)) := by
  obtain ⟨C, fI, fd, ps, h1, h2, h3, h4, h5, h6, h7, h8⟩ := h
  exact s_raise1 rfl hcalm tk h2 (h4 _ List.mem_cons_self) h5 h6 h7 hr h8 h1 h1 ha hg hdb he hpl
theorem f_tryAs (T : TEm X.K X.mg x all cs) (hx0 : Γ.x = none) (hN : X.N.Nodup) (tk : Takes X W)
    (hb : ∀ (W : WX) (pn : List (Addr × Obj)) (xe : Value → Shared → Prop), Takes (X.tr pn xe) W → PassesOwn (model X.prog X.w) X.A X.env xe → PSs (X.tr pn xe) body (tsG X.K X.mg Γ W mb))
    (hsu : ∀ (a : Addr) (oe : Obj) (cls : Value) (d : Option Addr) (pn : List (Addr × Obj)), Zc cls d oe → (∃ vs, oe.data = .fields vs) → PSs (X.suite a ((a, oe) :: pn)) (b₀ :: suite) (tsG X.K X.mg { Γ with x := some (i, a, cls, d) } W0 mh))
    (hs : X.stack = X.env :: X.outer := by rfl) (hf : X.env.frame = some X.env.locals := by rfl) (hg : Gl X x := by rfl) (hdb : (x == ("__debug__" : Str)) = false := by decide)
    (hi : X.N[i]? = some n := by rfl) (hln : X.env.kindOf n = some .local := by rfl) :
    PS X (.Try body [.ExceptHandler (some (.Name x np)) (some n) (b₀ :: suite) pos'] [] [] pos) (tsG X.K X.mg Γ W (sTryAs i all cs mb mh)) := by
  obtain ⟨C, h1, h2⟩ := T
  exact s_tryAs rfl hx0 hs hf hN ⟨hg, hdb, .inl h1⟩ h2 tk hb hsu hi hln
theorem f_try (T : TEm X.K X.mg x all cs) (tk : Takes X W)
    (hb : ∀ (W : WX) (pn : List (Addr × Obj)) (xe : Value → Shared → Prop), Takes (X.tr pn xe) W → PassesOwn (model X.prog X.w) X.A X.env xe → PSs (X.tr pn xe) body (tsG X.K X.mg Γ W mb))
    (hsu : ∀ (a : Addr) (oe : Obj) (cls : Value) (d : Option Addr) (pn : List (Addr × Obj)), Zc cls d oe → (∃ vs, oe.data = .fields vs) → PSs (X.suite a ((a, oe) :: pn)) (b₀ :: suite) (tsG X.K X.mg Γ W0 mh))
    (hs : X.stack = X.env :: X.outer := by rfl) (hf : X.env.frame = some X.env.locals := by rfl) (hg : Gl X x := by rfl) (hdb : (x == ("__debug__" : Str)) = false := by decide) :
    PS X (.Try body [.ExceptHandler (some (.Name x np)) none (b₀ :: suite) pos'] [] [] pos) (tsG X.K X.mg Γ W (sTry all cs mb mh)) := by
  obtain ⟨C, h1, h2⟩ := T
  exact s_try rfl hs hf ⟨hg, hdb, .inl h1⟩ h2 tk hb hsu
theorem f_xf {a : Addr} {oe : Obj} {cls : Value} {d : Option Addr} {pn : List (Addr × Obj)} {qual : Str} {fs : List Str} {st : Stmt} (T : TX X.K X.mg c qual fs st) (hn : n ∈ fs) (hz : Zc cls d oe) (hf : ∃ vs, oe.data = .fields vs)
    (hN : X.N[i]? = some x := by rfl) (hv : Vis X.env.scope x := by first | exact Or.inl rfl | exact Or.inr (Or.inl rfl) | exact Or.inr (Or.inr rfl)) (hd : (x == ("__debug__" : Str)) = false := by decide) (hcd : (x == ("__classdict__" : Str)) = false := by decide)
    (hb : attributeBase (.Name x p) n X.env (eval (.Name x p) X.env) = eval (.Name x p) X.env := by rfl) :
    PE (X.suite a ((a, oe) :: pn)) (.Attribute (.Name x p) n pos) (teV X.K X.mg { Γ with x := some (i, a, cls, d) } W (eXf i [c] n)) := by
  obtain ⟨C, fI, fd, h1, h2, h3, h4, _⟩ := T
  exact g_xf rfl h3 (h4 n hn) h1 hz hf hN hv hd hcd hb
end
end Gh
/-! Gh25: dict displays with one star ahead: {**d, k: v}; o.f += e. -/
namespace Gh
open L2 PyProof.Rows PySem.Spec PySem
section
variable {prog : Program} {w : World} {A : Around} {E : Value → Shared → Prop} {s : Shared}
/-- one entry is put -/
theorem put_one {d : Addr} {kvs : List (Key × Value)} {k : Key} {key v : Value} {Q : Unit → Shared → Prop} (hkey : (mixKind prog w).is k key = true) (hm : s.heap.DictOf (mixKind prog w) d kvs) (hz : kvs.length ≤ sizeLine)
    (q : ∀ h', h'.DictOf (mixKind prog w) d (stored kvs k v) → Heap.SameBut d s.heap h' → Q () { s with heap := h' }) : wpAny (model prog w) A (dictPut d ((mixKind prog w).hash k) key v) Q E s := by
  obtain ⟨o, es, ep, ho, hc, hd, hk, hp, hn⟩ := hm
  have ez : es.size ≤ sizeLine := by
    have := hp.length
    rw [Array.length_toList] at this
    omega
  have same : (es.findIdx? fun e => (mixKind prog w).is k e.key) = kvs.findIdx? fun kv => decide (kv.1 = k) := by
    rw [← hp.findIdx k]
    obtain ⟨l⟩ := es
    simp
  unfold dictPut
  refine wpAny_bind (wpAny_dictFind_of hkey ho hd hk ?_)
  cases at_ : es.findIdx? fun e => (mixKind prog w).is k e.key with
  | some i =>
    have yes := any_of_findIdx_some (same ▸ at_)
    refine wpAny_updateDict ho hd (q _ ⟨_, _, ep, Heap.get?_update_self _ ho (Obj.isFreed_of_dict (Obj.data_mapDict hd _)), hc.mapDict _, Obj.data_mapDict hd _, hk.modify _ _, ?_, ?_⟩ (Heap.SameBut.update ..))
    · rw [stored, if_pos yes]
      have at2 : (es.toList.findIdx? fun e => (mixKind prog w).is k e.key) = some i := by
        rw [← at_]
        obtain ⟨l⟩ := es
        simp
      have md := hp.modify hn at2 v
      obtain ⟨l⟩ := es
      simpa using md
    · rw [stored, if_pos yes, keys_map_store]
      exact hn
  | none =>
    have out : k ∉ kvs.map (·.1) := not_mem_of_findIdx_none (same ▸ at_)
    have no : ¬ (kvs.any fun kv => decide (kv.1 = k)) = true := fun z => by
      obtain ⟨kv, h1, h2⟩ := List.any_eq_true.mp z
      exact out (List.mem_map.mpr ⟨kv, h1, of_decide_eq_true h2⟩)
    refine wpAny_updateDictKeys (hz := ez) ho hd (q _ ⟨_, _, ep + 1, Heap.get?_update_self _ ho (Obj.isFreed_of_dict (Obj.data_mapDictKeys hd _)), hc.mapDictKeys _, Obj.data_mapDictKeys hd _, hk.push hkey _, ?_, ?_⟩ (Heap.SameBut.update ..))
    · rw [stored, if_neg no]
      have ap := hp.append hkey ((mixKind prog w).hash k) v
      obtain ⟨l⟩ := es
      simpa using ap
    · rw [stored, if_neg no, List.map_append, List.nodup_append]
      refine ⟨hn, by simp, fun a ha b hb => ?_⟩
      have : b = k := by simpa using hb
      subst this
      exact fun z => out (z ▸ ha)
/-- all entries of o go to d -/
theorem merge_at {d o : Addr} {kvs more : List (Key × Value)} {Q : Unit → Shared → Prop} (hdo : d ≠ o) (hoS : (o == sysModules) = false) (hd : s.heap.DictOf (mixKind prog w) d kvs) (ho : s.heap.DictOf (mixKind prog w) o more) (hz : kvs.length + more.length ≤ sizeLine)
    (q : ∀ h', h'.DictOf (mixKind prog w) d (merged kvs more) → Heap.SameBut d s.heap h' → Q () { s with heap := h' }) : wpAny (model prog w) A (mergeMapping d (.ref o) false) Q E s := by
  obtain ⟨oo, eo, epo, hoo, hco, hdo', hko, hpo, hno⟩ := id ho
  obtain ⟨od, ed, epd, hod, hcd, hdd, hkd, hpd, hnd⟩ := id hd
  have hT := ho.typeIs
  have hlen : more.length = eo.size := by
    rw [← hpo.length]
    simp
  have noref : ∀ e ∈ eo.toList, ∀ a, e.key ≠ .ref a := fun e he a z => by
    obtain ⟨k, h1, _⟩ := hko e (by simpa using he)
    have h1 : keyIs k e.key = true := h1
    rcases keyIs_shape h1 with ⟨i, t, rfl, e1⟩ | ⟨x, t, rfl, e1⟩ <;> (rw [e1] at z; cases z)
  have loop : wpAny (model prog w) A (do
      let size := (← dictEntries o).size
      let epoch ← dictEpoch o
      for i in List.range size do
        let some e := (← dictEntries o)[i]? | unsupported "dict.changed-during-merge"
        holding [e.key, e.val] do
          if false = true then
            if (← dictFind d e.key e.hash).isSome then rule "dict.merge.duplicate-key"; raiseNew (← newExc (.type "KeyError") [e.key])
          dictPut d e.hash e.key e.val
        if (← dictEpoch o) != epoch then unsupported "dict.changed-during-merge") Q E s := by
    refine wpAny_bind (wpAny_dictEntries hoo hdo' ?_)
    refine wpAny_bind (wpAny_dictEpoch hoo hdo' ?_)
    refine wpAny_bind ?_
    refine wpAny_forIn_list _ (fun rest _ s' => ∃ h' i, s' = { s with heap := h' } ∧ rest = (List.range eo.size).drop i ∧ i ≤ eo.size ∧ h'.DictOf (mixKind prog w) d (merged kvs (more.take i)) ∧ h'.get? o = some oo ∧ Heap.SameBut d s.heap h') _ ?_ ?_ _ _ ⟨s.heap, 0, rfl, rfl, Nat.zero_le _, hd, hoo, Heap.SameBut.refl _ _⟩
    · rintro x rest b s' ⟨h', i, rfl, hr, hi, hd', hoo', hs'⟩
      have hlt : i < eo.size := by
        rcases Nat.lt_or_ge i eo.size with h | h
        · exact h
        · rw [List.drop_eq_nil_of_le (by simpa using h)] at hr
          cases hr
      have hx : x = i ∧ rest = (List.range eo.size).drop (i + 1) := by
        rw [List.drop_eq_getElem_cons (by simpa using hlt)] at hr
        injection hr with h1 h2
        exact ⟨by simpa using h1, h2⟩
      obtain ⟨rfl, hrest⟩ := hx
      refine wpAny_bind (wpAny_dictEntries hoo' hdo' ?_)
      rw [Array.getElem?_eq_getElem hlt]
      obtain ⟨⟨k, v⟩, hkv⟩ : ∃ kv, more[x]? = some kv := ⟨more[x]'(by omega), List.getElem?_eq_getElem _⟩
      obtain ⟨hkey, hval⟩ := hpo.get? (e := eo[x]) (by simp [hlt]) hkv
      obtain ⟨k', hkey', hhash⟩ := hko eo[x] (Array.getElem_mem hlt)
      obtain rfl : k' = k := (mixKind prog w).inj _ _ _ hkey' hkey
      have hmx : (merged kvs (more.take x)).length ≤ sizeLine := by
        have e1 := merged_length_le kvs (more.take x)
        have e2 : (more.take x).length ≤ more.length := by rw [List.length_take]; omega
        omega
      refine wpAny_bind (wpAny_holding ?_)
      rw [if_neg Bool.false_ne_true]
      rw [hhash]
      refine put_one hkey hd' hmx fun h'' hd'' hs'' => ?_
      have hoo'' : h''.get? o = some oo := (hs''.2 o (Ne.symm hdo)).trans hoo'
      refine wpAny_bind (wpAny_dictEpoch hoo'' hdo' ?_)
      rw [if_neg (by simp)]
      refine wpAny_pure ⟨h'', x + 1, rfl, hrest, hlt, ?_, hoo'', hs'.trans hs''⟩
      rw [merged_take_succ kvs more x (k', v) hkv, ← hval]
      exact hd''
    · rintro b s' ⟨h', i, rfl, hr, hi, hd', hoo', hs'⟩
      have hin : i = eo.size := by
        rcases Nat.lt_or_ge i eo.size with h | h
        · rw [List.drop_eq_getElem_cons (by simpa using h)] at hr
          cases hr
        · omega
      refine wpAny_pure (q h' ?_ hs')
      rw [hin, ← hlen, List.take_length] at hd'
      exact hd'
  unfold mergeMapping
  refine wpAny_bind (m := isInstance (.ref o) (.type "dict")) (wpAny_isInstance (b := true) hT PySem.F.sub_dict_dict ?_)
  rw [if_pos rfl]
  refine wpAny_bind (wpAny_specialOf hT PySem.F.slot_dict_iter.lookup (wpAny_bind (wpAny_pure ?_)))
  rw [show (some (Value.builtin "dict.__iter__") == some (Value.builtin "dict.__iter__")) = true by simp]
  dsimp only
  rw [if_neg (by rw [hoS]; exact Bool.false_ne_true)]
  refine wpAny_bind (wpAny_dictEntries hod hdd ?_)
  split
  · refine wpAny_bind (wpAny_dictEntries hoo hdo' ?_)
    refine wpAny_bind ?_
    rw [← Array.forIn_toList]
    refine wpAny_forIn_list _ (fun rest _ s' => s' = s ∧ ∀ e ∈ rest, ∀ a, e.key ≠ .ref a) _ ?_ ?_ _ _ ⟨rfl, noref⟩
    · rintro x rest b s' ⟨rfl, hx⟩
      have hk := hx x List.mem_cons_self
      split
      · rename_i a e
        exact absurd e (hk a)
      · exact wpAny_pure ⟨rfl, fun e he => hx e (List.mem_cons_of_mem _ he)⟩
    · rintro b s' ⟨rfl, _⟩
      exact loop
  · exact loop
end
/-! ### over the abstract heap -/
section
variable {X : Cx} {A : Around} {E : Value → Shared → Prop} {pins : List (Addr × Obj)} {σ : L2.St} {H : Hp} {s : Shared}
theorem d_merge {D a : Addr} {ks ls : List (Key × V)} {Q : Unit → Shared → Prop} (I : Inv X pins σ H s) (hD : H D = some (.dK ks)) (ha : Rd H a (.dK ls)) (ne : D ≠ a) (hz : ks.length + ls.length ≤ sizeLine)
    (h : ∀ s', Inv X pins σ (upd H D (.dK (mergeK ks ls))) s' → Q () s') : wpAny (model X.prog X.w) A (mergeMapping D (.ref a) false) Q E s := by
  obtain ⟨z, hd, vs, rel, dd⟩ := dk_of I.hok hD
  obtain ⟨z2, hd2, vs2, rel2, dd2⟩ := dk_rd I.hok ha
  refine merge_at ne hd2 dd dd2 (by rw [← rel.length, ← rel2.length]; exact hz) fun h' dd' hs => h _ ?_
  have he : ∃ q, h'.get? D = some q := let ⟨q, _, _, hq, _⟩ := dd'; ⟨q, hq⟩
  exact d_write I (by rw [hD]; exact True.intro) hs he (dk_new (by have := length_mergeK ls ks; omega) hd (rel2.merge rel) dd')
end
section
variable {X : Cx} {d k v : Expr} {pos : Pos} {td tk tv : TE}
/-- {**d, k: v} -/
def tDStar (td tk tv : TE) : TE := fun σ H Q => ∀ D, H D = none → td σ (upd H D (.dK [])) fun x H1 => ∃ a ls, x = .ref a ∧ Rd H1 a (.dK ls) ∧ D ≠ a ∧ H1 D = some (.dK []) ∧ ls.length < 1000000 ∧
  ∀ S, H1 S = none → S ≠ D → tk σ (upd (upd H1 D (.dK (mergeK [] ls))) S (.dK [])) fun y H2 => tv σ H2 fun z H3 => ∃ kk, y = L2.kV kk ∧ H3 S = some (.dK []) ∧ H3 D = some (.dK (mergeK [] ls)) ∧
    Q (.ref D) (upd (upd H3 S (.dK [(kk, z)])) D (.dK (mergeK (mergeK [] ls) [(kk, z)])))
theorem pe_dstar (hd : PE X d td) (hk : PE X k tk) (hv : PE X v tv) : PE X (.Dict [none, some k] [d, v] pos) (tDStar td tk tv) := by
  refine ⟨fun pins s σ H Q I h => ?_⟩
  rw [arm_eval_Dict]
  refine wpAny_bind (wpAny_standAt ?_)
  show wpAny _ _ (dictDisplay [(none, do let x ← eval d X.env; standAt pos; pure x), (some (eval k X.env), do let x ← eval v X.env; standAt pos; pure x)]) _ _ _
  unfold dictDisplay
  simp only [List.forIn_cons, List.forIn_nil, pure_bind, bind_assoc]
  have hn := I.hok.fresh (Nat.le_refl s.heap.objs.size)
  have I1 := I.laid (a := s.heap.objs.size) (o := .dK []) (h' := s.heap.push { cls := .type "dict", data := .dict #[] }) (t' := s.toks) (fun _ _ q => Heap.get?_push_of_some _ q) (Nat.le_refl _) (dk_empty s.heap I.big)
  refine wpAny_bind (wpAny_pure ?_)
  refine wpAny_bind ?_
  show wpAny _ _ (alloc _ >>= _) _ _ _
  refine wpAny_bind (wpAny_alloc ?_)
  refine wpAny_bind (wpAny_holding ?_)
  refine wpAny_bind (thn (hd.run pins _ σ _ _ I1 (h _ hn)) fun u s2 ⟨x, H1, I2, rx, a, ls, ex, ha, ne, hD, hl, q⟩ => wpAny_bind (wpAny_standAt (wpAny_pure ?_)))
  subst ex
  obtain rfl : u = Value.ref a := rx
  have hlz : ls.length ≤ sizeLine := by rw [sizeLine_eq]; omega
  refine wpAny_bind (wpAny_onRaise (wpAny_tryCatch (wpAny_onRaise (wpAny_holding (d_merge I2 hD ha ne (by simpa using hlz) fun s3 I3 => ?_)))))
  refine wpAny_pure ?_
  simp only [List.nil_append, List.length_cons, List.length_nil, pure_bind, List.isEmpty_cons, Bool.false_eq_true, if_false, bind_assoc, show ((0 + 1 == 17) = true) = False from by decide]
  refine wpAny_bind (wpAny_holding ?_)
  have hn2 := I3.hok.fresh (Nat.le_refl s3.heap.objs.size)
  have hn1 : H1 s3.heap.objs.size = none := by
    by_cases z : s3.heap.objs.size = s.heap.objs.size
    · rw [z, upd_same] at hn2
      cases hn2
    · rwa [upd_ne z] at hn2
  have hSD : s3.heap.objs.size ≠ s.heap.objs.size := fun z => by
    rw [z, upd_same] at hn2
    cases hn2
  have I4 := I3.laid (a := s3.heap.objs.size) (o := .dK []) (h' := s3.heap.push { cls := .type "dict", data := .dict #[] }) (t' := s3.toks) (fun _ _ q => Heap.get?_push_of_some _ q) (Nat.le_refl _) (dk_empty s3.heap I3.big)
  refine wpAny_subDict (knd := mixKind X.prog X.w) (Nat.le_of_ble_eq_true rfl) (evalPairs_cons (thn (hk.run pins _ σ _ _ I4 (q _ hn1 hSD)) fun u5 s5 ⟨y, H5, I5, ry, q5⟩ => wpAny_bind (thn (hv.run pins _ σ _ _ I5 q5) fun u6 s6 ⟨z, H6, I6, rz, kk, ey, hS, hD6, q6⟩ => wpAny_bind (wpAny_standAt (wpAny_pure (evalPairs_nil ?_))))))
  subst ey
  obtain ⟨zS, hSm, vs0, r0, dd⟩ := dk_of I6.hok hS
  cases r0
  refine ⟨[(kk, u6)], ⟨kV_is ry, rfl, trivial⟩, dd, fun h' dd' hs => ?_⟩
  have he : ∃ q, h'.get? s3.heap.objs.size = some q := let ⟨q, _, _, hq, _⟩ := dd'; ⟨q, hq⟩
  have I7 : Inv X pins σ (upd H6 s3.heap.objs.size (.dK [(kk, z)])) { s6 with heap := h', toks := s6.toks + [(u5, u6)].length } := d_write I6 (by rw [hS]; exact True.intro) hs he (dk_new (by rw [sizeLine_eq]; exact Nat.le_of_ble_eq_true rfl) hSm (.cons ⟨rfl, rz⟩ .nil) dd')
  refine wpAny_bind (wpAny_onRaise (wpAny_holding (d_merge (ks := mergeK [] ls) (ls := [(kk, z)]) I7 (by rw [upd_ne (Ne.symm hSD)]; exact hD6) (.inl upd_same) (Ne.symm hSD) ?_ fun s8 I8 => wpAny_pure ⟨.ref s.heap.objs.size, _, I8, rfl, q6⟩)))
  have := length_mergeK ls []
  rw [sizeLine_eq]
  simp only [List.length_nil, List.length_cons] at this ⊢
  omega
end
section
variable {X : Cx} {K : PySem.W.Frag} {mg : Glob} {Γ : Ent} {W : WX} {d k v o e : Expr} {pos : Pos} {md mk mv mo : EDen}
def eDStar (md mk mv : EDen) : EDen := fun ρ st => (md ρ st).bind fun x st1 => match x with
  | .dct ls => if ls.length < 1000000 then (mk ρ st1).bind fun y st2 => (mv ρ st2).bind fun z st3 => match keyOf y with
    | some kk => if isLoc z = false then .ok (.dct (putD (mergeD [] ls) kk z)) st3 else .bad
    | none => .bad else .bad
  | _ => .bad
/-- from H to H' though what stands at new places is changed -/
theorem Stp.hop {F F1 H H0 H1 H1' : Hp} {L L1 : List Addr} (s : Stp F L H0 F1 L1 H1) (h0 : ∀ a u, H a = some u → H0 a = some u) (h1 : ∀ a u, H a = some u → H1 a = some u → H1' a = some u) : Stp F L H F1 L1 H1' :=
  ⟨s.ex, s.pre, fun a u h n => by
    obtain ⟨g1, g2, g3⟩ := s.kp a u (h0 a u h) n
    exact ⟨h1 a u h g1, g2, g3⟩⟩
theorem mergeK_one (ks : List (Key × V)) (kk : Key) (z : V) : mergeK ks [(kk, z)] = putK ks kk z := rfl
theorem g_dstar (hd : PE X d (teR K mg Γ W md)) (hk : PE X k (teV K mg Γ W mk)) (hv : PE X v (teV K mg Γ W mv)) : PE X (.Dict [none, some k] [d, v] pos) (teO K mg Γ W (eDStar md mk mv)) := by
  refine pe_imp (pe_dstar hd hk hv) fun σ H Q ⟨F, L, ρ, st, rl, q⟩ D nD => ?_
  have s0 : Stp F L H F L (upd H D (.dK [])) := Stp.fresh nD
  have o0 := rl.sto.fresh (o := .dK []) nD
  have rl0 := rl.step s0 o0
  have h0 : ∀ a u, H a = some u → upd H D (.dK []) a = some u := fun a u h => by
    rw [upd_ne (ne_of_none h nD)]
    exact h
  refine ⟨F, L, ρ, st, rl0, ?_⟩
  unfold eDStar at q
  cases hm : md ρ st with
  | bad => rw [hm] at q; exact q.elim
  | exc c fs st' => rw [hm] at q; exact Post.step q s0
  | ok x st1 =>
    rw [hm] at q
    dsimp only [RC.bind_ok] at q
    intro F1 L1 H1 s1 o1 w kw
    split at q
    · rename_i ls
      split at q
      · rename_i hlen
        have rl1 := rl0.step s1 o1
        obtain ⟨hD1, nF1, nL1⟩ := s1.kp D _ upd_same (rl.newL nD)
        have nF1 : F1 D = none := nF1.trans (rl.newF nD)
        obtain ⟨a, vs, rfl, ha, hr⟩ := kR.dct rl1 kw
        have ne : D ≠ a := by
          rintro rfl
          rcases kw with kw | ⟨i, h1, h2⟩
          · rcases kw with ⟨_, _, z, _⟩ | ⟨a', vs', z, g1, _⟩
            · cases z
            · cases z
              rcases g1 with g1 | ⟨_, g1⟩ <;> (rw [nF1] at g1; cases g1)
          · obtain ⟨a', g1, _, _, _, g5⟩ := rl.so i _ h1
            rw [h2] at g1
            cases g1
            obtain ⟨u, hu⟩ := g5.there
            rw [nD] at hu
            cases hu
        refine ⟨a, vs, rfl, ha, ne, hD1, by rw [← hr.length]; exact hlen, fun S nS hSD => ?_⟩
        have sA : Stp F L H F1 L1 (upd (upd H1 D (.dK (mergeK [] vs))) S (.dK [])) := s1.hop h0 fun b u hb h1 => by
          rw [upd_ne (ne_of_none h1 nS), upd_ne (ne_of_none hb nD)]
          exact h1
        have nFS : F1 S = none := o1.ex.free nS
        have nLS : S ∉ L1 := rl1.newL nS
        have oA : Sto K mg F1 L1 (upd (upd H1 D (.dK (mergeK [] vs))) S (.dK [])) st1 := (o1.updN nF1 nL1).updN nFS nLS
        have rlA := rl.step sA oA
        refine ⟨F1, L1, ρ, st1, rlA, ?_⟩
        cases hm2 : mk ρ st1 with
        | bad => rw [hm2] at q; exact q.elim
        | exc c fs st' => rw [hm2] at q; exact Post.step q sA
        | ok y st2 =>
          rw [hm2] at q
          dsimp only [RC.bind_ok] at q
          intro F2 L2 H2 s2 o2 wy ky
          have sB := sA.trans s2
          have rl2 := rlA.step s2 o2
          refine ⟨F2, L2, ρ, st2, rl2, ?_⟩
          cases hm3 : mv ρ st2 with
          | bad => rw [hm3] at q; exact q.elim
          | exc c fs st' => rw [hm3] at q; exact Post.step q sB
          | ok z st3 =>
            rw [hm3] at q
            dsimp only [RC.bind_ok] at q
            intro F3 L3 H3 s3 o3 wz kz
            have sC := s2.trans s3
            have sD := sB.trans s3
            split at q
            · rename_i kk hkk
              split at q
              · rename_i hl
                obtain ⟨a1, a2, a3⟩ := sC.kp S _ upd_same nLS
                obtain ⟨b1, b2, b3⟩ := sC.kp D (.dK (mergeK [] vs)) (by rw [upd_ne (Ne.symm hSD), upd_same]) nL1
                have nF3 : F3 D = none := b2.trans nF1
                have nF3S : F3 S = none := a2.trans nFS
                refine ⟨kk, keyOf_v hkk ky, a1, b1, ?_⟩
                have sE : Stp F L H F3 L3 (upd (upd H3 S (.dK [(kk, wz)])) D (.dK (mergeK (mergeK [] vs) [(kk, wz)]))) := sD.hop (fun _ _ h => h) fun b u hb h1 => by
                  have hbS : b ≠ S := fun z => by
                    subst z
                    have : H1 b = some u := (s1.kp b u (h0 b u hb) (fun hm => by
                      obtain ⟨n, hn, e⟩ := List.getElem_of_mem hm
                      exact nLS (s1.mem hm))).1
                    rw [nS] at this
                    cases this
                  rw [upd_ne (ne_of_none hb nD), upd_ne hbS]
                  exact h1
                refine q F3 L3 _ sE ((o3.updN nF3S a3).updN nF3 b3) _ ⟨D, rfl, nD, nF3, b3, _, upd_same, ?_⟩
                rw [mergeK_one]
                exact RepK.put (RepK.merge (kvs := []) (vs := []) (RepK.mono (s2.ex.trans s3.ex) _ hr) rfl) kk (VRep.flat kz hl)
              · exact q.elim
            · exact q.elim
      · exact q.elim
    · exact q.elim
/-- o.f op= e, o an object of the store -/
def sAttAug (f : Str) (cs : List Str) (mo : EDen) (g : Op2) (mv : EDen) : SDen := fun ρ st => (mo ρ st).s ρ fun y st1 => match y with
  | .loc n => (match st1[n]? with
    | some (.ins c fs) => if c ∈ cs then (match fs.lookup f with
      | some x => (mv ρ st1).s ρ fun z st2 => (g x z st2).s ρ fun r st3 => (match st3[n]? with
        | some (.ins c' fs') => if c' = c ∧ isLoc r = false ∧ fs'.length < 999 then .nx ρ (st3.set n (.ins c (putFD f r fs'))) else .bad
        | _ => .bad)
      | none => .bad) else .bad
    | _ => .bad)
  | _ => .bad
theorem putF_len (f : Str) (v : V) : ∀ fs : List (Str × V), (putF f v fs).length ≤ fs.length + 1
  | [] => by simp [putF]
  | (g, x) :: r => by
    unfold putF
    split
    · simp
    · have := putF_len f v r
      simp only [List.length_cons]
      omega
theorem s_attAug {fn : Str} {cs : List Str} {pos' : Pos} {op : Operator} {r : R2} {g : Op2} (hK : X.K = K) (A : AttOk K mg fn cs) (hop : OpR X (inplaceOp op) r) (hsem : Sem2 kV K mg g r) (ho : PE X o (teV K mg Γ W mo)) (hv : PE X e (teV K mg Γ W mv)) :
    PS X (.AugAssign (.Attribute o fn pos') op e pos) (tsG K mg Γ W (sAttAug fn cs mo g mv)) := by
  refine ps_imp (ps_fldaug ho hv (fun pins s σ H x y u v Q I rx ry h => hop pins s σ H x y u v Q I rx ry h)) fun D' σ H ⟨F, L, ρ, st, rl, q⟩ => ⟨F, L, ρ, st, rl, (SPost.s q rl).imp fun F1 L1 H1 st1 y s1 o1 q1 u ku => ?_⟩
  have rl1 := rl.step s1 o1
  split at q1
  · rename_i n
    split at q1
    · rename_i c fs e1
      split at q1
      · rename_i hc
        split at q1
        · rename_i x hx
          obtain ⟨a, h1, rfl⟩ := ku.loc
          obtain ⟨nF, C, dx, fv, h2, h3, h4⟩ := o1.at_ n a _ h1 e1
          obtain ⟨cl, na⟩ := A c hc C h2
          obtain ⟨vx, lx, rx⟩ := h4.look hx
          refine ⟨a, C, dx, fv, vx, rfl, h3, by rw [hK]; exact cl, by rw [hK]; exact na, lx, F1, L1, ρ, st1, rl1, (SPost.s q1 rl1).imp fun F2 L2 H2 st2 z s2 o2 q2 w kw => ?_⟩
          have rl2 := rl1.step s2 o2
          refine hsem Γ W F2 L2 σ H2 ρ st2 x z vx w _ rl2 (.inl (.inr (Rep.mono s2.ex _ rx))) (.inl kw) ((SPost.s q2 rl2).imp fun F3 L3 H3 st3 b s3 o3 q3 wz kz => ?_)
          have rl3 := rl2.step s3 o3
          split at q3
          · rename_i c' fs' e3
            split at q3
            · rename_i hh
              obtain ⟨rfl, hb, hlen⟩ := hh
              have h1' : L3[n]? = some a := by
                obtain ⟨M, eM⟩ := (s2.trans s3).pre
                rw [eM, List.getElem?_append_left (List.getElem?_eq_some_iff.mp h1).1]
                exact h1
              obtain ⟨nF3, C3, dx3, fv3, g2, g3, g4⟩ := o3.at_ n a _ h1' e3
              rw [h2] at g2
              cases g2
              have ru : Rep K mg F3 b wz := VRep.flat kz hb
              refine ⟨dx3, fv3, g3, by rw [← g4.length]; omega, ?_⟩
              have o4 := o3.put (d := .ins c' (putFD fn b fs')) (u := .ins C dx3 (putF fn wz fv3)) h1' fun H' h => ⟨C, dx3, _, h2, h, g4.put ru fn⟩
              exact q3 F3 L3 σ _ (rl3.step (Stp.put (List.mem_of_getElem? h1')) o4)
            · exact q3.elim
          · exact q3.elim
        · exact q1.elim
      · exact q1.elim
    · exact q1.elim
  · exact q1.elim
end
end Gh
/-! Gh26: walks over dicts that stand still. -/
namespace Gh
open L2 PyProof.Rows PySem.Spec PySem
/-- what stands at d is held: in the still part u, in the heap h -/
abbrev Ent.pin (Γ : Ent) (d : Addr) (u h : HO) : Ent := { Γ with F0 := upd Γ.F0 d u, H0 := upd Γ.H0 d h }
/-- u in the still part, h in the heap: the same, or a locked dict -/
def Hd (u h : HO) : Prop := h = u ∨ ∃ ob kv, u = .dK kv ∧ h = .frz ob u
section
variable {K : PySem.W.Frag} {mg : Glob} {Γ : Ent} {F F' H H' : Hp} {L L' : List Addr} {σ σ' : St} {ρ ρ' : REnv} {st st' : Store} {d : Addr} {u h h0 : HO}
theorem Rl.notL (r : Rl K mg Γ F L σ H ρ st) (hF : F d = some u) : d ∉ L := fun hm => by
  have := (r.sto.mem hm).1
  rw [hF] at this
  cases this
theorem Rl.notL0 (r : Rl K mg Γ F L σ H ρ st) (hF : F d = some u) : d ∉ Γ.L0 := fun hm => r.notL hF (r.stp.mem hm)
theorem Rl.pin (r : Rl K mg Γ F L σ H ρ st) (hF : F d = some u) (hh : Hd u h) : Rl K mg (Γ.pin d u h) F L σ (upd H d h) ρ st := by
  have nL := r.notL hF
  refine ⟨⟨fun b o q => ?_, r.sto.nd, r.sto.len, fun n b x h1 h2 => ?_⟩, ⟨fun b o q => ?_, r.stp.pre, fun b o q n => ?_⟩, r.sl, fun i x e => ?_, r.sd, r.sx, r.len⟩
  · by_cases hb : b = d
    · subst hb
      rw [hF] at q
      cases q
      rw [upd_same]
      rcases hh with rfl | ⟨ob, kv, e1, e2⟩
      · exact .inl rfl
      · exact .inr ⟨ob, kv, e1, by rw [e2]⟩
    · rw [upd_ne hb]
      exact r.sto.ex b o q
  · obtain ⟨g1, g2⟩ := r.sto.at_ n b x h1 h2
    have hb : b ≠ d := fun z => nL (z ▸ List.mem_of_getElem? h1)
    exact ⟨g1, g2.mono (Ex.refl F) fun w z => by rw [upd_ne hb]; exact z⟩
  · by_cases hb : b = d
    · subst hb
      have q : upd Γ.F0 b u b = some o := q
      rw [upd_same] at q
      rw [hF, q]
    · have q : upd Γ.F0 d u b = some o := q
      rw [upd_ne hb] at q
      exact r.stp.ex b o q
  · by_cases hb : b = d
    · subst hb
      have q : upd Γ.H0 b h b = some o := q
      rw [upd_same] at q
      refine ⟨by rw [upd_same, q], ?_, nL⟩
      show F b = upd Γ.F0 b u b
      rw [upd_same, hF]
    · have q : upd Γ.H0 d h b = some o := q
      rw [upd_ne hb] at q
      obtain ⟨g1, g2, g3⟩ := r.stp.kp b o q n
      refine ⟨by rw [upd_ne hb]; exact g1, ?_, g3⟩
      show F b = upd Γ.F0 d u b
      rw [upd_ne hb]
      exact g2
  · obtain ⟨a, h1, h2, h3, h4, h5⟩ := r.so i x e
    have hb : a ≠ d := fun z => by rw [z, hF] at h2; cases h2
    refine ⟨a, h1, h2, h3, ?_, h5.mono (Ex.refl F) fun w z => by rw [upd_ne hb]; exact z⟩
    show upd Γ.H0 d h a = none
    rw [upd_ne hb]
    exact h4
/-- what is held stays -/
theorem Rl.held (r0 : d ∉ Γ.L0) (r : Rl K mg (Γ.pin d u h) F' L' σ' H' ρ' st') : H' d = some h ∧ F' d = some u ∧ d ∉ L' := by
  have z : (Γ.pin d u h).H0 d = some h := upd_same
  obtain ⟨g1, g2, g3⟩ := r.stp.kp d h z r0
  refine ⟨g1, ?_, g3⟩
  rw [g2]
  exact upd_same
/-- back again: at d stands h0, as it did -/
theorem Rl.unpin (r0 : Rl K mg Γ F L σ H ρ st) (hF : F d = some u) (hH : H d = some h0) (hh : Hd u h0) (r : Rl K mg (Γ.pin d u h) F' L' σ' H' ρ' st') : Rl K mg Γ F' L' σ' (upd H' d h0) ρ' st' := by
  obtain ⟨g1, g2, g3⟩ := Rl.held (r0.notL0 hF) r
  refine ⟨⟨fun b o q => ?_, r.sto.nd, r.sto.len, fun n b x h1 h2 => ?_⟩, ⟨fun b o q => ?_, r.stp.pre, fun b o q n => ?_⟩, r.sl, fun i x e => ?_, r.sd, r.sx, r.len⟩
  · by_cases hb : b = d
    · subst hb
      rw [g2] at q
      cases q
      rw [upd_same]
      rcases hh with rfl | ⟨ob, kv, e1, e2⟩
      · exact .inl rfl
      · exact .inr ⟨ob, kv, e1, by rw [e2]⟩
    · rw [upd_ne hb]
      exact r.sto.ex b o q
  · obtain ⟨k1, k2⟩ := r.sto.at_ n b x h1 h2
    have hb : b ≠ d := fun z => g3 (z ▸ List.mem_of_getElem? h1)
    exact ⟨k1, k2.mono (Ex.refl F') fun w z => by rw [upd_ne hb]; exact z⟩
  · by_cases hb : b = d
    · subst hb
      have := r0.stp.ex b o q
      rw [hF] at this
      rw [g2, this]
    · refine r.stp.ex b o ?_
      show upd Γ.F0 d u b = some o
      rw [upd_ne hb]
      exact q
  · by_cases hb : b = d
    · subst hb
      obtain ⟨k1, k2, _⟩ := r0.stp.kp b o q n
      rw [hH] at k1
      refine ⟨by rw [upd_same, k1], ?_, g3⟩
      rw [g2, ← k2, hF]
    · obtain ⟨k1, k2, k3⟩ := r.stp.kp b o (show upd Γ.H0 d h b = some o by rw [upd_ne hb]; exact q) n
      refine ⟨by rw [upd_ne hb]; exact k1, ?_, k3⟩
      rw [k2]
      show upd Γ.F0 d u b = Γ.F0 b
      rw [upd_ne hb]
  · obtain ⟨a, h1, h2, h3, h4, h5⟩ := r.so i x e
    have hb : a ≠ d := fun z => by rw [z, g2] at h2; cases h2
    have h4 : upd Γ.H0 d h a = none := h4
    rw [upd_ne hb] at h4
    exact ⟨a, h1, h2, h3, h4, h5.mono (Ex.refl F') fun w z => by rw [upd_ne hb]; exact z⟩
/-- the same for steps -/
theorem Stp.unpin (o : Sto K mg F L H st) (hF : F d = some u) (hH : H d = some h0) (hh : Hd u h0) (s : Stp F L (upd H d h) F' L' H') (o' : Sto K mg F' L' H' st') : H' d = some h ∧ Stp F L H F' L' (upd H' d h0) ∧ Sto K mg F' L' (upd H' d h0) st' := by
  have nL : d ∉ L := fun hm => by
    have := (o.mem hm).1
    rw [hF] at this
    cases this
  obtain ⟨g1, g2, g3⟩ := s.kp d h upd_same nL
  rw [hF] at g2
  refine ⟨g1, ⟨s.ex, s.pre, fun b w q n => ?_⟩, fun b w q => ?_, o'.nd, o'.len, fun n b x h1 h2 => ?_⟩
  · by_cases hb : b = d
    · subst hb
      rw [hH] at q
      cases q
      exact ⟨upd_same, by rw [g2, hF], g3⟩
    · obtain ⟨k1, k2, k3⟩ := s.kp b w (by rw [upd_ne hb]; exact q) n
      exact ⟨by rw [upd_ne hb]; exact k1, k2, k3⟩
  · by_cases hb : b = d
    · subst hb
      rw [g2] at q
      cases q
      rw [upd_same]
      rcases hh with rfl | ⟨ob, kv, e1, e2⟩
      · exact .inl rfl
      · exact .inr ⟨ob, kv, e1, by rw [e2]⟩
    · rw [upd_ne hb]
      exact o'.ex b w q
  · obtain ⟨k1, k2⟩ := o'.at_ n b x h1 h2
    have hb : b ≠ d := fun z => g3 (z ▸ List.mem_of_getElem? h1)
    exact ⟨k1, k2.mono (Ex.refl F') fun w z => by rw [upd_ne hb]; exact z⟩
end
/-! ### known expressions: what they yield is told ahead -/
abbrev KnR := St → Hp → V → Prop
structure Kn (X : Cx) (K : PySem.W.Frag) (mg : Glob) (e : Expr) (m : EDen) (r : KnR) : Prop where
  pe : PE X e (fun σ H Q => ∃ v, r σ H v ∧ Q v H)
  at_ : ∀ {Γ : Ent} {F H : Hp} {L : List Addr} {σ : St} {ρ : REnv} {st st' : Store} {d : D}, Rl K mg Γ F L σ H ρ st → m ρ st = .ok d st' → st' = st ∧ ∃ v, r σ H v ∧ VRep K mg L F d v
  lock : ∀ {σ : St} {H : Hp} {v : V} {a : Addr} {kv : List (Key × V)} {o : Obj}, r σ H v → H a = some (.dK kv) → r σ (upd H a (.frz o (.dK kv))) v
section
variable {X : Cx} {K : PySem.W.Frag} {mg : Glob} {Γ : Ent} {W : WX} {e o tg iter : Expr} {mo m : EDen} {pos apos cpos : Pos} {r : KnR}
theorem kn_var (i : Nat) {x : Str} (hN : X.N[i]? = some x := by rfl) (hv : Vis X.env.scope x := by first | exact Or.inl rfl | exact Or.inr (Or.inl rfl) | exact Or.inr (Or.inr rfl)) (hd : (x == ("__debug__" : Str)) = false := by decide)
    (hcd : (x == ("__classdict__" : Str)) = false := by decide) : Kn X K mg (.Name x pos) (eVar i) (fun σ _ v => σ[i]? = some (some v)) := by
  refine ⟨pe_imp (pe_var hN hv hd hcd) fun σ H Q ⟨v, h1, h2⟩ => ⟨v, h1, h2⟩, fun rl hm => ?_, fun h _ => h⟩
  unfold eVar at hm
  split at hm
  · rename_i d' e'
    cases hm
    exact ⟨rfl, rl.sl i _ e'⟩
  · cases hm
theorem kn_att {f : Str} {cs : List Str} (hK : X.K = K) (A : AttOk K mg f cs) (k : Kn X K mg o mo r) (hb : attributeBase o f X.env (eval o X.env) = eval o X.env := by rfl) :
    Kn X K mg (.Attribute o f pos) (e1 (eAttC f cs) mo) (fun σ H v => ∃ a C dx fs, r σ H (.ref a) ∧ H a = some (.ins C dx fs) ∧ Cls K C ∧ NoAttr K C f ∧ fs.lookup f = some v) := by
  refine ⟨pe_imp (pe_fld k.pe hb) fun σ H Q ⟨v, ⟨a, C, dx, fs, h1, h2, h3, h4, h5⟩, q⟩ => ⟨_, h1, a, C, dx, fs, v, rfl, h2, by rw [hK]; exact h3, by rw [hK]; exact h4, h5, q⟩, fun {Γ F H L σ ρ st st' d} rl hm => ?_, ?_⟩
  · unfold e1 at hm
    cases hmo : mo ρ st with
    | bad => rw [hmo] at hm; cases hm
    | exc c fs st2 => rw [hmo] at hm; cases hm
    | ok x st2 =>
      rw [hmo] at hm
      obtain ⟨rfl, v, hr, kv⟩ := k.at_ rl hmo
      have hm : eAttC f cs x st2 = .ok d st' := hm
      unfold eAttC at hm
      split at hm
      · rename_i c fs e
        split at hm
        · rename_i hc
          split at hm
          · rename_i y ey
            cases hm
            obtain ⟨a, C, dx, fv, rfl, h1, h2, h3⟩ := inst_at rl.sto kv (instOf_at e)
            obtain ⟨w, hw, rw'⟩ := h3.look ey
            obtain ⟨cl, na⟩ := A c hc C h1
            exact ⟨rfl, w, ⟨a, C, dx, fv, hr, h2, cl, na, hw⟩, .inr rw'⟩
          · cases hm
        · cases hm
      · cases hm
  · rintro σ H v b kv ob ⟨a, C, dx, fs, h1, h2, h3, h4, h5⟩ hb
    refine ⟨a, C, dx, fs, k.lock h1 hb, ?_, h3, h4, h5⟩
    rw [upd_ne (fun z => by rw [z, hb] at h2; cases h2)]
    exact h2
/-! ### walks over a dict -/
def keyD : Key → D
  | .inl i => .int i
  | .inr s => .str s
theorem rep_key {F : Hp} (k : Key) : Rep K mg F (keyD k) (L2.kV k) := by cases k <;> rfl
theorem RepK.get {F : Hp} : ∀ {ds : List (Key × D)} {vs : List (Key × V)} {i : Nat} {k : Key} {d : D}, RepK K mg F ds vs → ds[i]? = some (k, d) → ∃ v, vs[i]? = some (k, v) ∧ Rep K mg F d v
  | [], vs, i, k, d, h, e => by simp at e
  | (j, x) :: ds, vs, 0, k, d, h, e => by
    obtain ⟨v, r, rfl, h2, h3⟩ := h
    have e : (j, x) = (k, d) := by simpa using e
    cases e
    exact ⟨v, rfl, h2⟩
  | (j, x) :: ds, vs, i + 1, k, d, h, e => by
    obtain ⟨v, r, rfl, h2, h3⟩ := h
    obtain ⟨w, e1, e2⟩ := RepK.get (i := i) h3 (by simpa using e)
    exact ⟨w, by simpa using e1, e2⟩
/-- the turns of J yield f of the pairs, as long as the dict at d is locked -/
def DTurns (K : PySem.W.Frag) (mg : Glob) (J : It) (d : Addr) (o : Obj) (kv : List (Key × V)) (f : Key × D → D) : Prop := ∀ {F H : Hp} {L : List Addr} {st : Store} {kvs : List (Key × D)}, Sto K mg F L H st → RepK K mg F kvs kv → H d = some (.frz o (.dK kv)) →
  J.stop kvs.length H ∧ ∀ (i : Nat) (p : Key × D), kvs[i]? = some p → J.go i H ∧ ∀ x H2, J.yld i H x H2 → ∃ F2, Stp F L H F2 L H2 ∧ Sto K mg F2 L H2 st ∧ Rep K mg F2 (f p) x
structure DWk (X : Cx) (K : PySem.W.Frag) (mg : Glob) (tg iter : Expr) (r : KnR) (f : Key × D → D) : Prop where
  ex : ∃ (wi : TI) (J : Addr → Obj → List (Key × V) → It), PI X tg iter wi ∧ (∀ σ H (R : It → Hp → Prop) d o kv, r σ H (.ref d) → H d = some (.frz o (.dK kv)) → R (J d o kv) H → wi σ H R) ∧ ∀ d o kv, DTurns K mg (J d o kv) d o kv f
theorem dw_keys (k : Kn X K mg e m r) : DWk X K mg tg e r (fun p => keyD p.1) := by
  refine ⟨_, Itk, pi_keys k.pe, fun σ H R d o kv h1 h2 h3 => ⟨_, h1, d, o, rfl, .inl ⟨kv, h2, h3⟩⟩, fun d o kv => ?_⟩
  intro F H L st kvs os rk hd
  refine ⟨⟨hd, by rw [rk.length]; exact Nat.le_refl _⟩, fun i p e => ⟨⟨hd, ?_⟩, ?_⟩⟩
  · rw [← rk.length]
    exact (List.getElem?_eq_some_iff.mp e).1
  · rintro x H2 ⟨rfl, k', v, h1, rfl⟩
    obtain ⟨kk, y⟩ := p
    obtain ⟨w, e1, e2⟩ := rk.get e
    rw [h1] at e1
    cases e1
    exact ⟨F, Stp.refl, os, rep_key _⟩
theorem dw_keysM (k : Kn X K mg e m r) (hbase : attributeBase e "keys" X.env (eval e X.env) = eval e X.env := by rfl) (hline : (apos.endLine == cpos.line) = true := by rfl) : DWk X K mg tg (.Call (.Attribute e "keys" apos) [] [] cpos) r (fun p => keyD p.1) := by
  refine ⟨_, Itk, pi_keysM k.pe hbase hline, fun σ H R d o kv h1 h2 h3 => ⟨_, h1, d, o, kv, rfl, h2, h3⟩, fun d o kv => ?_⟩
  obtain ⟨_, _, _, _, h⟩ := (dw_keys (tg := tg) k).ex
  intro F H L st kvs os rk hd
  refine ⟨⟨hd, by rw [rk.length]; exact Nat.le_refl _⟩, fun i p e => ⟨⟨hd, ?_⟩, ?_⟩⟩
  · rw [← rk.length]
    exact (List.getElem?_eq_some_iff.mp e).1
  · rintro x H2 ⟨rfl, k', v, h1, rfl⟩
    obtain ⟨kk, y⟩ := p
    obtain ⟨w, e1, e2⟩ := rk.get e
    rw [h1] at e1
    cases e1
    exact ⟨F, Stp.refl, os, rep_key _⟩
theorem dw_vals (k : Kn X K mg e m r) (hbase : attributeBase e "values" X.env (eval e X.env) = eval e X.env := by rfl) (hline : (apos.endLine == cpos.line) = true := by rfl) : DWk X K mg tg (.Call (.Attribute e "values" apos) [] [] cpos) r (fun p => p.2) := by
  refine ⟨_, Itd, pi_values k.pe hbase hline, fun σ H R d o kv h1 h2 h3 => ⟨_, h1, d, o, kv, rfl, h2, h3⟩, fun d o kv => ?_⟩
  intro F H L st kvs os rk hd
  refine ⟨⟨hd, by rw [rk.length]; exact Nat.le_refl _⟩, fun i p e => ⟨⟨hd, ?_⟩, ?_⟩⟩
  · rw [← rk.length]
    exact (List.getElem?_eq_some_iff.mp e).1
  · rintro x H2 ⟨rfl, k', h1⟩
    obtain ⟨kk, y⟩ := p
    obtain ⟨w, e1, e2⟩ := rk.get e
    rw [h1] at e1
    cases e1
    exact ⟨F, Stp.refl, os, e2⟩
theorem dw_items {elts : List Expr} {kk : Nat} {tpos : Pos} (k : Kn X K mg e m r) (hbase : attributeBase e "items" X.env (eval e X.env) = eval e X.env := by rfl) (hline : (apos.endLine == cpos.line) = true := by rfl) :
    DWk X K mg (.Tuple elts kk tpos) (.Call (.Attribute e "items" apos) [] [] cpos) r (fun p => .tup [keyD p.1, p.2]) := by
  refine ⟨_, Iti, pi_items k.pe hbase hline, fun σ H R d o kv h1 h2 h3 => ⟨_, h1, d, o, kv, rfl, h2, h3⟩, fun d o kv => ?_⟩
  intro F H L st kvs os rk hd
  refine ⟨⟨hd, by rw [rk.length]; exact Nat.le_refl _⟩, fun i p e => ⟨⟨hd, ?_⟩, ?_⟩⟩
  · rw [← rk.length]
    exact (List.getElem?_eq_some_iff.mp e).1
  · rintro x H2 ⟨T, k', v, h1, rfl, nT, rfl⟩
    obtain ⟨kq, y⟩ := p
    obtain ⟨w, e1, e2⟩ := rk.get e
    rw [h1] at e1
    cases e1
    obtain ⟨s2, o2⟩ := os.lay (o := .tup [L2.kV k', v]) nT
    exact ⟨_, s2, o2, T, _, rfl, .inl (.inl upd_same), _, _, rfl, rep_key _, _, _, rfl, Rep.mono s2.ex _ e2, rfl⟩
/-- a dict that stands still, and a walk over it -/
structure DWp (X : Cx) (K : PySem.W.Frag) (mg : Glob) (tg iter : Expr) (m : EDen) (r : KnR) (f : Key × D → D) : Prop where
  kn : ∃ e, Kn X K mg e m r
  dw : DWk X K mg tg iter r f
theorem wp_keys (k : Kn X K mg e m r) : DWp X K mg tg e m r (fun p => keyD p.1) := ⟨⟨e, k⟩, dw_keys k⟩
theorem wp_keysM (k : Kn X K mg e m r) (hbase : attributeBase e "keys" X.env (eval e X.env) = eval e X.env := by rfl) (hline : (apos.endLine == cpos.line) = true := by rfl) : DWp X K mg tg (.Call (.Attribute e "keys" apos) [] [] cpos) m r (fun p => keyD p.1) := ⟨⟨e, k⟩, dw_keysM k hbase hline⟩
theorem wp_vals (k : Kn X K mg e m r) (hbase : attributeBase e "values" X.env (eval e X.env) = eval e X.env := by rfl) (hline : (apos.endLine == cpos.line) = true := by rfl) : DWp X K mg tg (.Call (.Attribute e "values" apos) [] [] cpos) m r (fun p => p.2) := ⟨⟨e, k⟩, dw_vals k hbase hline⟩
theorem wp_items {elts : List Expr} {kk : Nat} {tpos : Pos} (k : Kn X K mg e m r) (hbase : attributeBase e "items" X.env (eval e X.env) = eval e X.env := by rfl) (hline : (apos.endLine == cpos.line) = true := by rfl) :
    DWp X K mg (.Tuple elts kk tpos) (.Call (.Attribute e "items" apos) [] [] cpos) m r (fun p => .tup [keyD p.1, p.2]) := ⟨⟨e, k⟩, dw_items k hbase hline⟩
/-- where the dict stands, and how -/
theorem dct_at {F H : Hp} {L : List Addr} {σ : St} {ρ : REnv} {st : Store} {kvs : List (Key × D)} {v : V} (rl : Rl K mg Γ F L σ H ρ st) (kv : VRep K mg L F (.dct kvs) v) :
    ∃ d vs u h0, v = .ref d ∧ RepK K mg F kvs vs ∧ F d = some u ∧ H d = some h0 ∧ Hd u h0 ∧ ((u = .dK vs ∧ h0 = .dK vs) ∨ ∃ o, h0 = .frz o (.dK vs)) := by
  rcases kv with ⟨_, _, e, _⟩ | ⟨d, vs, rfl, h1, h2⟩
  · cases e
  · rcases h1 with h1 | ⟨o, h1⟩
    · rcases rl.sto.ex d _ h1 with h | ⟨ob, kv, e, h⟩
      · exact ⟨d, vs, _, _, rfl, h2, h1, h, .inl rfl, .inl ⟨rfl, rfl⟩⟩
      · cases e
        exact ⟨d, vs, _, _, rfl, h2, h1, h, .inr ⟨ob, vs, rfl, rfl⟩, .inr ⟨ob, rfl⟩⟩
    · rcases rl.sto.ex d _ h1 with h | ⟨ob, kv, e, h⟩
      · exact ⟨d, vs, _, _, rfl, h2, h1, h, .inl rfl, .inr ⟨o, rfl⟩⟩
      · cases e
theorem upd_id {H : Hp} {d : Addr} {h : HO} (e : H d = some h) : upd H d h = H := by
  funext b
  by_cases hb : b = d
  · rw [hb, upd_same, e]
  · rw [upd_ne hb]
def lD (m : EDen) (f : Key × D → D) : LDen := fun ρ st => match m ρ st with
  | .ok (.dct kvs) st1 => .ok (kvs.map f) st1
  | _ => .bad
variable {elt kx vx : Expr} {ifs : List Expr} {scope : Scope} {own : List (Str × Nat)} {ws : List Nat} {bd : BDen} {t : TDen} {me mk mv : EDen} {f : Key × D → D} {stmts : List Stmt} {mb : SDen}
/-- the turns behind any steps -/
theorem dt_itC {F H : Hp} {L : List Addr} {st : Store} {J : It} {d : Addr} {ob : Obj} {kv : List (Key × V)} {kvs : List (Key × D)} (T : DTurns K mg J d ob kv f) (rk : RepK K mg F kvs kv) (hd : H d = some (.frz ob (.dK kv))) (nL : d ∉ L) : ItC K mg J (kvs.map f) F L H := by
  intro F1 L1 H1 st1 s o1
  obtain ⟨h1, h2⟩ := T o1 (RepK.mono s.ex _ rk) (s.kp d _ hd nL).1
  rw [List.length_map]
  refine ⟨h1, fun i x e => ?_⟩
  rw [List.getElem?_map] at e
  cases hp : kvs[i]? with
  | none => rw [hp] at e; cases e
  | some p =>
    rw [hp] at e
    cases e
    exact h2 i p hp
/-- readings of a comprehension, from part to part -/
theorem tLc_map {g g' : L2.TG} {tt tt' : TT} {te te' : TE} {vs : List Nat} {σ : St} {Q Q' : VK} {J : It} {H1 : Hp} (hg : ∀ x σ H Q Q', (∀ σ H, Q σ H → Q' σ H) → g x σ H Q → g' x σ H Q') (ht : ∀ σ H (Q Q' : Bool → Hp → Prop), (∀ b H, Q b H → Q' b H) → tt σ H Q → tt' σ H Q') (he : ∀ σ H (Q Q' : VK), (∀ v H, Q v H → Q' v H) → te σ H Q → te' σ H Q') (hq : ∀ v H, Q v H → Q' v H)
    (h : ∀ Dl, H1 Dl = none → ∃ Wi : Nat → Nat → Hp → Prop, (∃ m, Wi 0 m (upd H1 Dl (.lst []))) ∧ ∀ i m H, Wi i m H →
      (J.stop i H ∧ Q (.ref Dl) H) ∨ (J.go i H ∧ ∃ Nx : Hp → Prop, (∀ H', Nx H' → ∃ m', m' < m ∧ Wi (i + 1) m' H') ∧ ∀ x H', J.yld i H x H' → g x (L2.wipe σ vs) H' fun σ2 H2 => L2.wipe σ2 vs = L2.wipe σ vs ∧ tt σ2 H2 fun b H3 =>
        if b = true then te σ2 H3 fun y H4 => ∃ acc, H4 Dl = some (.lst acc) ∧ acc.length < sizeLine ∧ Nx (upd H4 Dl (.lst (acc ++ [y]))) else Nx H3)) :
    ∀ Dl, H1 Dl = none → ∃ Wi : Nat → Nat → Hp → Prop, (∃ m, Wi 0 m (upd H1 Dl (.lst []))) ∧ ∀ i m H, Wi i m H →
      (J.stop i H ∧ Q' (.ref Dl) H) ∨ (J.go i H ∧ ∃ Nx : Hp → Prop, (∀ H', Nx H' → ∃ m', m' < m ∧ Wi (i + 1) m' H') ∧ ∀ x H', J.yld i H x H' → g' x (L2.wipe σ vs) H' fun σ2 H2 => L2.wipe σ2 vs = L2.wipe σ vs ∧ tt' σ2 H2 fun b H3 =>
        if b = true then te' σ2 H3 fun y H4 => ∃ acc, H4 Dl = some (.lst acc) ∧ acc.length < sizeLine ∧ Nx (upd H4 Dl (.lst (acc ++ [y]))) else Nx H3) := by
  intro Dl nD
  obtain ⟨Wi, h0, hs⟩ := h Dl nD
  refine ⟨Wi, h0, fun i m H hw => ?_⟩
  rcases hs i m H hw with ⟨h1, h2⟩ | ⟨h1, Nx, h2, h3⟩
  · exact .inl ⟨h1, hq _ _ h2⟩
  · refine .inr ⟨h1, Nx, h2, fun x H' y => hg _ _ _ _ _ ?_ (h3 x H' y)⟩
    rintro σ2 H2 ⟨e, q⟩
    refine ⟨e, ht _ _ _ _ ?_ q⟩
    intro b H3 q
    cases b with
    | false => exact iteF ((if_neg Bool.false_ne_true).mp q)
    | true => exact iteT (he _ _ _ _ (fun v H z => z) ((if_pos rfl).mp q))
/-- readings at some entry -/
abbrev tgE (K : PySem.W.Frag) (mg : Glob) (ws : List Nat) (bd : BDen) : L2.TG := fun v σ H Q => ∃ Γ : Ent, tgG K mg Γ ws bd v σ H Q
abbrev ttE (K : PySem.W.Frag) (mg : Glob) (W : WX) (t : TDen) : TT := fun σ H Q => ∃ Γ : Ent, ttG K mg Γ W t σ H Q
abbrev teE (K : PySem.W.Frag) (mg : Glob) (W : WX) (m : EDen) : TE := fun σ H Q => ∃ Γ : Ent, teV K mg Γ W m σ H Q
theorem tg_up {x : V} {σ : St} {H : Hp} {Q Q' : St → Hp → Prop} (k : ∀ σ H, Q σ H → Q' σ H) (h : tgG K mg Γ ws bd x σ H Q) : tgE K mg ws bd x σ H Q' := by
  obtain ⟨F, L, ρ, st, d, ρ', h1, h2, h3, h4⟩ := h
  exact ⟨Γ, F, L, ρ, st, d, ρ', h1, h2, h3, fun σ' a b => k _ _ (h4 σ' a b)⟩
theorem tt_up {σ : St} {H : Hp} {Q Q' : Bool → Hp → Prop} (k : ∀ b H, Q b H → Q' b H) (h : ttG K mg Γ W t σ H Q) : ttE K mg W t σ H Q' := by
  obtain ⟨F, L, ρ, st, h1, h2⟩ := h
  exact ⟨Γ, F, L, ρ, st, h1, h2.imp fun _ _ _ _ _ _ _ q => k _ _ q⟩
theorem te_up {σ : St} {H : Hp} {Q Q' : VK} (k : ∀ v H, Q v H → Q' v H) (h : teV K mg Γ W m σ H Q) : teE K mg W m σ H Q' := by
  obtain ⟨F, L, ρ, st, h1, h2⟩ := h
  exact ⟨Γ, F, L, ρ, st, h1, h2.imp fun _ _ _ _ _ _ _ q v kv => k _ _ (q v kv)⟩
/-- what the outcome says of the comprehension's own reading, its dict locked or held already -/
theorem lcD_go {wi : TI} {J : Addr → Obj → List (Key × V) → It} {vs0 : List Nat} {σ : St} {H : Hp} {Q : VK} (k : Kn X K mg e m r) (hwi : ∀ σ H (R : It → Hp → Prop) d o kv, r σ H (.ref d) → H d = some (.frz o (.dK kv)) → R (J d o kv) H → wi σ H R) (turns : ∀ d o kv, DTurns K mg (J d o kv) d o kv f) (hw : ∀ j ∈ ws, j ∈ vs0)
    (h : teO K mg Γ W (eComp (lD m f) bd t me vs0) σ H Q) : tLockE (tLc wi (tgE K mg ws bd) (ttE K mg W0 t) (teE K mg W0 me) vs0) σ H Q ∨ tLc wi (tgE K mg ws bd) (ttE K mg W0 t) (teE K mg W0 me) vs0 σ H Q := by
  obtain ⟨F, L, ρ, st, rl, q⟩ := h
  unfold eComp lD at q
  cases hm : m ρ st with
  | bad => rw [hm] at q; exact q.elim
  | exc c fs st' => rw [hm] at q; exact q.elim
  | ok x st1 =>
    rw [hm] at q
    obtain ⟨rfl, v, hr, kv⟩ := k.at_ rl hm
    cases x with
    | dct kvs =>
      dsimp only [RC.bind_ok] at q
      split at q
      · rename_i hlen
        obtain ⟨d, vs, u, h0, rfl, rk, hF, hH, hh, hcase⟩ := dct_at rl kv
        have q2 := q.bind
        -- the comprehension, the dict held
        have core : ∀ (h : HO) (ob : Obj) (Qn : VK), h = .frz ob (.dK vs) → Hd u h → r σ (upd H d h) (.ref d) → (∀ w H', H' d = some h → Q w (upd H' d h0) → Qn w H') → wi σ (upd H d h) fun J H1 => ∀ Dl, H1 Dl = none → ∃ Wi : Nat → Nat → Hp → Prop, (∃ m, Wi 0 m (upd H1 Dl (.lst []))) ∧ ∀ i m H, Wi i m H →
            (J.stop i H ∧ Qn (.ref Dl) H) ∨ (J.go i H ∧ ∃ Nx : Hp → Prop, (∀ H', Nx H' → ∃ m', m' < m ∧ Wi (i + 1) m' H') ∧ ∀ x H', J.yld i H x H' → tgE K mg ws bd x (L2.wipe σ (vs0)) H' fun σ2 H2 => L2.wipe σ2 (vs0) = L2.wipe σ (vs0) ∧ ttE K mg W0 t σ2 H2 fun b H3 =>
              if b = true then teE K mg W0 me σ2 H3 fun y H4 => ∃ acc, H4 Dl = some (.lst acc) ∧ acc.length < sizeLine ∧ Nx (upd H4 Dl (.lst (acc ++ [y]))) else Nx H3) := by
          rintro h ob Qn rfl hd' hr' hQ
          have rl1 := rl.pin hF hd'
          refine hwi σ _ _ d ob vs hr' upd_same ?_
          have itc := dt_itC (turns d ob vs) rk (H := upd H d (.frz ob (.dK vs))) (st := st1) upd_same (rl.notL hF)
          have z := comp_core (Q := Qn) (W := W) (t := t) (me := me) (bd := bd) hw rl1 (by rw [List.length_map]; simpa using hlen) itc ?_
          · exact tLc_map (Q := Qn) (g := tgG K mg (Γ.pin d u (.frz ob (.dK vs))) ws bd) (tt := ttG K mg (Γ.pin d u (.frz ob (.dK vs))) W0 t) (te := teV K mg (Γ.pin d u (.frz ob (.dK vs))) W0 me) (fun _ _ _ _ _ a b => tg_up a b) (fun _ _ _ _ a b => tt_up a b) (fun _ _ _ _ a b => te_up a b) (fun _ _ a => a) z
          · cases hgo : noX (compGo bd t me (wipeR ρ (vs0)) (kvs.map f) st1) with
            | bad => rw [hgo] at q2; exact q2.elim
            | exc c fs st' =>
              cases hgo2 : compGo bd t me (wipeR ρ (vs0)) (kvs.map f) st1 with
              | bad => rw [hgo2] at hgo; cases hgo
              | exc c fs st' => rw [hgo2] at hgo; cases hgo
              | ok _ _ => rw [hgo2] at hgo; cases hgo
            | ok ys st2 =>
              rw [hgo] at q2
              intro F' L' H' s' o' w kw
              obtain ⟨e1, s2, o2⟩ := Stp.unpin rl.sto hF hH hh s' o'
              refine hQ _ _ e1 ?_
              obtain ⟨Dl, rfl, n1, n2, n3, acc, a1, a2⟩ := kw
              have hne : Dl ≠ d := fun z => by rw [z, upd_same] at n1; cases n1
              refine (q2 F' L' _ s2 o2).here o2 _ ⟨Dl, rfl, ?_, n2, n3, acc, by rw [upd_ne hne]; exact a1, a2⟩
              rwa [upd_ne hne] at n1
        rcases hcase with ⟨rfl, rfl⟩ | ⟨ob, rfl⟩
        · refine .inl ⟨d, .dK vs, hH, True.intro, fun od => ?_⟩
          exact core (.frz od (.dK vs)) od (fun w H' => H' d = some (.frz od (.dK vs)) ∧ Q w (upd H' d (.dK vs))) rfl (.inr ⟨od, vs, rfl, rfl⟩) (k.lock hr hH) fun w H' a b => ⟨a, b⟩
        · refine .inr ?_
          have z := core (.frz ob (.dK vs)) ob Q rfl hh (by rw [upd_id hH]; exact hr) fun w H' a b => by
            rw [upd_id a] at b
            exact b
          rw [upd_id hH] at z
          exact z
      · exact q.elim
    | _ => exact q.elim
theorem tgE_up (hg : ∀ (Γ : Ent) (s : Shared) (H : Hp) (C : Addr) (cl : List (Str × Addr)) (fp : List Addr), PG (X.blk s H scope (compEnvC scope cl C X.env) fp) tg (tgG K mg Γ ws bd)) (s : Shared) (H : Hp) (C : Addr) (cl : List (Str × Addr)) (fp : List Addr) : PG (X.blk s H scope (compEnvC scope cl C X.env) fp) tg (tgE K mg ws bd) :=
  ⟨fun pins s' σ H' v u Q I q ⟨Γ, h⟩ => (hg Γ s H C cl fp).run pins s' σ H' v u Q I q h⟩
theorem ttE_up (ht : ∀ (Γ : Ent) (s : Shared) (H : Hp) (C : Addr) (cl : List (Str × Addr)) (fp : List Addr), PTs (X.blk s H scope (compEnvC scope cl C X.env) fp) ifs (ttG K mg Γ W0 t)) (s : Shared) (H : Hp) (C : Addr) (cl : List (Str × Addr)) (fp : List Addr) : PTs (X.blk s H scope (compEnvC scope cl C X.env) fp) ifs (ttE K mg W0 t) :=
  ⟨fun pins s' σ H' Q I ⟨Γ, h⟩ => (ht Γ s H C cl fp).run pins s' σ H' Q I h⟩
theorem teE_up (he : ∀ (Γ : Ent) (s : Shared) (H : Hp) (C : Addr) (cl : List (Str × Addr)) (fp : List Addr), PE (X.blk s H scope (compEnvC scope cl C X.env) fp) elt (teV K mg Γ W0 me)) (s : Shared) (H : Hp) (C : Addr) (cl : List (Str × Addr)) (fp : List Addr) : PE (X.blk s H scope (compEnvC scope cl C X.env) fp) elt (teE K mg W0 me) :=
  ⟨fun pins s' σ H' Q I ⟨Γ, h⟩ => (he Γ s H C cl fp).run pins s' σ H' Q I h⟩
theorem g_lcD (hc : X.calm = true) (hN : X.N.Nodup) (wp : DWp X K mg tg iter m r f) (ok : BlkOk X.N X.env.scope scope own)
    (hg : ∀ (Γ : Ent) (s : Shared) (H : Hp) (C : Addr) (cl : List (Str × Addr)) (fp : List Addr), PG (X.blk s H scope (compEnvC scope cl C X.env) fp) tg (tgG K mg Γ ws bd))
    (ht : ∀ (Γ : Ent) (s : Shared) (H : Hp) (C : Addr) (cl : List (Str × Addr)) (fp : List Addr), PTs (X.blk s H scope (compEnvC scope cl C X.env) fp) ifs (ttG K mg Γ W0 t))
    (he : ∀ (Γ : Ent) (s : Shared) (H : Hp) (C : Addr) (cl : List (Str × Addr)) (fp : List Addr), PE (X.blk s H scope (compEnvC scope cl C X.env) fp) elt (teV K mg Γ W0 me)) (hw : ∀ j ∈ ws, j ∈ own.map (·.2) := by decide) (hs : ∀ x, foldedSetIterable iter X.env x = pure x := by intro _; rfl) :
    PE X (.ListComp elt [⟨tg, iter, ifs, 0⟩] scope pos) (teO K mg Γ W (eComp (lD m f) bd t me (own.map (·.2)))) := by
  obtain ⟨⟨e, k⟩, w⟩ := wp
  obtain ⟨wi, J, hi, hwi, turns⟩ := w.ex
  have P := pe_lc (pos := pos) hc hN hi ok (tgE_up hg) (ttE_up ht) (teE_up he) hs
  exact pe_imp (pe_or' (pe_lock P) P) fun σ H Q h => lcD_go k hwi turns hw h
theorem ps_or {st0 : Stmt} {t1 t2 : L2.TS} (h : PS X st0 t1) (h' : PS X st0 t2) : PS X st0 (fun D σ H => t1 D σ H ∨ t2 D σ H) := ⟨fun pins s σ H D I q => q.elim (h.run pins s σ H D I) (h'.run pins s σ H D I)⟩
theorem s_asgLcD {i : Nat} {y : Str} {py spos : Pos} (hc : X.calm = true) (hN : X.N.Nodup) (hsw : swapsWith (.ListComp elt [⟨tg, iter, ifs, 0⟩] scope pos) (some (.Name y py)) spos.line X.env = pure true) (wp : DWp X K mg tg iter m r f) (ok : BlkOk X.N X.env.scope scope own)
    (hg : ∀ (Γ : Ent) (s : Shared) (H : Hp) (C : Addr) (cl : List (Str × Addr)) (fp : List Addr), PG (X.blk s H scope (compEnvC scope cl C X.env) fp) tg (tgG K mg Γ ws bd))
    (ht : ∀ (Γ : Ent) (s : Shared) (H : Hp) (C : Addr) (cl : List (Str × Addr)) (fp : List Addr), PTs (X.blk s H scope (compEnvC scope cl C X.env) fp) ifs (ttG K mg Γ W0 t))
    (he : ∀ (Γ : Ent) (s : Shared) (H : Hp) (C : Addr) (cl : List (Str × Addr)) (fp : List Addr), PE (X.blk s H scope (compEnvC scope cl C X.env) fp) elt (teV K mg Γ W0 me)) (hw : ∀ j ∈ ws, j ∈ own.map (·.2) := by decide) (hy : X.N[i]? = some y := by rfl) (hyl : X.env.scope.names.lookup y = some .local := by rfl) (hs : ∀ x, foldedSetIterable iter X.env x = pure x := by intro _; rfl) :
    PS X (.Assign [.Name y py] (.ListComp elt [⟨tg, iter, ifs, 0⟩] scope pos) spos) (tsG K mg Γ W (sAsgO i (eComp (lD m f) bd t me (own.map (·.2))))) := by
  obtain ⟨⟨e, k⟩, w⟩ := wp
  obtain ⟨wi, J, hi, hwi, turns⟩ := w.ex
  have P := ps_setLc (pos := pos) (spos := spos) hc hN hy hyl hsw hi ok (tgE_up hg) (ttE_up ht) (teE_up he) hs
  refine ps_imp (ps_or (ps_lock P) P) fun D' σ H ⟨F, L, ρ, st, rl, q⟩ => ?_
  have h : teO K mg Γ W (eComp (lD m f) bd t me (own.map (·.2))) σ H fun v H' => D'.nx (σ.set i (some v)) H' :=
    ⟨F, L, ρ, st, rl, (SPost.s q rl).imp fun F' L' H' st' d s o q' v kv => by
      obtain ⟨a, rfl, n, nF, nL, hs⟩ := kv
      exact q' F' L' _ H' (rl.setN s o i n nF nL hs)⟩
  exact lcD_go k hwi turns hw h
end
end Gh
/-! Gh27: dict comprehensions; for over a dict. -/
namespace Gh
open L2 PyProof.Rows PySem.Spec PySem
def dcompGo (bd : BDen) (t : TDen) (mk mv : EDen) (ρ : REnv) : List D → Store → RC (List (Key × D))
  | [], st => .ok [] st
  | d :: ds, st => match bd d ρ with
    | none => .bad
    | some ρ1 => (t ρ1 st).bind fun b st1 => if b then (mk ρ1 st1).bind fun y st2 => (mv ρ1 st2).bind fun z st3 => match keyOf y with
      | some k => if isLoc z then .bad else (dcompGo bd t mk mv ρ ds st3).bind fun ps st4 => .ok ((k, z) :: ps) st4
      | none => .bad
      else dcompGo bd t mk mv ρ ds st1
/-- {k: v for target in iter if ..} -/
def eDComp (mi : LDen) (bd : BDen) (t : TDen) (mk mv : EDen) (vs : List Nat) : EDen := fun ρ st => (mi ρ st).bind fun ds st1 => if ds.length < 100000 then (noX (dcompGo bd t mk mv (wipeR ρ vs) ds st1)).bind fun ps st2 => .ok (.dct (mergeD [] ps)) st2 else .bad
section
variable {X : Cx} {K : PySem.W.Frag} {mg : Glob} {Γ : Ent} {W : WX} {e tg iter kx vx : Expr} {ifs : List Expr} {pos p : Pos} {bd : BDen} {mi : LDen} {m mk mv : EDen} {t : TDen} {scope : Scope} {own : List (Str × Nat)} {ws : List Nat} {r : KnR} {f : Key × D → D}
theorem dcomp_core {F1 H1 : Hp} {L1 : List Addr} {σ : St} {ρ : REnv} {st1 : Store} {ds : List D} {J : It} {Q : VK} {vs : List Nat} (hw : ∀ j ∈ ws, j ∈ vs) (rl1 : Rl K mg Γ F1 L1 σ H1 ρ st1) (hlen : ds.length < 100000) (hJ : ItC K mg J ds F1 L1 H1)
    (q2 : Post K mg W σ F1 L1 H1 (noX (dcompGo bd t mk mv (wipeR ρ vs) ds st1)) (fun F' L' H' _ ps => ∀ v, kO K mg σ H1 ρ F' L' H' (.dct (mergeD [] ps)) v → Q v H')) : ∀ Dl, H1 Dl = none → ∃ Wi : Nat → Nat → Hp → Prop, (∃ m, Wi 0 m (upd H1 Dl (.dK []))) ∧ ∀ i m H, Wi i m H →
      (J.stop i H ∧ Q (.ref Dl) H) ∨ (J.go i H ∧ ∃ Nx : Hp → Prop, (∀ H', Nx H' → ∃ m', m' < m ∧ Wi (i + 1) m' H') ∧ ∀ x H', J.yld i H x H' → tgG K mg Γ ws bd x (L2.wipe σ vs) H' fun σ2 H2 => L2.wipe σ2 vs = L2.wipe σ vs ∧ ttG K mg Γ W0 t σ2 H2 fun b H3 =>
        if b = true then teV K mg Γ W0 mk σ2 H3 fun y H4 => teV K mg Γ W0 mv σ2 H4 fun z H5 => ∃ kvs k, y = L2.kV k ∧ H5 Dl = some (.dK kvs) ∧ kvs.length < sizeLine ∧ Nx (upd H5 Dl (.dK (putK kvs k z))) else Nx H3) := by
  intro Dl nD
  cases hgo : dcompGo bd t mk mv (wipeR ρ vs) ds st1 with
  | exc c fs st' => rw [hgo] at q2; exact q2.elim
  | bad => rw [hgo] at q2; exact q2.elim
  | ok total stE =>
    rw [hgo] at q2
    have q2 : Post K mg W σ F1 L1 H1 (.ok total stE) _ := q2
    have nF1 : F1 Dl = none := rl1.sto.ex.free nD
    have nL1 : Dl ∉ L1 := rl1.newL nD
    refine ⟨fun i m H' => m + i = ds.length ∧ ∃ F' L' st' acc accD rest, Stp F1 L1 H1 F' L' H' ∧ Sto K mg F' L' H' st' ∧ F' Dl = none ∧ Dl ∉ L' ∧ H' Dl = some (.dK acc) ∧ RepK K mg F' accD acc ∧ accD.length ≤ i ∧
        dcompGo bd t mk mv (wipeR ρ vs) (ds.drop i) st' = .ok rest stE ∧ mergeD accD rest = mergeD [] total, ⟨ds.length, rfl, F1, L1, st1, [], [], total, Stp.fresh nD, rl1.sto.fresh nD, nF1, nL1, upd_same, rfl, Nat.le_refl 0, hgo, rfl⟩, ?_⟩
    rintro i m H' ⟨hm, F', L', st', acc, accD, rest, s', o', nF', nL', hD, hr, hlA, hc', hT⟩
    obtain ⟨hstop, hgo'⟩ := hJ F' L' H' st' s' o'
    by_cases hi : i < ds.length
    · right
      rw [drop_cons hi] at hc'
      unfold dcompGo at hc'
      obtain ⟨g1, g2⟩ := hgo' i ds[i] (List.getElem?_eq_getElem hi)
      refine ⟨g1, fun H' => (m - 1) + (i + 1) = ds.length ∧ ∃ F' L' st' acc accD rest, Stp F1 L1 H1 F' L' H' ∧ Sto K mg F' L' H' st' ∧ F' Dl = none ∧ Dl ∉ L' ∧ H' Dl = some (.dK acc) ∧ RepK K mg F' accD acc ∧ accD.length ≤ i + 1 ∧
        dcompGo bd t mk mv (wipeR ρ vs) (ds.drop (i + 1)) st' = .ok rest stE ∧ mergeD accD rest = mergeD [] total, fun H2 h => ⟨m - 1, by omega, h⟩, fun x H2 y => ?_⟩
      obtain ⟨F2, s2, o2, r2⟩ := g2 x H2 y
      have rl2 : Rl K mg Γ F2 L' (L2.wipe σ vs) H2 (wipeR ρ vs) st' := ((rl1.step s' o').step s2 o2).wipe _
      have hD2 := s2.kp Dl _ hD nL'
      cases hb1 : bd ds[i] (wipeR ρ vs) with
      | none => rw [hb1] at hc'; cases hc'
      | some ρ1 =>
        rw [hb1] at hc'
        dsimp only at hc'
        refine ⟨F2, L', _, st', ds[i], ρ1, rl2, r2, hb1, fun σ3 off rl3 => ⟨wipe_off off hw, F2, L', ρ1, st', rl3, ?_⟩⟩
        cases ht1 : t ρ1 st' with
        | bad => rw [ht1] at hc'; cases hc'
        | exc c fs st2 => rw [ht1] at hc'; cases hc'
        | ok b st2 =>
          rw [ht1] at hc'
          simp only [RC.bind_ok] at hc'
          intro F3 L3 H3 s3 o3
          have hD3 := s3.kp Dl _ hD2.1 hD2.2.2
          have rl4 := rl3.step s3 o3
          cases b with
          | false =>
            refine iteF ⟨by omega, F3, L3, st2, acc, accD, rest, (s'.trans s2).trans s3, o3, ?_, hD3.2.2, hD3.1, RepK.mono s3.ex _ (RepK.mono s2.ex _ hr), by omega, ?_, hT⟩
            · rw [hD3.2.1, hD2.2.1]; exact nF'
            · simpa using hc'
          | true =>
            rw [if_pos rfl] at hc'
            refine iteT ⟨F3, L3, ρ1, st2, rl4, ?_⟩
            cases he1 : mk ρ1 st2 with
            | bad => rw [he1] at hc'; cases hc'
            | exc c fs st3 => rw [he1] at hc'; cases hc'
            | ok y st3 =>
              rw [he1] at hc'
              simp only [RC.bind_ok] at hc'
              intro F4 L4 H4 s4 o4 v kv
              have hD4 := s4.kp Dl _ hD3.1 hD3.2.2
              have rl5 := rl4.step s4 o4
              refine ⟨F4, L4, ρ1, st3, rl5, ?_⟩
              cases he2 : mv ρ1 st3 with
              | bad => rw [he2] at hc'; cases hc'
              | exc c fs st4 => rw [he2] at hc'; cases hc'
              | ok z st4 =>
                rw [he2] at hc'
                simp only [RC.bind_ok] at hc'
                intro F5 L5 H5 s5 o5 vz kz
                have hD5 := s5.kp Dl _ hD4.1 hD4.2.2
                split at hc'
                · rename_i kk hkk
                  split at hc'
                  · cases hc'
                  · rename_i hloc
                    have ry : Rep K mg F5 z vz := VRep.flat kz (by simpa using hloc)
                    cases hc2 : dcompGo bd t mk mv (wipeR ρ vs) (ds.drop (i + 1)) st4 with
                    | bad => rw [hc2] at hc'; cases hc'
                    | exc c fs st5 => rw [hc2] at hc'; cases hc'
                    | ok ys st5 =>
                      rw [hc2] at hc'
                      simp only [RC.bind_ok, RC.ok.injEq] at hc'
                      obtain ⟨e1, e2⟩ := hc'
                      subst e2
                      subst e1
                      have nF5 : F5 Dl = none := by rw [hD5.2.1, hD4.2.1, hD3.2.1, hD2.2.1]; exact nF'
                      have lA : acc.length = accD.length := hr.length.symm
                      have s6 := (((s'.trans s2).trans s3).trans s4).trans s5
                      refine ⟨acc, kk, keyOf_v hkk kv, hD5.1, by rw [sizeLine_eq]; omega, by omega, F5, L5, st4, putK acc kk vz, putD accD kk z, ys, ?_, o5.updN nF5 hD5.2.2, nF5, hD5.2.2, upd_same, ?_, ?_, hc2, hT⟩
                      · refine ⟨s6.ex, s6.pre, fun b u h n => ?_⟩
                        obtain ⟨k1, k2, k3⟩ := s6.kp b u h n
                        have hb : b ≠ Dl := ne_of_none h nD
                        exact ⟨by rw [upd_ne hb]; exact k1, k2, k3⟩
                      · exact RepK.put (RepK.mono s5.ex _ (RepK.mono s4.ex _ (RepK.mono s3.ex _ (RepK.mono s2.ex _ hr)))) kk ry
                      · unfold putD
                        split
                        · rw [List.length_map]; omega
                        · rw [List.length_append]
                          simp only [List.length_cons, List.length_nil]
                          omega
                · cases hc'
    · left
      have e : i = ds.length := by omega
      subst e
      rw [List.drop_length] at hc'
      unfold dcompGo at hc'
      cases hc'
      have hT : accD = mergeD [] total := hT
      subst hT
      exact ⟨hstop, q2 F' L' H' s' o' _ ⟨Dl, rfl, nD, nF', nL', acc, hD, hr⟩⟩
theorem g_dc (hc : X.calm = true) (hN : X.N.Nodup) (hi : PI X tg iter (tiC K mg Γ W mi)) (ok : BlkOk X.N X.env.scope scope own)
    (hg : ∀ (s : Shared) (H : Hp) (C : Addr) (cl : List (Str × Addr)) (fp : List Addr), PG (X.blk s H scope (compEnvC scope cl C X.env) fp) tg (tgG K mg Γ ws bd))
    (ht : ∀ (s : Shared) (H : Hp) (C : Addr) (cl : List (Str × Addr)) (fp : List Addr), PTs (X.blk s H scope (compEnvC scope cl C X.env) fp) ifs (ttG K mg Γ W0 t))
    (hk : ∀ (s : Shared) (H : Hp) (C : Addr) (cl : List (Str × Addr)) (fp : List Addr), PE (X.blk s H scope (compEnvC scope cl C X.env) fp) kx (teV K mg Γ W0 mk))
    (he : ∀ (s : Shared) (H : Hp) (C : Addr) (cl : List (Str × Addr)) (fp : List Addr), PE (X.blk s H scope (compEnvC scope cl C X.env) fp) vx (teV K mg Γ W0 mv)) (hw : ∀ j ∈ ws, j ∈ own.map (·.2) := by decide) (hs : ∀ x, foldedSetIterable iter X.env x = pure x := by intro _; rfl) :
    PE X (.DictComp kx vx [⟨tg, iter, ifs, 0⟩] scope pos) (teO K mg Γ W (eDComp mi bd t mk mv (own.map (·.2)))) := by
  refine pe_imp (pe_dc hc hN hi ok hg ht hk he hs) fun σ H Q ⟨F, L, ρ, st, rl, q⟩ => ?_
  refine ⟨F, L, ρ, st, rl, q.bind.imp fun F1 L1 H1 st1 ds s1 o1 q1 J hJ => ?_⟩
  split at q1
  · rename_i hlen
    exact dcomp_core hw (rl.step s1 o1) hlen hJ (q1.bind.imp fun F2 L2 H2 st2 ys s2 o2 q2 v kv => q2.here o2 v (kO_late (fun a h => s1.more o1 a h) kv))
  · exact q1.elim
theorem tDc_map {g g' : L2.TG} {tt tt' : TT} {tk tk' tv tv' : TE} {vs : List Nat} {σ : St} {Q Q' : VK} {J : It} {H1 : Hp} (hg : ∀ x σ H Q Q', (∀ σ H, Q σ H → Q' σ H) → g x σ H Q → g' x σ H Q') (ht : ∀ σ H (Q Q' : Bool → Hp → Prop), (∀ b H, Q b H → Q' b H) → tt σ H Q → tt' σ H Q') (hk : ∀ σ H (Q Q' : VK), (∀ v H, Q v H → Q' v H) → tk σ H Q → tk' σ H Q') (he : ∀ σ H (Q Q' : VK), (∀ v H, Q v H → Q' v H) → tv σ H Q → tv' σ H Q') (hq : ∀ v H, Q v H → Q' v H)
    (h : ∀ Dl, H1 Dl = none → ∃ Wi : Nat → Nat → Hp → Prop, (∃ m, Wi 0 m (upd H1 Dl (.dK []))) ∧ ∀ i m H, Wi i m H →
      (J.stop i H ∧ Q (.ref Dl) H) ∨ (J.go i H ∧ ∃ Nx : Hp → Prop, (∀ H', Nx H' → ∃ m', m' < m ∧ Wi (i + 1) m' H') ∧ ∀ x H', J.yld i H x H' → g x (L2.wipe σ vs) H' fun σ2 H2 => L2.wipe σ2 vs = L2.wipe σ vs ∧ tt σ2 H2 fun b H3 =>
        if b = true then tk σ2 H3 fun y H4 => tv σ2 H4 fun z H5 => ∃ kvs k, y = L2.kV k ∧ H5 Dl = some (.dK kvs) ∧ kvs.length < sizeLine ∧ Nx (upd H5 Dl (.dK (putK kvs k z))) else Nx H3)) :
    ∀ Dl, H1 Dl = none → ∃ Wi : Nat → Nat → Hp → Prop, (∃ m, Wi 0 m (upd H1 Dl (.dK []))) ∧ ∀ i m H, Wi i m H →
      (J.stop i H ∧ Q' (.ref Dl) H) ∨ (J.go i H ∧ ∃ Nx : Hp → Prop, (∀ H', Nx H' → ∃ m', m' < m ∧ Wi (i + 1) m' H') ∧ ∀ x H', J.yld i H x H' → g' x (L2.wipe σ vs) H' fun σ2 H2 => L2.wipe σ2 vs = L2.wipe σ vs ∧ tt' σ2 H2 fun b H3 =>
        if b = true then tk' σ2 H3 fun y H4 => tv' σ2 H4 fun z H5 => ∃ kvs k, y = L2.kV k ∧ H5 Dl = some (.dK kvs) ∧ kvs.length < sizeLine ∧ Nx (upd H5 Dl (.dK (putK kvs k z))) else Nx H3) := by
  intro Dl nD
  obtain ⟨Wi, h0, hs⟩ := h Dl nD
  refine ⟨Wi, h0, fun i m H hw => ?_⟩
  rcases hs i m H hw with ⟨h1, h2⟩ | ⟨h1, Nx, h2, h3⟩
  · exact .inl ⟨h1, hq _ _ h2⟩
  · refine .inr ⟨h1, Nx, h2, fun x H' y => hg _ _ _ _ _ ?_ (h3 x H' y)⟩
    rintro σ2 H2 ⟨e, q⟩
    refine ⟨e, ht _ _ _ _ ?_ q⟩
    intro b H3 q
    cases b with
    | false => exact iteF ((if_neg Bool.false_ne_true).mp q)
    | true => exact iteT (hk _ _ _ _ (fun v H z => he _ _ _ _ (fun _ _ a => a) z) ((if_pos rfl).mp q))
/-- what the outcome says of the comprehension's own reading, its dict locked or held already -/
theorem dcD_go {wi : TI} {J : Addr → Obj → List (Key × V) → It} {vs0 : List Nat} {σ : St} {H : Hp} {Q : VK} (k : Kn X K mg e m r) (hwi : ∀ σ H (R : It → Hp → Prop) d o kv, r σ H (.ref d) → H d = some (.frz o (.dK kv)) → R (J d o kv) H → wi σ H R) (turns : ∀ d o kv, DTurns K mg (J d o kv) d o kv f) (hw : ∀ j ∈ ws, j ∈ vs0)
    (h : teO K mg Γ W (eDComp (lD m f) bd t mk mv vs0) σ H Q) : tLockE (tDc wi (tgE K mg ws bd) (ttE K mg W0 t) (teE K mg W0 mk) (teE K mg W0 mv) vs0) σ H Q ∨ tDc wi (tgE K mg ws bd) (ttE K mg W0 t) (teE K mg W0 mk) (teE K mg W0 mv) vs0 σ H Q := by
  obtain ⟨F, L, ρ, st, rl, q⟩ := h
  unfold eDComp lD at q
  cases hm : m ρ st with
  | bad => rw [hm] at q; exact q.elim
  | exc c fs st' => rw [hm] at q; exact q.elim
  | ok x st1 =>
    rw [hm] at q
    obtain ⟨rfl, v, hr, kv⟩ := k.at_ rl hm
    cases x with
    | dct kvs =>
      dsimp only [RC.bind_ok] at q
      split at q
      · rename_i hlen
        obtain ⟨d, vs, u, h0, rfl, rk, hF, hH, hh, hcase⟩ := dct_at rl kv
        have q2 := q.bind
        -- the comprehension, the dict held
        have core : ∀ (h : HO) (ob : Obj) (Qn : VK), h = .frz ob (.dK vs) → Hd u h → r σ (upd H d h) (.ref d) → (∀ w H', H' d = some h → Q w (upd H' d h0) → Qn w H') → wi σ (upd H d h) fun J H1 => ∀ Dl, H1 Dl = none → ∃ Wi : Nat → Nat → Hp → Prop, (∃ m, Wi 0 m (upd H1 Dl (.dK []))) ∧ ∀ i m H, Wi i m H →
            (J.stop i H ∧ Qn (.ref Dl) H) ∨ (J.go i H ∧ ∃ Nx : Hp → Prop, (∀ H', Nx H' → ∃ m', m' < m ∧ Wi (i + 1) m' H') ∧ ∀ x H', J.yld i H x H' → tgE K mg ws bd x (L2.wipe σ (vs0)) H' fun σ2 H2 => L2.wipe σ2 (vs0) = L2.wipe σ (vs0) ∧ ttE K mg W0 t σ2 H2 fun b H3 =>
              if b = true then teE K mg W0 mk σ2 H3 fun y H4 => teE K mg W0 mv σ2 H4 fun z H5 => ∃ kvs k, y = L2.kV k ∧ H5 Dl = some (.dK kvs) ∧ kvs.length < sizeLine ∧ Nx (upd H5 Dl (.dK (putK kvs k z))) else Nx H3) := by
          rintro h ob Qn rfl hd' hr' hQ
          have rl1 := rl.pin hF hd'
          refine hwi σ _ _ d ob vs hr' upd_same ?_
          have itc := dt_itC (turns d ob vs) rk (H := upd H d (.frz ob (.dK vs))) (st := st1) upd_same (rl.notL hF)
          have z := dcomp_core (Q := Qn) (W := W) (t := t) (mk := mk) (mv := mv) (bd := bd) hw rl1 (by rw [List.length_map]; simpa using hlen) itc ?_
          · exact tDc_map (Q := Qn) (g := tgG K mg (Γ.pin d u (.frz ob (.dK vs))) ws bd) (tt := ttG K mg (Γ.pin d u (.frz ob (.dK vs))) W0 t) (tk := teV K mg (Γ.pin d u (.frz ob (.dK vs))) W0 mk) (tv := teV K mg (Γ.pin d u (.frz ob (.dK vs))) W0 mv) (fun _ _ _ _ _ a b => tg_up a b) (fun _ _ _ _ a b => tt_up a b) (fun _ _ _ _ a b => te_up a b) (fun _ _ _ _ a b => te_up a b) (fun _ _ a => a) z
          · cases hgo : noX (dcompGo bd t mk mv (wipeR ρ (vs0)) (kvs.map f) st1) with
            | bad => rw [hgo] at q2; exact q2.elim
            | exc c fs st' =>
              cases hgo2 : dcompGo bd t mk mv (wipeR ρ (vs0)) (kvs.map f) st1 with
              | bad => rw [hgo2] at hgo; cases hgo
              | exc c fs st' => rw [hgo2] at hgo; cases hgo
              | ok _ _ => rw [hgo2] at hgo; cases hgo
            | ok ys st2 =>
              rw [hgo] at q2
              intro F' L' H' s' o' w kw
              obtain ⟨e1, s2, o2⟩ := Stp.unpin rl.sto hF hH hh s' o'
              refine hQ _ _ e1 ?_
              obtain ⟨Dl, rfl, n1, n2, n3, acc, a1, a2⟩ := kw
              have hne : Dl ≠ d := fun z => by rw [z, upd_same] at n1; cases n1
              refine (q2 F' L' _ s2 o2).here o2 _ ⟨Dl, rfl, ?_, n2, n3, acc, by rw [upd_ne hne]; exact a1, a2⟩
              rwa [upd_ne hne] at n1
        rcases hcase with ⟨rfl, rfl⟩ | ⟨ob, rfl⟩
        · refine .inl ⟨d, .dK vs, hH, True.intro, fun od => ?_⟩
          exact core (.frz od (.dK vs)) od (fun w H' => H' d = some (.frz od (.dK vs)) ∧ Q w (upd H' d (.dK vs))) rfl (.inr ⟨od, vs, rfl, rfl⟩) (k.lock hr hH) fun w H' a b => ⟨a, b⟩
        · refine .inr ?_
          have z := core (.frz ob (.dK vs)) ob Q rfl hh (by rw [upd_id hH]; exact hr) fun w H' a b => by
            rw [upd_id a] at b
            exact b
          rw [upd_id hH] at z
          exact z
      · exact q.elim
    | _ => exact q.elim
theorem g_dcD (hc : X.calm = true) (hN : X.N.Nodup) (wp : DWp X K mg tg iter m r f) (ok : BlkOk X.N X.env.scope scope own)
    (hg : ∀ (Γ : Ent) (s : Shared) (H : Hp) (C : Addr) (cl : List (Str × Addr)) (fp : List Addr), PG (X.blk s H scope (compEnvC scope cl C X.env) fp) tg (tgG K mg Γ ws bd))
    (ht : ∀ (Γ : Ent) (s : Shared) (H : Hp) (C : Addr) (cl : List (Str × Addr)) (fp : List Addr), PTs (X.blk s H scope (compEnvC scope cl C X.env) fp) ifs (ttG K mg Γ W0 t))
    (hk : ∀ (Γ : Ent) (s : Shared) (H : Hp) (C : Addr) (cl : List (Str × Addr)) (fp : List Addr), PE (X.blk s H scope (compEnvC scope cl C X.env) fp) kx (teV K mg Γ W0 mk))
    (he : ∀ (Γ : Ent) (s : Shared) (H : Hp) (C : Addr) (cl : List (Str × Addr)) (fp : List Addr), PE (X.blk s H scope (compEnvC scope cl C X.env) fp) vx (teV K mg Γ W0 mv)) (hw : ∀ j ∈ ws, j ∈ own.map (·.2) := by decide) (hs : ∀ x, foldedSetIterable iter X.env x = pure x := by intro _; rfl) :
    PE X (.DictComp kx vx [⟨tg, iter, ifs, 0⟩] scope pos) (teO K mg Γ W (eDComp (lD m f) bd t mk mv (own.map (·.2)))) := by
  obtain ⟨⟨e, k⟩, w⟩ := wp
  obtain ⟨wi, J, hi, hwi, turns⟩ := w.ex
  have P := pe_dc (pos := pos) hc hN hi ok (tgE_up hg) (ttE_up ht) (teE_up hk) (teE_up he) hs
  exact pe_imp (pe_or' (pe_lock P) P) fun σ H Q h => dcD_go k hwi turns hw h
/-! ### for over a dict -/
def noXsr (r : SR) : SR := match r with
  | .exc _ _ _ _ => .bad
  | r => r
def sForD (m : EDen) (f : Key × D → D) (bd : BDen) (body : SDen) : SDen := fun ρ st => match m ρ st with
  | .ok (.dct kvs) st1 => noXsr (forGo bd body (kvs.map f) ρ st1)
  | _ => .bad
theorem SPost.pin {rs : SR} {F H : Hp} {L : List Addr} {σ : St} {ρ : REnv} {st : Store} {d : Addr} {u h h0 : HO} {D' Dn : Ends} (rl0 : Rl K mg Γ F L σ H ρ st) (hF : F d = some u) (hH : H d = some h0) (hh : Hd u h0) (hnx : ∀ σ' H', H' d = some h → D'.nx σ' (upd H' d h0) → Dn.nx σ' H') (hrt : ∀ v H', H' d = some h → D'.rt v (upd H' d h0) → Dn.rt v H')
    (q : SPost K mg Γ W { D' with bk := fun _ _ => False, ct := fun _ _ => False } (noXsr rs)) : SPost K mg (Γ.pin d u h) W { Dn with bk := fun _ _ => False, ct := fun _ _ => False } rs := by
  have r0 := rl0.notL0 hF
  cases rs with
  | nx ρ' st' => exact fun F' L' σ' H' rl' => hnx _ _ (Rl.held r0 rl').1 (q F' L' σ' _ (Rl.unpin rl0 hF hH hh rl'))
  | rt x st' => exact fun F' L' σ' H' ρ' v rl' kv => hrt _ _ (Rl.held r0 rl').1 (q F' L' σ' _ ρ' v (Rl.unpin rl0 hF hH hh rl') kv)
  | bk ρ' st' => exact fun F' L' σ' H' rl' => q F' L' σ' _ (Rl.unpin rl0 hF hH hh rl')
  | ct ρ' st' => exact fun F' L' σ' H' rl' => q F' L' σ' _ (Rl.unpin rl0 hF hH hh rl')
  | exc c fs ρ' st' => exact q.elim
  | bad => exact q.elim
theorem forGo_bk {bd : BDen} {mb : SDen} : ∀ (ds : List D) (ρ : REnv) (st : Store), (∀ ρ' st', forGo bd mb ds ρ st ≠ .bk ρ' st') ∧ (∀ ρ' st', forGo bd mb ds ρ st ≠ .ct ρ' st')
  | [], ρ, st => ⟨fun _ _ z => (by cases z), fun _ _ z => (by cases z)⟩
  | x :: ds, ρ, st => by
    unfold forGo
    cases bd x ρ with
    | none => exact ⟨fun _ _ z => (by cases z), fun _ _ z => (by cases z)⟩
    | some ρ1 =>
      dsimp only
      cases mb ρ1 st with
      | nx ρ2 st2 => exact forGo_bk ds ρ2 st2
      | ct ρ2 st2 => exact forGo_bk ds ρ2 st2
      | bk ρ2 st2 => exact ⟨fun _ _ z => (by cases z), fun _ _ z => (by cases z)⟩
      | rt _ _ => exact ⟨fun _ _ z => (by cases z), fun _ _ z => (by cases z)⟩
      | exc _ _ _ _ => exact ⟨fun _ _ z => (by cases z), fun _ _ z => (by cases z)⟩
      | bad => exact ⟨fun _ _ z => (by cases z), fun _ _ z => (by cases z)⟩
theorem SPost.noLoop {rs : SR} {D' : Ends} (hb : ∀ ρ' st', rs ≠ .bk ρ' st') (hc : ∀ ρ' st', rs ≠ .ct ρ' st') (q : SPost K mg Γ W D' rs) : SPost K mg Γ W { D' with bk := fun _ _ => False, ct := fun _ _ => False } rs := by
  cases rs with
  | bk ρ' st' => exact absurd rfl (hb _ _)
  | ct ρ' st' => exact absurd rfl (hc _ _)
  | _ => exact q
theorem forD_core {vs : List Nat} {mb : SDen} {F Hl : Hp} {L : List Addr} {σ : St} {ρ : REnv} {st1 : Store} {d : Addr} {u : HO} {ob : Obj} {kv : List (Key × V)} {kvs : List (Key × D)} {J : It} {Dn : Ends} (T : DTurns K mg J d ob kv f) (rk : RepK K mg F kvs kv) (n0 : d ∉ Γ.L0)
    (b : Rl K mg (Γ.pin d u (.frz ob (.dK kv))) F L σ Hl ρ st1) (q1 : SPost K mg (Γ.pin d u (.frz ob (.dK kv))) W Dn (forGo bd mb (kvs.map f) ρ st1)) :
    tFor (fun _ H R => R J H) (tgG K mg ((Γ.pin d u (.frz ob (.dK kv))).at F) vs bd) (tsG K mg ((Γ.pin d u (.frz ob (.dK kv))).at F) W mb) Dn σ Hl := by
  generalize hG : (Γ.pin d u (.frz ob (.dK kv))) = Γ' at *
  have hH0 : Γ'.H0 d = some (.frz ob (.dK kv)) := by rw [← hG]; exact upd_same
  have nL0 : d ∉ Γ'.L0 := by rw [← hG]; exact n0
  refine ⟨fun i m σ' H' => m + i = kvs.length ∧ ∃ F' L' ρ' st', Rl K mg (Γ'.at F) F' L' σ' H' ρ' st' ∧ SPost K mg (Γ'.at F) W Dn (forGo bd mb ((kvs.map f).drop i) ρ' st'), ⟨kvs.length, rfl, F, L, ρ, st1, b.anchor, q1.anchor b⟩, ?_⟩
  rintro i m σ' H' ⟨hm, F', L', ρ', st', rl', q'⟩
  have hd : H' d = some (.frz ob (.dK kv)) := (rl'.stp.kp d _ hH0 nL0).1
  obtain ⟨hstop, hgo⟩ := T rl'.sto (RepK.mono rl'.stp.ex _ rk) hd
  by_cases hi : i < kvs.length
  · right
    rw [drop_cons (by rw [List.length_map]; exact hi)] at q'
    unfold forGo at q'
    obtain ⟨g1, g2⟩ := hgo i kvs[i] (List.getElem?_eq_getElem hi)
    refine ⟨g1, fun σ2 H2 => (m - 1) + (i + 1) = kvs.length ∧ ∃ F2 L2 ρ2 st2, Rl K mg (Γ'.at F) F2 L2 σ2 H2 ρ2 st2 ∧ SPost K mg (Γ'.at F) W Dn (forGo bd mb ((kvs.map f).drop (i + 1)) ρ2 st2), fun σ2 H2 h => ⟨m - 1, by omega, h⟩, fun x H2 y => ?_⟩
    obtain ⟨F2, s2, o2, r2⟩ := g2 x H2 y
    have rl2 := rl'.step s2 o2
    rw [List.getElem_map] at q'
    cases hb1 : bd (f kvs[i]) ρ' with
    | none => rw [hb1] at q'; exact q'.elim
    | some ρ1 =>
      rw [hb1] at q'
      refine ⟨F2, L', ρ', st', f kvs[i], ρ1, rl2, r2, hb1, fun σ3 _ rl3 => ⟨F2, L', ρ1, st', rl3, ?_⟩⟩
      dsimp only at q'
      cases hb2 : mb ρ1 st' with
      | nx ρ2 st2 => rw [hb2] at q'; exact fun F3 L3 σ4 H4 rl4 => ⟨by omega, F3, L3, ρ2, st2, rl4, q'⟩
      | ct ρ2 st2 => rw [hb2] at q'; exact fun F3 L3 σ4 H4 rl4 => ⟨by omega, F3, L3, ρ2, st2, rl4, q'⟩
      | bk ρ2 st2 => rw [hb2] at q'; exact q'
      | rt d st2 => rw [hb2] at q'; exact q'
      | exc c fs ρ2 st2 => rw [hb2] at q'; exact q'
      | bad => rw [hb2] at q'; exact q'.elim
  · left
    have e : i = kvs.length := by omega
    subst e
    rw [show (kvs.map f).drop kvs.length = [] from List.drop_eq_nil_of_le (by simp)] at q'
    exact ⟨hstop, q' F' L' σ' H' rl'⟩
theorem s_forD {vs : List Nat} {stmts : List Stmt} {mb : SDen} (hp : PassesOwn (model X.prog X.w) X.A X.env X.xe) (hc : X.calm = true) (wp : DWp X K mg tg iter m r f) (hg : ∀ Γ, PG X tg (tgG K mg Γ vs bd)) (hb : ∀ Γ' : Ent, Γ'.x = Γ.x → PSs X stmts (tsG K mg Γ' W mb))
    (hs : ∀ x, foldedSetIterable iter X.env x = pure x := by intro _; rfl) : PS X (.For tg iter stmts [] pos) (tsG K mg Γ W (sForD m f bd mb)) := by
  obtain ⟨⟨e, k⟩, w⟩ := wp
  obtain ⟨wi, J, hi, hwi, turns⟩ := w.ex
  have g' : PG X tg (fun v σ H Q => ∃ Γ' : Ent, Γ'.x = Γ.x ∧ tgG K mg Γ' vs bd v σ H Q) := ⟨fun pins s σ H v u Q I r ⟨Γ', _, q⟩ => (hg Γ').run pins s σ H v u Q I r q⟩
  have b' : PSs X stmts (fun D σ H => ∃ Γ' : Ent, Γ'.x = Γ.x ∧ tsG K mg Γ' W mb D σ H) := ⟨fun pins s σ H D I ⟨Γ', e, q⟩ => (hb Γ' e).run pins s σ H D I q⟩
  have P := ps_for (pos := pos) hp hc hi g' b' hs
  refine ps_imp (ps_or (ps_lock P) P) fun D' σ H ⟨F, L, ρ, st, rl, q⟩ => ?_
  · unfold sForD at q
    cases hm : m ρ st with
    | bad => rw [hm] at q; exact q.elim
    | exc c fs st' => rw [hm] at q; exact q.elim
    | ok x st1 =>
      rw [hm] at q
      obtain ⟨rfl, v, hr, kv⟩ := k.at_ rl hm
      cases x with
      | dct kvs =>
        dsimp only at q
        obtain ⟨d, vs', u, h0, rfl, rk, hF, hH, hh, hcase⟩ := dct_at rl kv
        have core : ∀ (ob : Obj) (Dn : Ends), Hd u (.frz ob (.dK vs')) → r σ (upd H d (.frz ob (.dK vs'))) (.ref d) → (∀ σ' H', H' d = some (.frz ob (.dK vs')) → D'.nx σ' (upd H' d h0) → Dn.nx σ' H') → (∀ v H', H' d = some (.frz ob (.dK vs')) → D'.rt v (upd H' d h0) → Dn.rt v H') →
            tFor wi (fun v σ H Q => ∃ Γ' : Ent, Γ'.x = Γ.x ∧ tgG K mg Γ' vs bd v σ H Q) (fun D σ H => ∃ Γ' : Ent, Γ'.x = Γ.x ∧ tsG K mg Γ' W mb D σ H) Dn σ (upd H d (.frz ob (.dK vs'))) := by
          intro ob Dn hd' hr' hnx hrt
          have rl1 := rl.pin hF hd'
          refine hwi σ _ _ d ob vs' hr' upd_same ?_
          have q0 : SPost K mg Γ W { D' with bk := fun _ _ => False, ct := fun _ _ => False } (noXsr (forGo bd mb (kvs.map f) ρ st1)) := by
            refine SPost.noLoop (fun ρ' st' z => ?_) (fun ρ' st' z => ?_) q
            · cases hg2 : forGo bd mb (kvs.map f) ρ st1 with
              | bk _ _ => exact (forGo_bk (kvs.map f) ρ st1).1 _ _ hg2
              | _ => rw [hg2] at z; cases z
            · cases hg2 : forGo bd mb (kvs.map f) ρ st1 with
              | ct _ _ => exact (forGo_bk (kvs.map f) ρ st1).2 _ _ hg2
              | _ => rw [hg2] at z; cases z
          have q1 := SPost.pin (Dn := Dn) (h := .frz ob (.dK vs')) rl hF hH hh hnx hrt q0
          obtain ⟨Wi, hW, turn⟩ := forD_core (W := W) (vs := vs) (mb := mb) (bd := bd) (turns d ob vs') rk (rl.notL0 hF) rl1 q1
          refine ⟨Wi, hW, fun i m σ' H' w => ?_⟩
          rcases turn i m σ' H' w with h | ⟨g1, N, hN, g2⟩
          · exact .inl h
          · refine .inr ⟨g1, N, hN, fun x H2 y => ⟨(Γ.pin d u (.frz ob (.dK vs'))).at F, rfl, ?_⟩⟩
            obtain ⟨F3, L3, ρ3, st3, d3, ρ', r1, r2, r3, r4⟩ := g2 x H2 y
            exact ⟨F3, L3, ρ3, st3, d3, ρ', r1, r2, r3, fun σ' o rl' => ⟨(Γ.pin d u (.frz ob (.dK vs'))).at F, rfl, r4 σ' o rl'⟩⟩
        rcases hcase with ⟨rfl, rfl⟩ | ⟨ob, rfl⟩
        · refine .inl ⟨d, .dK vs', hH, True.intro, fun od => ?_⟩
          exact core od ⟨fun σ' H' => H' d = some (.frz od (.dK vs')) ∧ D'.nx σ' (upd H' d (.dK vs')), fun v H' => H' d = some (.frz od (.dK vs')) ∧ D'.rt v (upd H' d (.dK vs')), fun σ' H' => H' d = some (.frz od (.dK vs')) ∧ D'.bk σ' (upd H' d (.dK vs')), fun σ' H' => H' d = some (.frz od (.dK vs')) ∧ D'.ct σ' (upd H' d (.dK vs'))⟩ (.inr ⟨od, vs', rfl, rfl⟩) (k.lock hr hH) (fun σ' H' a b => ⟨a, b⟩) fun v H' a b => ⟨a, b⟩
        · refine .inr ?_
          have z := core ob D' hh (by rw [upd_id hH]; exact hr) (fun σ' H' a b => by
            rw [upd_id a] at b
            exact b) fun v H' a b => by
            rw [upd_id a] at b
            exact b
          rw [upd_id hH] at z
          exact z
      | _ => exact q.elim
end
end Gh
/-! Gh28: sets of numbers and texts: made of a list or a tuple, sorted, their length. -/
namespace Gh
open L2 PyProof.Rows PySem.Spec PySem
/-- the key of an entry -/
def entK (e : Int × Value) : Key := match e.2 with
  | .int k _ => .inl k
  | .str x _ => .inr x
  | _ => .inl 0
def EntOk (w : World) (e : Int × Value) : Prop := ∃ k : Key, keyIs k e.2 = true ∧ e.1 = keyH w k
/-- at a: a set whose members' keys are those of l, each once -/
def KSet (w : World) (h : Heap) (a : Addr) (l : List Key) : Prop := ∃ o es ep t, h.get? a = some o ∧ o.ExactSet ∧ o.data = .set es ep t ∧ (∀ e ∈ es.toList, EntOk w e) ∧ (es.toList.map entK).Perm l ∧ l.Nodup ∧
  es.size < scanBound ∧ t.fits es.size = true ∧ Ris t.place.toList ∧ (w.params.followText "set-order" = true ∨ t.led = true)
theorem entK_is {k : Key} {e : Int × Value} (h : keyIs k e.2 = true) : entK e = k := by
  rcases keyIs_shape h with ⟨i, t, rfl, e1⟩ | ⟨x, t, rfl, e1⟩ <;> (unfold entK; rw [e1])
section
variable {P : Program} {w : World} {A : Around} {E : Value → Shared → Prop} {s : Shared} {a : Addr} {l : List Key}
theorem ents_elems {es : List (Int × Value)} (g : ∀ e ∈ es, EntOk w e) : ElemsOf (mixKind P w) es := fun e he => by
  obtain ⟨k, h1, h2⟩ := g e he
  refine ⟨⟨k, h1, h2⟩, ?_⟩
  rcases keyIs_shape h1 with ⟨i, t, rfl, e1⟩ | ⟨x, t, rfl, e1⟩ <;> (rw [e1]; rfl)
theorem ent_is {e : Int × Value} (g : EntOk w e) (k : Key) : (mixKind P w).is k e.2 = true ↔ entK e = k := by
  obtain ⟨k0, h1, _⟩ := g
  constructor
  · intro h
    exact entK_is h
  · intro h
    rw [entK_is h1] at h
    subst h
    exact h1
theorem KSet.at {h h' : Heap} (R : KSet w h a l) (k : ∀ o, h.get? a = some o → h'.get? a = some o) : KSet w h' a l := by
  obtain ⟨o, es, ep, t, ho, r⟩ := R
  exact ⟨o, es, ep, t, k o ho, r⟩
/-- the end of an adding: the table is laid anew if it is too full -/
theorem kset_tail {g : Bool → Sem Unit} (hg : ∀ (b : Bool) (s₁ : Shared) (Q' : Unit → Shared → Prop), Q' () s₁ → wpAny (model P w) A (g b) Q' E s₁) {o : Obj} {es : Array (Int × Value)} {ep : Nat} {t : SetTable} (ho : s.heap.get? a = some o) (hex : o.ExactSet) (hd : o.data = .set es ep t)
    {es1 : Array (Int × Value)} {t2 : SetTable} {l' : List Key} (g1 : ∀ e ∈ es1.toList, EntOk w e) (p1 : (es1.toList.map entK).Perm l') (nd : l'.Nodup) (hb1 : es1.size < scanBound) (hf2 : t2.fits es1.size = true) (hr : Ris t2.place.toList) (hl : w.params.followText "set-order" = true ∨ t2.led = true)
    {wasDummy : Bool} {R : Option Bool → Shared → Prop} (hR : ∀ h', Heap.SameBut a s.heap h' → KSet w h' a l' → R (some true) { s with heap := h' }) :
    wpAny (model P w) A (do
      storeSet a es1 t2
      if (!wasDummy && t2.tooFull) = true then do
        g (relayAll t2 es1 (SetTable.grown es1.size)).2.2
        storeSet a (relayAll t2 es1 (SetTable.grown es1.size)).1 (relayAll t2 es1 (SetTable.grown es1.size)).2.1
        pure (some true)
      else pure (some true)) R E s := by
  refine wpAny_bind (wpAny_storeSet_of ho hd ?_ (fits_of_scanBound hb1))
  have at1 := store_at (es' := es1) (t' := t2) ho hd
  have same1 := Heap.SameBut.update s.heap a (Obj.putSet es1 t2)
  split
  · have pm := relayAll_perm t2 es1 (SetTable.grown es1.size)
    have f3 := relayAll_fits t2 es1 (SetTable.grown es1.size)
    have r3 := relayAll_ris t2 es1 (SetTable.grown es1.size)
    have l3 := relayAll_led t2 es1 (SetTable.grown es1.size)
    generalize relayAll t2 es1 (SetTable.grown es1.size) = Z at pm f3 r3 l3 ⊢
    obtain ⟨es2, t3, gave⟩ := Z
    dsimp only at pm f3 r3 l3 ⊢
    have z2 : es2.size = es1.size := by rw [← Array.length_toList, pm.length_eq, Array.length_toList]
    have b2 : es2.size < scanBound := by rw [z2]; exact hb1
    refine wpAny_bind (hg _ _ _ ?_)
    refine wpAny_bind (wpAny_storeSet_of at1 rfl ?_ (fits_of_scanBound b2))
    have at2 := store_at (es' := es2) (t' := t3) at1 rfl
    refine wpAny_pure (hR _ (same1.trans (Heap.SameBut.update _ a _)) ⟨_, es2, _, t3, at2, hex, rfl, fun e he => g1 e (pm.mem_iff.mp he), (pm.map entK).trans p1, nd, b2, f3, r3, ?_⟩)
    rcases hl with z | z
    · exact .inl z
    · exact .inr (by rw [l3]; exact z)
  · exact wpAny_pure (hR _ same1 ⟨_, es1, _, t2, at1, hex, rfl, g1, p1, nd, hb1, hf2, hr, hl⟩)
def hasK (l : List Key) (k : Key) : Bool := l.any fun j => decide (j = k)
theorem hasK_iff {l : List Key} {k : Key} : hasK l k = true ↔ k ∈ l := by
  unfold hasK
  rw [List.any_eq_true]
  constructor
  · rintro ⟨j, h1, h2⟩
    exact of_decide_eq_true h2 ▸ h1
  · exact fun h => ⟨k, h, decide_eq_true rfl⟩
def addK (l : List Key) (k : Key) : List Key := if hasK l k = true then l else k :: l
theorem addK_in {l : List Key} {k : Key} (h : k ∈ l) : addK l k = l := if_pos (hasK_iff.mpr h)
theorem addK_out {l : List Key} {k : Key} (h : k ∉ l) : addK l k = k :: l := if_neg fun z => h (hasK_iff.mp z)
theorem kset_add {k : Key} {u : Value} {Q : Bool → Shared → Prop} (hk : keyIs k u = true) (R : KSet w s.heap a l) (room : l.length + 1 < scanBound) (hQ : ∀ b h', Heap.SameBut a s.heap h' → KSet w h' a (addK l k) → Q b { s with heap := h' }) :
    wpAny (model P w) A (setAddHashed a u ((mixKind P w).hash k)) Q E s := by
  obtain ⟨o, es, ep, t, ho, hex, hd, g, pm0, nd, hb, hf, hr, hl⟩ := R
  have len0 : es.size = l.length := by rw [← pm0.length_eq, List.length_map, Array.length_toList]
  have sc : u.scannable = true := by
    rcases keyIs_shape hk with ⟨i, t, rfl, e1⟩ | ⟨x, t, rfl, e1⟩ <;> (rw [e1]; rfl)
  have el : ElemsOf (mixKind P w) es.toList := ents_elems g
  unfold setAddHashed setAddHashedIn
  refine wpAny_holding (wpAny_bind (wpAny_setState_of ho hd hf ?_))
  dsimp only
  rw [byScan_of sc hb el]
  simp only [↓reduceIte]
  unfold setAddByScan
  refine wpAny_bind ?_
  refine wpAny_bind (wpAny_rule ?_)
  refine wpAny_bind (wpAny_setScan_of hk ho hd hf el ?_)
  cases at_ : List.findIdx? (fun e => (mixKind P w).is k e.2) es.toList with
  | some j =>
    dsimp only
    obtain ⟨hj, pj, _⟩ := List.findIdx?_eq_some_iff_getElem.mp at_
    have hin : k ∈ l := pm0.mem_iff.mp (List.mem_map.mpr ⟨_, List.getElem_mem hj, entK_is pj⟩)
    refine wpAny_pure (wpAny_pure ?_)
    refine hQ _ s.heap (Heap.SameBut.refl a s.heap) ?_
    rw [addK_in hin]
    exact ⟨o, es, ep, t, ho, hex, hd, g, pm0, nd, hb, hf, hr, hl⟩
  | none =>
    dsimp only
    have out : k ∉ l := fun z => by
      obtain ⟨e, he, q⟩ := List.mem_map.mp (pm0.mem_iff.mpr z)
      have c := List.findIdx?_eq_none_iff.mp at_ e he
      rw [(ent_is (P := P) (g e he) k).mpr q] at c
      cases c
    have gw : ∀ (b : Bool) {s₁ : Shared} {Q' : Unit → Shared → Prop}, Q' () s₁ → wpAny (model P w) A (match b with | true => rule "set.scan.the-table-gave-way" | false => pure ()) Q' E s₁ := fun b s₁ Q' q => by
      cases b with
      | true => exact wpAny_rule q
      | false => exact wpAny_pure q
    have q1 := layNew_perm t es ((mixKind P w).hash k) u
    have q2 := layNew_fits t es ((mixKind P w).hash k) u
    have q3 := layNew_ris t es ((mixKind P w).hash k) u hr
    have q4 := layNew_led t es ((mixKind P w).hash k) u
    generalize layNew t es ((mixKind P w).hash k) u = Z at q1 q2 q3 q4 ⊢
    obtain ⟨es1, t1, wasDummy, gave⟩ := Z
    dsimp only at q1 q2 q3 q4 ⊢
    rw [Array.toList_push] at q1
    have pc : es1.toList.Perm (((mixKind P w).hash k, u) :: es.toList) := q1.trans (List.perm_append_singleton _ _)
    have g1 : ∀ e ∈ es1.toList, EntOk w e := fun e he => by
      rcases List.mem_cons.mp (pc.mem_iff.mp he) with rfl | z
      · exact ⟨k, hk, rfl⟩
      · exact g e z
    have pk : (es1.toList.map entK).Perm (addK l k) := by
      rw [addK_out out]
      refine (pc.map entK).trans ?_
      rw [List.map_cons, show entK ((mixKind P w).hash k, u) = k from entK_is hk]
      exact pm0.cons k
    have nd1 : (addK l k).Nodup := by
      rw [addK_out out]
      exact List.nodup_cons.mpr ⟨out, nd⟩
    have z1 : es1.size = l.length + 1 := by rw [← Array.length_toList, pc.length_eq, List.length_cons, Array.length_toList, len0]
    have hb1 : es1.size < scanBound := by rw [z1]; exact room
    have hled : w.params.followText "set-order" = true ∨ t1.led = true := hl.imp id fun z => by rw [q4]; exact z
    refine wpAny_bind (gw _ ?_)
    split
    · refine wpAny_bind ?_
      rw [hashByValue_scannable 8 sc]
      refine wpAny_pure ?_
      refine kset_tail ?_ ho hex hd g1 pk nd1 hb1 ?_ ?_ ?_ ?_
      · intro b s₁ Q' q; cases b <;> first | exact wpAny_pure q | exact wpAny_rule q
      · first | (split <;> first | exact q2 | exact SetTable.fits_plain_off q2) | exact q2
      · first | (split <;> exact q3) | exact q3
      · first | (split <;> exact hled) | exact hled
      · intro h' sb r; dsimp only; exact wpAny_pure (hQ _ h' sb r)
    · refine wpAny_bind (wpAny_pure ?_)
      simp only [↓reduceIte]
      refine kset_tail ?_ ho hex hd g1 pk nd1 hb1 q2 q3 hled ?_
      · intro b s₁ Q' q; cases b <;> first | exact wpAny_pure q | exact wpAny_rule q
      · intro h' sb r; dsimp only; exact wpAny_pure (hQ _ h' sb r)
theorem kset_fresh {h : Heap} (ho : h.get? a = some { cls := .type "set", dict := none, data := .set #[] 0 (.fresh 0 0 (!w.params.followText "set-order")) }) : KSet w h a [] :=
  ⟨_, #[], 0, _, ho, ⟨rfl, rfl, rfl⟩, rfl, (fun e he => by simp at he), List.Perm.nil, List.nodup_nil, (by decide), (by rfl), List.Pairwise.nil, by
    show _ ∨ (!w.params.followText "set-order") = true
    cases w.params.followText "set-order" with
    | true => exact .inl rfl
    | false => exact .inr rfl⟩
end
/-- what is gathered from a row of keys -/
def setK (ks : List Key) : List Key := ks.foldl addK []
theorem setK_take {ks : List Key} {i : Nat} {k : Key} (h : ks[i]? = some k) : setK (ks.take (i + 1)) = addK (setK (ks.take i)) k := by
  unfold setK
  rw [List.take_add_one, h, List.foldl_append]
  rfl
theorem addK_len (l : List Key) (k : Key) : (addK l k).length ≤ l.length + 1 := by
  unfold addK
  split
  · omega
  · exact Nat.le_refl _
theorem foldl_addK_len : ∀ (ks l : List Key), (ks.foldl addK l).length ≤ l.length + ks.length
  | [], l => Nat.le_refl _
  | k :: ks, l => by
    have := foldl_addK_len ks (addK l k)
    have := addK_len l k
    simp only [List.foldl_cons, List.length_cons]
    omega
theorem setK_len (ks : List Key) : (setK ks).length ≤ ks.length := by
  have := foldl_addK_len ks []
  simpa [setK] using this
inductive Each2 {α β : Type} (R : α → β → Prop) : List α → List β → Prop
  | nil : Each2 R [] []
  | cons {a : α} {b : β} {as : List α} {bs : List β} : R a b → Each2 R as bs → Each2 R (a :: as) (b :: bs)
theorem Each2.len {α β : Type} {R : α → β → Prop} {as : List α} {bs : List β} (h : Each2 R as bs) : as.length = bs.length := by
  induction h with
  | nil => rfl
  | cons _ _ ih => rw [List.length_cons, List.length_cons, ih]
theorem Each2.at_ {α β : Type} {R : α → β → Prop} {as : List α} {bs : List β} (h : Each2 R as bs) : ∀ {i : Nat} {b : β}, bs[i]? = some b → ∃ a, as[i]? = some a ∧ R a b := by
  induction h with
  | nil => intro i b e; simp at e
  | cons r _ ih =>
    intro i b e
    cases i with
    | zero =>
      simp only [List.getElem?_cons_zero, Option.some.injEq] at e
      subst e
      exact ⟨_, rfl, r⟩
    | succ i => exact ih (by simpa using e)
abbrev setObj0 (w : World) : Obj := { cls := .type "set", dict := none, data := .set #[] 0 (.fresh 0 0 (!w.params.followText "set-order")) }
section
variable {P : Program} {w : World} {A : Around} {E : Value → Shared → Prop} {s : Shared}
theorem loopK {I : Addr} {fp wr : List Addr} {G : Array GenState → Array GenState → Prop} {n : Nat} {Pv : Nat → Value → Prop} {St : Nat → Shared → Prop} {R : Result → Shared → Prop} (W : WalksS P w A.in1 I fp wr G n Pv St) (S : Addr) (nS : S ∉ fp) (ks : List Key) (hn : n = ks.length) (hb : ks.length + 1 < scanBound)
    (hval : ∀ i v, Pv i v → ∃ k, ks[i]? = some k ∧ keyIs k v = true) : ∀ (k i : Nat) (s : Shared), n - i = k → i ≤ n → St i s → KSet w s.heap S (setK (ks.take i)) →
      (∀ s', Moved (S :: wr) G s s' → KSet w s'.heap S (setK ks) → R (.ok (.ret .none)) s') → codeAny (model P w) A (.builtin "set.update.loop" ⟨[.ref S, .ref I], []⟩) R s := by
  have nW : S ∉ wr := fun h => nS (W.sub _ h)
  have more : ∀ b ∈ wr, b ∈ S :: wr := fun b hb => List.mem_cons_of_mem _ hb
  intro k
  induction k with
  | zero =>
    intro i s hk hi hst hS hR
    obtain rfl : i = n := by omega
    refine codeAny_builtin F.entry_set_update_loop ?_
    rw [Around.under_plainId F.plain_set_update_loop _]
    show wpAny _ A.in1 (pyNext (.ref I) >>= _) _ _ s
    refine wpAny_bind (W.done s _ _ hst fun s' hm => ?_)
    show wpAny _ A.in1 (ret Value.none) _ _ s'
    rw [hn, List.take_length] at hS
    exact wpAny_pure (hR s' (hm.mono more) (hS.at fun o e => hm.heap S o nW e))
  | succ k ih =>
    intro i s hk hi hst hS hR
    have hlt : i < n := by omega
    refine codeAny_builtin F.entry_set_update_loop ?_
    rw [Around.under_plainId F.plain_set_update_loop _]
    show wpAny _ A.in1 (pyNext (.ref I) >>= _) _ _ s
    refine wpAny_bind (W.item i s _ _ hlt hst fun v s' hP hst' hm => ?_)
    obtain ⟨kk, hkk, hv⟩ := hval i v hP
    have hS' : KSet w s'.heap S (setK (ks.take i)) := hS.at fun o e => hm.heap S o nW e
    show wpAny _ A.in1 (holding [v] (setAdd S v) >>= _) _ _ s'
    refine wpAny_bind (wpAny_holding ?_)
    unfold setAdd
    refine wpAny_holding ?_
    refine wpAny_bind ((mixKind P w).pyHash (k := kk) hv ?_)
    have room : (setK (ks.take i)).length + 1 < scanBound := by
      have := setK_len (ks.take i)
      rw [List.length_take] at this
      omega
    refine kset_add (s := { s' with toks := s'.toks + 1 }) hv hS' room fun b h' hsb hS2 => ?_
    rw [← setK_take hkk] at hS2
    refine wpAny_pure ⟨plainId_quiet F.plain_set_update_loop _, ih (i + 1) _ (by omega) hlt (W.frame _ s' _ _ hst' (Nat.le_succ _) fun b hb o e => ?_) hS2 fun s'' hm'' hS'' => ?_⟩
    · rw [hsb.2 b (fun h : b = S => nS (by rw [← h]; exact hb))]
      exact e
    · refine hR s'' (Moved.trans W.gtrans ((hm.mono more).then_heap (Nat.le_succ _) fun b o hb e => ?_) hm'') hS''
      rw [hsb.2 b (fun h : b = S => hb (by rw [h]; exact List.mem_cons_self))]
      exact e

set_option maxHeartbeats 6400000 in
theorem call_set_list {b : Addr} {items : Array Value} (ks : List Key) {Q : Value → Shared → Prop} (hh : A.handled = none) (hl : s.heap.IsList b items) (hit : Each2 (fun k v => keyIs k v = true) ks items.toList) (hb : ks.length + 1 < scanBound)
    (q : ∀ (h' : Heap) (tk : Nat), KSet w h' s.heap.objs.size (setK ks) → (∀ b o, s.heap.get? b = some o → h'.get? b = some o) → Q (.ref s.heap.objs.size) { s with heap := h', toks := tk }) : wpAny (model P w) A (call (.type "set") [.ref b]) Q E s := by
  have isz : items.size = ks.length := by rw [← Array.length_toList, ← hit.len]
  obtain ⟨c, tl, hmro⟩ := F.called_set.mro
  have made := F.called_set.made
  have subs := F.called_set.sub
  refine wpAny_call (codeAny_of_tree ?_)
  show wpAny _ _ (callAny (.type "set") _) _ _ _
  refine wpAny_pure ⟨Code.quiet_builtin _ (by decide +kernel), codeAny_builtin F.entry_type_call ?_⟩
  rw [Around.under_plain (weight_type_call_type "set" [.ref b] []) rfl]
  have x1 := F.called_set.notType
  have x2 := F.called_set.canCreate
  have x3 := F.typeCall_set_1 (.ref b)
  repeat (any_goals (first | assumption | wp_step))
  refine codeAny_mono (code_set_led1 (.ref b) (E := E) (Q₁ := fun obj s₁ => obj = .ref s.heap.objs.size ∧ s₁ = { s with heap := s.heap.push (setObj0 w) }) ⟨rfl, rfl⟩) fun r s₁ hr => ?_
  cases r with
  | error e => exact hr
  | ok fl =>
    cases fl with
    | ret obj =>
      obtain ⟨rfl, rfl⟩ := hr
      have oS : (s.heap.push (setObj0 w)).get? s.heap.objs.size = some (setObj0 w) := Heap.get?_push_size _ rfl
      have tS : Shared.TypeIs { s with heap := s.heap.push (setObj0 w) } (.ref s.heap.objs.size) "set" := ⟨_, oS, rfl⟩
      have y1 := F.called_set.init.lookup
      have y2 := F.called_set.init.bind (.ref s.heap.objs.size)
      repeat (any_goals (first | assumption | wp_step))
      refine codeAny_mono (codeAny_call_builtin (R := wants (fun r s₂ => r = .none ∧ ∃ h' tk, s₂ = { s with heap := h', toks := tk } ∧ KSet w h' s.heap.objs.size (setK ks) ∧ (∀ b o, s.heap.get? b = some o → h'.get? b = some o)) E) F.called_set.init.plain F.entry_set_init (check_set_init_1 tS ?_)) fun r₂ s₂ hr₂ => ?_
      · obtain ⟨ol, hol, hcl, nl, hdl⟩ := hl
        obtain ⟨ocls, odict, odata, oslots⟩ := ol
        simp only at hcl hdl
        subst hcl; subst hdl
        have oL : (s.heap.push (setObj0 w)).get? b = some { cls := .type "list", dict := odict, data := .seq items nl, slots := oslots } := Heap.get?_push_of_some _ hol
        have z1 := F.sub_list_set
        have z2 := F.sub_list_frozenset
        have z3 : (Value.type "list" == Value.type "dict") = false := by decide
        have hl1 : (s.heap.push (setObj0 w)).IsList b items := ⟨_, oL, rfl, nl, rfl⟩
        unfold Builtin.«set.__init__» noKeywords Builtin.Frozenset.updateFrom
        generalize hPI : pyIter = PI
        wp_walk
        subst hPI
        refine wpAny_pyIter_list hl1 ?_
        refine wpAny_bind (wpAny_runValue ?_)
        have bS : b < s.heap.objs.size := Heap.lt_size hol
        have hh3 : A.in1.in1.in1.handled = none := by simp [hh]
        have neI : b ≠ (s.heap.push (setObj0 w)).objs.size := by
          rw [Heap.size_push]
          exact Nat.ne_of_lt (Nat.lt_succ_of_lt bS)
        have nS : s.heap.objs.size ∉ [(s.heap.push (setObj0 w)).objs.size, b] := by
          rw [Heap.size_push]
          simp only [List.mem_cons, List.not_mem_nil, or_false, not_or]
          exact ⟨Nat.ne_of_lt (Nat.lt_succ_self _), Nat.ne_of_gt bS⟩
        refine loopK ((Walks.list hh3 _ b neI items).toS) s.heap.objs.size nS ks isz hb (fun i v hv => hit.at_ (by rw [Array.getElem?_toList]; exact hv)) (items.size - 0) 0 _ (by omega) (Nat.zero_le _)
          ⟨⟨_, Heap.get?_push_size _ rfl, rfl, rfl⟩, (hl1.push _)⟩ ?hS0 ?hR
        case hS0 => exact kset_fresh (Heap.get?_push_of_some _ oS)
        case hR =>
          intro s' hm hS'
          obtain ⟨h', g2, d', tk', os'⟩ := s'
          obtain rfl : g2 = s.gens := hm.gens
          obtain rfl : d' = s.drawn := hm.drawn
          obtain rfl : os' = s.os := hm.os
          show wpAny _ _ _ _ _ _
          refine wpAny_pure ?_
          show wpAny _ _ (ret Value.none) _ _ _
          refine wpAny_pure ⟨rfl, h', tk', rfl, hS', fun c o e => ?_⟩
          have hc := Heap.lt_size e
          refine hm.heap c o ?_ (Heap.get?_push_of_some _ (Heap.get?_push_of_some _ e))
          rw [Heap.size_push]
          simp only [List.mem_cons, List.not_mem_nil, or_false, not_or]
          exact ⟨Nat.ne_of_lt hc, Nat.ne_of_lt (Nat.lt_succ_of_lt hc)⟩
      · cases r₂ with
        | error e => exact hr₂
        | ok fl₂ =>
          cases fl₂ with
          | ret r =>
            obtain ⟨rfl, h', tk, rfl, hS', hk'⟩ := hr₂
            repeat (any_goals (first | assumption | wp_step))
            exact q _ _ hS' hk'
          | _ => exact hr₂.elim
    | _ => exact hr.elim

set_option maxHeartbeats 6400000 in
theorem call_set_tup {b : Addr} {items : Array Value} (ks : List Key) {Q : Value → Shared → Prop} (hh : A.handled = none) (hl : s.heap.IsTuple b items) (hit : Each2 (fun k v => keyIs k v = true) ks items.toList) (hb : ks.length + 1 < scanBound)
    (q : ∀ (h' : Heap) (tk : Nat), KSet w h' s.heap.objs.size (setK ks) → (∀ b o, s.heap.get? b = some o → h'.get? b = some o) → Q (.ref s.heap.objs.size) { s with heap := h', toks := tk }) : wpAny (model P w) A (call (.type "set") [.ref b]) Q E s := by
  have isz : items.size = ks.length := by rw [← Array.length_toList, ← hit.len]
  obtain ⟨c, tl, hmro⟩ := F.called_set.mro
  have made := F.called_set.made
  have subs := F.called_set.sub
  refine wpAny_call (codeAny_of_tree ?_)
  show wpAny _ _ (callAny (.type "set") _) _ _ _
  refine wpAny_pure ⟨Code.quiet_builtin _ (by decide +kernel), codeAny_builtin F.entry_type_call ?_⟩
  rw [Around.under_plain (weight_type_call_type "set" [.ref b] []) rfl]
  have x1 := F.called_set.notType
  have x2 := F.called_set.canCreate
  have x3 := F.typeCall_set_1 (.ref b)
  repeat (any_goals (first | assumption | wp_step))
  refine codeAny_mono (code_set_led1 (.ref b) (E := E) (Q₁ := fun obj s₁ => obj = .ref s.heap.objs.size ∧ s₁ = { s with heap := s.heap.push (setObj0 w) }) ⟨rfl, rfl⟩) fun r s₁ hr => ?_
  cases r with
  | error e => exact hr
  | ok fl =>
    cases fl with
    | ret obj =>
      obtain ⟨rfl, rfl⟩ := hr
      have oS : (s.heap.push (setObj0 w)).get? s.heap.objs.size = some (setObj0 w) := Heap.get?_push_size _ rfl
      have tS : Shared.TypeIs { s with heap := s.heap.push (setObj0 w) } (.ref s.heap.objs.size) "set" := ⟨_, oS, rfl⟩
      have y1 := F.called_set.init.lookup
      have y2 := F.called_set.init.bind (.ref s.heap.objs.size)
      repeat (any_goals (first | assumption | wp_step))
      refine codeAny_mono (codeAny_call_builtin (R := wants (fun r s₂ => r = .none ∧ ∃ h' tk, s₂ = { s with heap := h', toks := tk } ∧ KSet w h' s.heap.objs.size (setK ks) ∧ (∀ b o, s.heap.get? b = some o → h'.get? b = some o)) E) F.called_set.init.plain F.entry_set_init (check_set_init_1 tS ?_)) fun r₂ s₂ hr₂ => ?_
      · obtain ⟨ol, hol, hcl, nl, hdl⟩ := hl
        obtain ⟨ocls, odict, odata, oslots⟩ := ol
        simp only at hcl hdl
        subst hcl; subst hdl
        have oL : (s.heap.push (setObj0 w)).get? b = some { cls := .type "tuple", dict := odict, data := .seq items nl, slots := oslots } := Heap.get?_push_of_some _ hol
        have z1 := F.sub_tuple_set
        have z2 := F.sub_tuple_frozenset
        have z3 : (Value.type "tuple" == Value.type "dict") = false := by decide
        have hl1 : (s.heap.push (setObj0 w)).IsTuple b items := ⟨_, oL, rfl, nl, rfl⟩
        unfold Builtin.«set.__init__» noKeywords Builtin.Frozenset.updateFrom
        generalize hPI : pyIter = PI
        wp_walk
        subst hPI
        refine wpAny_pyIter_tuple hl1 ?_
        refine wpAny_bind (wpAny_runValue ?_)
        have bS : b < s.heap.objs.size := Heap.lt_size hol
        have hh3 : A.in1.in1.in1.handled = none := by simp [hh]
        have neI : b ≠ (s.heap.push (setObj0 w)).objs.size := by
          rw [Heap.size_push]
          exact Nat.ne_of_lt (Nat.lt_succ_of_lt bS)
        have nS : s.heap.objs.size ∉ [(s.heap.push (setObj0 w)).objs.size, b] := by
          rw [Heap.size_push]
          simp only [List.mem_cons, List.not_mem_nil, or_false, not_or]
          exact ⟨Nat.ne_of_lt (Nat.lt_succ_self _), Nat.ne_of_gt bS⟩
        refine loopK ((Walks.tuple hh3 _ b neI items).toS) s.heap.objs.size nS ks isz hb (fun i v hv => hit.at_ (by rw [Array.getElem?_toList]; exact hv)) (items.size - 0) 0 _ (by omega) (Nat.zero_le _)
          ⟨⟨_, Heap.get?_push_size _ rfl, rfl, rfl⟩, (hl1.push _)⟩ ?hS0 ?hR
        case hS0 => exact kset_fresh (Heap.get?_push_of_some _ oS)
        case hR =>
          intro s' hm hS'
          obtain ⟨h', g2, d', tk', os'⟩ := s'
          obtain rfl : g2 = s.gens := hm.gens
          obtain rfl : d' = s.drawn := hm.drawn
          obtain rfl : os' = s.os := hm.os
          show wpAny _ _ _ _ _ _
          refine wpAny_pure ?_
          show wpAny _ _ (ret Value.none) _ _ _
          refine wpAny_pure ⟨rfl, h', tk', rfl, hS', fun c o e => ?_⟩
          have hc := Heap.lt_size e
          refine hm.heap c o ?_ (Heap.get?_push_of_some _ (Heap.get?_push_of_some _ e))
          rw [Heap.size_push]
          simp only [List.mem_cons, List.not_mem_nil, or_false, not_or]
          exact ⟨Nat.ne_of_lt hc, Nat.ne_of_lt (Nat.lt_succ_of_lt hc)⟩
      · cases r₂ with
        | error e => exact hr₂
        | ok fl₂ =>
          cases fl₂ with
          | ret r =>
            obtain ⟨rfl, h', tk, rfl, hS', hk'⟩ := hr₂
            repeat (any_goals (first | assumption | wp_step))
            exact q _ _ hS' hk'
          | _ => exact hr₂.elim
    | _ => exact hr.elim

end
end Gh
/-! Gh29: sorted of lists, tuples, sets. -/
namespace Gh
open L2 PyProof.Rows PySem.Spec PySem
open PySem.W (EachIs AllAlike alike dataLe)
/-! ### what is collected of a list, a tuple -/
section
variable {P : Program} {w : World} {A : Around} {E : Value → Shared → Prop} {s : Shared}
theorem gather_seq {it : Addr} {T : String} {o : Obj} {items : Array Value} {n : Nat} {Q : List Value → Shared → Prop} (hT : T = "list" ∨ T = "tuple") (ho : s.heap.get? it = some o) (hc : o.cls = .type T) (hd : o.data = .seq items n) (hz : items.size ≤ sizeLine)
    (q : ∀ h', (∀ b o', s.heap.get? b = some o' → h'.get? b = some o') → s.heap.objs.size ≤ h'.objs.size → Q items.toList { s with heap := h' }) : wpAny (model P w) A (collect (.ref it)) Q E s := by
  have new : (s.heap.push (seqObj "list" #[] 0)).get? s.heap.objs.size = some (seqObj "list" #[] 0) := Heap.get?_push_size _ rfl
  have new2 := Heap.get?_update_self (Obj.mapSeq (· ++ items)) new rfl
  have goal2 : Q items.toList { s with heap := (s.heap.push (seqObj "list" #[] 0)).update s.heap.objs.size (Obj.mapSeq (· ++ items)) } := by
    refine q _ (fun b o' hb => ?_) ?_
    · exact (Heap.get?_update_other _ _ (Nat.ne_of_gt (Heap.lt_size hb))).trans (Heap.get?_push_of_some _ hb)
    · have lt := Heap.lt_size new2
      exact Nat.le_of_lt lt
  have last : wpAny (model P w) A (match Value.ref s.heap.objs.size with
      | Value.ref a => do
        match (← load a).data with
        | Data.seq xs _ => pure xs.toList
        | _ => unsupported "internal:collect"
      | _ => unsupported "internal:collect") Q E { s with heap := (s.heap.push (seqObj "list" #[] 0)).update s.heap.objs.size (Obj.mapSeq (· ++ items)) } := by
    show wpAny _ A (load s.heap.objs.size >>= _) _ _ _
    refine wpAny_bind (wpAny_load new2 (wpAny_pure ?_))
    show Q ((#[] : Array Value) ++ items).toList _
    rw [show ((#[] : Array Value) ++ items).toList = items.toList by simp]
    exact goal2
  unfold collect
  refine wpAny_bind (wpAny_runValue (codeAny_builtin F.entry_proto_collect ?_))
  rw [Around.under_plainId F.plain_proto_collect _]
  show wpAny _ A.in1 (newList [] >>= fun l => again (.builtin "list.__iadd__" ⟨[l, .ref it], []⟩)) _ _ s
  refine wpAny_bind (wpAny_newObj_type (wpAny_pure ⟨plainId_quiet F.plain_list_iadd _, codeAny_builtin F.entry_list_iadd ?_⟩))
  rw [Around.under_plainId F.plain_list_iadd _]
  refine wpAny_mono (wpAny_extend_seq (hsz := hz) (A := A) (R := fun r s' => r = .ok (.ret (.ref s.heap.objs.size)) ∧ s' = { s with heap := (s.heap.push (seqObj "list" #[] 0)).update s.heap.objs.size (Obj.mapSeq (· ++ items)) })
    (s := { s with heap := s.heap.push (seqObj "list" #[] 0) }) _ it _ 0 hT new (Heap.get?_push_of_some _ ho) hc hd ⟨rfl, rfl⟩) (fun fin s' h => ?_) (fun e s' h => absurd h.1 (by simp))
  cases fin with
  | done f =>
    obtain ⟨e, rfl⟩ := h
    cases e
    exact last
  | again c' =>
    refine ⟨h.1, codeAny_mono h.2 fun r s'' hr => ?_⟩
    obtain ⟨rfl, rfl⟩ := hr
    exact last
/-! data without lists -/
mutual
def noL : PyData → Bool
  | .list _ => false
  | .dict _ => false
  | .tuple xs => noLs xs
  | _ => true
def noLs : List PyData → Bool
  | [] => true
  | x :: xs => noL x && noLs xs
end
mutual
theorem reads_noL {h : Heap} : ∀ {d : PyData} {v : Value} {as : List Addr}, noL d = true → Reads h v d as → as = []
  | .none, _, _, _, .none => rfl
  | .bool _, _, _, _, .bool _ => rfl
  | .int _, _, _, _, .int _ _ => rfl
  | .str _, _, _, _, .str _ _ => rfl
  | .tuple xs, _, _, n, .tuple h1 h2 h3 h4 => by
    have n : noLs xs = true := by
      unfold noL at n
      exact n
    exact reads_noLs n h4
  | .list _, _, _, n, _ => by
    unfold noL at n
    cases n
  | .dict _, _, _, n, _ => by
    unfold noL at n
    cases n
theorem reads_noLs {h : Heap} : ∀ {ds : List PyData} {vs : List Value} {as : List Addr}, noLs ds = true → ReadsAll h vs ds as → as = []
  | [], _, _, _, .nil => rfl
  | d :: ds, _, _, n, .cons h1 h2 => by
    have n : (noL d && noLs ds) = true := by
      unfold noLs at n
      exact n
    rw [Bool.and_eq_true] at n
    rw [reads_noL n.1 h1, reads_noLs n.2 h2]
    rfl
end
/-- sorted(v), by what is collected of v -/
theorem sort_core {v : Value} {β : Type} {enc : β → PyData} {R : Value → β → Prop} {bs : List β} {Pm : List β → Prop} {Q : Value → Shared → Prop} (hPm : ∀ l, Pm l → l.Perm bs)
    (hcol : ∀ Q' : List Value → Shared → Prop, (∀ s1 vs (bs' : List β), Pm bs' → (∀ b o, s.heap.get? b = some o → s1.heap.get? b = some o) → s.heap.objs.size ≤ s1.heap.objs.size → s1.gens = s.gens → s1.os = s.os → EachIs R vs bs' → EachIs (fun v b => ∃ as, Reads s1.heap v (enc b) as) vs bs' → Q' vs s1) → wpAny (model P w) A.in1 (collect v) Q' E s)
    (hal : AllAlike (bs.map enc)) (hk : PySem.W.Sortable (bs.map enc)) (hn : ∀ b ∈ bs, noL (enc b) = true) (hL : bs.length ≤ sizeLine) (hu : ∀ b ∈ bs, A.in1.units + 3 + (enc b).depth < cLine)
    (hQ : ∀ s' p (out : Array Value) (c : Nat) (bs' : List β), Pm bs' → (∀ b o, s.heap.get? b = some o → s'.heap.get? b = some o) → s'.gens = s.gens → s'.os = s.os → s.heap.objs.size ≤ p → s'.heap.get? p = some (seqObj "list" out c) → EachIs R out.toList (bs'.mergeSort (dataLe false enc)) → Q (.ref p) s') :
    wpAny (model P w) A (call (.builtin "sorted") [v]) Q E s := by
  refine Calls.call_function_entry kind_sorted plain_sorted entry_sorted (args_sorted1 _) ?_
  unfold Builtin.«sorted»
  refine wpAny_bind (m := checkCount "sorted" 1 1 _) (wpAny_pure ?_)
  refine wpAny_bind (hcol _ fun s1 vs bs' pm0 k1 z1 g1 o1 e1 r1 => ?_)
  have pm := hPm _ pm0
  have mem : ∀ b ∈ bs', b ∈ bs := fun b hb => pm.mem_iff.mp hb
  have hal' : AllAlike (bs'.map enc) := fun d hd d' hd' => by
    obtain ⟨b, hb, rfl⟩ := List.mem_map.mp hd
    obtain ⟨b', hb', rfl⟩ := List.mem_map.mp hd'
    exact hal _ (List.mem_map.mpr ⟨b, mem b hb, rfl⟩) _ (List.mem_map.mpr ⟨b', mem b' hb', rfl⟩)
  have hk' : PySem.W.Sortable (bs'.map enc) := by
    rcases hk with h | h
    · exact .inl fun d hd => by
        obtain ⟨b, hb, rfl⟩ := List.mem_map.mp hd
        exact h _ (List.mem_map.mpr ⟨b, mem b hb, rfl⟩)
    · exact .inr fun d hd => by
        obtain ⟨b, hb, rfl⟩ := List.mem_map.mp hd
        exact h _ (List.mem_map.mpr ⟨b, mem b hb, rfl⟩)
  have hlen : vs.length = bs'.length := e1.length
  have hz : vs.length ≤ sizeLine := by rw [hlen, pm.length_eq]; exact hL
  refine wpAny_bind (wpAny_newList ?_ (by simpa using hz))
  have oL : (s1.heap.push (seqObj "list" vs.toArray 0)).get? s1.heap.objs.size = some (seqObj "list" vs.toArray 0) := Heap.get?_push_size _ rfl
  have r2 : EachIs (fun v b => ∃ as, Reads (s1.heap.push (seqObj "list" vs.toArray 0)) v (enc b) as ∧ s1.heap.objs.size ∉ as) vs bs' := (PySem.W.each_mem r1).mono fun u b ⟨⟨as, r⟩, hb⟩ => by
    have e := reads_noL (hn b (mem b hb)) r
    subst e
    exact ⟨[], PyProof.Rows.Reads.keeps (fun _ _ q => Heap.get?_push_of_some _ q) r, by simp⟩
  refine wpAny_bind (wpAny_holding (PySem.W.list_sort_data (s := { s1 with heap := s1.heap.push (seqObj "list" vs.toArray 0) }) oL e1 r2 hal' hk' (by rw [pm.length_eq]; exact hL) (fun b hb => by have := hu b (mem b hb); omega) fun out ho he => ?_))
  obtain ⟨c, hc⟩ := sortedHeap_at (vs := vs) (out := out.toArray) oL
  refine wpAny_pure ⟨_, rfl, hQ _ s1.heap.objs.size out.toArray c bs' pm0 (fun b o q => ?_) g1 o1 z1 hc (by simpa using he)⟩
  have q1 := k1 b o q
  have hlt := Heap.lt_size q1
  show (sortedHeap (s1.heap.push (seqObj "list" vs.toArray 0)) s1.heap.objs.size vs out.toArray).get? b = some o
  rw [sortedHeap_old (Nat.ne_of_lt hlt) (by rw [Heap.size_push]; exact Nat.lt_succ_of_lt hlt)]
  exact Heap.get?_push_of_some _ q1
end
section
variable {X : Cx}
theorem each_of_vals : ∀ {ps : List (PyData × V)} {us : List Value}, Vals (ps.map (·.2)) us → EachIs (fun u p => RelV p.2 u) us ps
  | [], _, .nil => .nil
  | p :: ps, _, .cons r t => .cons r (each_of_vals t)
theorem vals_of_each {ps : List (PyData × V)} {us : List Value} (h : EachIs (fun u p => RelV p.2 u) us ps) : Vals (ps.map (·.2)) us := by
  induction h with
  | nil => exact .nil
  | cons r _ ih => exact .cons r ih
theorem in1_units (A : Around) : A.in1.units ≤ A.units + 1 := by
  first
    | exact Nat.le_refl _
    | simp
/-- what is asked of the rows that are sorted -/
structure SortOk (K : PySem.W.Frag) (H : Hp) (ps : List (PyData × V)) : Prop where
  dp : ∀ p ∈ ps, Dp K H p.2 p.1
  noL : ∀ p ∈ ps, noL p.1 = true
  deep : ∀ p ∈ ps, p.1.depth ≤ 20
  alike : AllAlike (ps.map (·.1))
  kind : PySem.W.Sortable (ps.map (·.1))
  few : ps.length ≤ sizeLine
theorem sort_end {pins : List (Addr × Obj)} {s s' : Shared} {σ : St} {H : Hp} {p : Addr} {out : Array Value} {c : Nat} {ps : List (PyData × V)} {Q : VK} (I : Inv X pins σ H s) (k : ∀ b o, s.heap.get? b = some o → s'.heap.get? b = some o) (g : s'.gens = s.gens) (o : s'.os = s.os) (hp : s.heap.objs.size ≤ p) (hg : s'.heap.get? p = some (seqObj "list" out c))
    (he : EachIs (fun u p => RelV p.2 u) out.toList ps) (few : ps.length ≤ sizeLine) (q : Q (.ref p) (upd H p (.lst (ps.map (·.2))))) : EP X pins σ Q (.ref p) s' := by
  have rv := vals_of_each he
  have hn : H p = none := I.hok.fresh hp
  have J : Inv X pins σ (upd H p (.lst (ps.map (·.2)))) { s with heap := s'.heap, gens := s'.gens, drawn := s'.drawn, toks := s'.toks } :=
    I.call (ch := []) (Un.laid k hp hn) (I.hok.laid k hp ⟨by rw [List.length_map]; exact few, out.toList, c, rv, hg⟩) (by rw [g]; exact I.bare) (fun _ z => nomatch z)
  have e : s' = { s with heap := s'.heap, gens := s'.gens, drawn := s'.drawn, toks := s'.toks } := by
    obtain ⟨h1, h2, h3, h4, h5⟩ := s'
    obtain rfl : h5 = s.os := o
    rfl
  rw [e]
  exact ⟨.ref p, _, J, rfl, q⟩
def rSortD (K : PySem.W.Frag) : List V → Hp → VK → Prop := fun vs H Q => ∃ (a : Addr) (ps : List (PyData × V)), vs = [V.ref a] ∧ (SqL K H a (ps.map (·.2)) ∨ SqT K H a (ps.map (·.2))) ∧ SortOk K H ps ∧
  ∀ p, H p = none → Q (.ref p) (upd H p (.lst ((ps.mergeSort (dataLe false (·.1))).map (·.2))))
theorem cr_sortD (hu : X.A.units + 64 < cLine) : CallR X (.builtin "sorted") (rSortD X.K) := by
  intro pins s σ H vs us Q I r h
  obtain ⟨a, ps, rfl, hs, ok, q⟩ := h
  rw [Vals.ref1 r]
  have at_ : ∃ (T : String) (o : Obj) (items : Array Value) (n : Nat), (T = "list" ∨ T = "tuple") ∧ s.heap.get? a = some o ∧ o.cls = .type T ∧ o.data = .seq items n ∧ Vals (ps.map (·.2)) items.toList := by
    rcases hs with hs | hs
    · obtain ⟨its, rv, hl, hz⟩ := I.list hs
      obtain ⟨o, h1, h2, n, h3⟩ := hl.isList
      exact ⟨"list", o, its.toArray, n, .inl rfl, h1, h2, h3, by simpa using rv⟩
    · obtain ⟨its, rv, ⟨o, h1, h2, n, h3⟩, hz⟩ := I.tuple hs
      exact ⟨"tuple", o, its.toArray, n, .inr rfl, h1, h2, h3, by simpa using rv⟩
  obtain ⟨T, o, items, n, hT, ho, hc, hd, rv⟩ := at_
  have hsz : items.size ≤ sizeLine := by
    have := rv.length
    simp only [List.length_map, Array.length_toList] at this
    rw [← this]
    exact ok.few
  refine sort_core (bs := ps) (Pm := fun l => l = ps) (enc := (·.1)) (R := fun u p => RelV p.2 u) (fun l e => by rw [e]) (fun Q' hq => ?_) ok.alike ok.kind ok.noL ok.few (fun b hb => ?_) fun s' p out c bs' pm k g o' hp hg he => ?_
  · refine gather_seq hT ho hc hd hsz fun h' k z => ?_
    refine hq { s with heap := h' } _ ps rfl k z rfl rfl (each_of_vals rv) ?_
    exact (PySem.W.each_mem (each_of_vals rv)).mono fun u p ⟨r, hp⟩ => by
      obtain ⟨as, hr⟩ := Dp.reads I _ _ _ (ok.dp p hp) r
      exact ⟨as, PyProof.Rows.Reads.keeps k hr⟩
  · have := in1_units X.A
    have := ok.deep b hb
    omega
  · subst pm
    exact sort_end I k g o' hp hg he (by rw [List.length_mergeSort]; exact ok.few) (q p (I.hok.fresh hp))
/-! ### sets of numbers and texts -/
def KSO (w : World) (a : Addr) (l : List Key) : HO := .ext fun h => KSet w h a l
theorem kso_new {P : Program} {w : World} {H : Hp} {h : Heap} {a : Addr} {l : List Key} (R : KSet w h a l) : ObjOk P w H h a (KSO w a l) := by
  have ⟨o, es, ep, t, ho, _⟩ := R
  exact ⟨R, ⟨o, ho⟩, fun h1 h2 p k => KSet.at p k⟩
theorem each_keys {w : World} {P : Program} : ∀ {ks : List Key} {us : List Value}, Vals (ks.map L2.kV) us → Each2 (fun k v => keyIs k v = true) ks us
  | [], _, .nil => .nil
  | k :: ks, _, .cons r t => .cons (kV_is (P := P) (w := w) r) (each_keys (w := w) (P := P) t)
def rSetK (K : PySem.W.Frag) (w : World) : List V → Hp → VK → Prop := fun xs H Q => ∃ (b : Addr) (ks : List Key), xs = [V.ref b] ∧ (SqL K H b (ks.map L2.kV) ∨ SqT K H b (ks.map L2.kV)) ∧ ks.length < 4000 ∧ ∀ a, H a = none → Q (.ref a) (upd H a (KSO w a (setK ks)))
theorem cr_setK (hc : X.calm = true) : CallR X (.type "set") (rSetK X.K X.w) := by
  intro pins s σ H xs us Q I r h
  obtain ⟨b, ks, rfl, hs, hb, q⟩ := h
  rw [Vals.ref1 r]
  have hn : H s.heap.objs.size = none := I.hok.fresh (Nat.le_refl _)
  have bd : ks.length + 1 < scanBound := by
    unfold scanBound
    omega
  have fin : ∀ (h' : Heap) (tk : Nat), KSet X.w h' s.heap.objs.size (setK ks) → (∀ b o, s.heap.get? b = some o → h'.get? b = some o) → EP X pins σ Q (.ref s.heap.objs.size) { s with heap := h', toks := tk } := fun h' tk R k =>
    ⟨.ref s.heap.objs.size, upd H s.heap.objs.size (KSO X.w s.heap.objs.size (setK ks)), I.laid (t' := tk) k (Nat.le_refl _) (kso_new R), rfl, q _ hn⟩
  rcases hs with hs | hs
  · obtain ⟨its, rv, hl, hz⟩ := I.list hs
    exact call_set_list ks (I.ok.hd hc) hl.isList (by simpa using each_keys (w := X.w) (P := X.prog) rv) bd fin
  · obtain ⟨its, rv, hl, hz⟩ := I.tuple hs
    exact call_set_tup ks (I.ok.hd hc) hl (by simpa using each_keys (w := X.w) (P := X.prog) rv) bd fin
def rLenK (w : World) : List V → Hp → VK → Prop := fun xs H Q => ∃ (a : Addr) (l : List Key), xs = [V.ref a] ∧ H a = some (KSO w a l) ∧ Q (.int (l.length : Nat)) H
theorem cr_lenK : CallR X (.builtin "len") (rLenK X.w) := by
  intro pins s σ H xs us Q I r h
  obtain ⟨a, l, rfl, ha, q⟩ := h
  rw [Vals.ref1 r]
  obtain ⟨o, es, ep, t, ho, hex, hd, g, pm, nd, hb, hf, hr, hl⟩ := (show KSet X.w s.heap a l from (I.hok a _ ha).1)
  have len : es.size = l.length := by rw [← pm.length_eq, List.length_map, Array.length_toList]
  have sml : es.size < 4096 := hb
  refine call_len_set ho hex hd hf (by omega) ?_
  rw [len]
  exact ⟨.int (l.length : Nat), H, (I.tok _).tok _, ⟨_, rfl⟩, q⟩
def keyPy : Key → PyData
  | .inl i => .int i
  | .inr x => .str x
/-- all ints, or all texts -/
def oneKind (l : List Key) : Prop := (∀ k ∈ l, ∃ i, k = .inl i) ∨ ∀ k ∈ l, ∃ x, k = .inr x
theorem vals_keys {ks : List Key} {us : List Value} (h : EachIs (fun u k => keyIs k u = true) us ks) : EachIs (fun u p => RelV p.2 u) us (ks.map fun k => (keyPy k, L2.kV k)) := by
  induction h with
  | nil => exact .nil
  | cons r _ ih => exact .cons (relV_key r) ih
theorem each_of_entries {w : World} {h : Heap} : ∀ {vs : List Value} (es : List (Int × Value)), (∀ e ∈ es, EntOk w e) → (∀ v ∈ vs, ∃ e ∈ es, v = e.2) → EachIs (fun u k => keyIs k u = true) vs (vs.map fun v => entK (0, v))
  | [], es, g, hm => .nil
  | v :: vs, es, g, hm => by
    obtain ⟨e, he, rfl⟩ := hm v List.mem_cons_self
    obtain ⟨k, h1, _⟩ := g e he
    refine .cons ?_ (each_of_entries (h := h) es g fun u hu => hm u (List.mem_cons_of_mem _ hu))
    show keyIs (entK (0, e.2)) e.2 = true
    rw [show entK (0, e.2) = k from entK_is h1]
    exact h1
def rSortK (w : World) : List V → Hp → VK → Prop := fun vs H Q => ∃ (a : Addr) (l : List Key), vs = [V.ref a] ∧ H a = some (KSO w a l) ∧ oneKind l ∧
  ∀ (l' : List Key) p, l'.Perm l → H p = none → Q (.ref p) (upd H p (.lst ((l'.mergeSort (dataLe false keyPy)).map L2.kV)))
theorem cr_sortK (hc : X.calm = true) (hu : X.A.units + 64 < cLine) : CallR X (.builtin "sorted") (rSortK X.w) := by
  intro pins s σ H vs us Q I r h
  obtain ⟨a, l, rfl, ha, one, q⟩ := h
  rw [Vals.ref1 r]
  obtain ⟨o, es, ep, t, ho, hex, hd, g, pm, nd, hb, hf, hr, hl⟩ := (show KSet X.w s.heap a l from (I.hok a _ ha).1)
  have hla : AllAlike (l.map keyPy) := fun d hd d' hd' => by
    obtain ⟨b, hb, rfl⟩ := List.mem_map.mp hd
    obtain ⟨b', hb', rfl⟩ := List.mem_map.mp hd'
    rcases one with h | h
    · obtain ⟨i, rfl⟩ := h b hb
      obtain ⟨j, rfl⟩ := h b' hb'
      rfl
    · obtain ⟨i, rfl⟩ := h b hb
      obtain ⟨j, rfl⟩ := h b' hb'
      rfl
  have hlk : PySem.W.Sortable (l.map keyPy) := .inr fun d hd => by
    obtain ⟨b, hb, rfl⟩ := List.mem_map.mp hd
    cases b with
    | inl i => exact ⟨fun z => (by cases z), fun xs z => (by cases z)⟩
    | inr i => exact ⟨fun z => (by cases z), fun xs z => (by cases z)⟩
  have len : es.size = l.length := by rw [← pm.length_eq, List.length_map, Array.length_toList]
  have few : l.length ≤ sizeLine := by rw [← len]; exact fits_of_scanBound hb
  refine sort_core (bs := l) (Pm := fun m => m.Perm l) (enc := keyPy) (R := fun u k => keyIs k u = true) (fun m e => e) (fun Q' hq => ?_) hla hlk (fun b _ => by cases b <;> rfl) few (fun b hb => ?_) fun s' p out c bs' pm' k g' o' hp hg he => ?_
  · refine collect_set (A := X.A.in1) (I.ok.hd hc) ⟨o, ho, hex.1, hd⟩ hf hb hr hl fun s1 vs k1 hz g1 o1 pv => ?_
    have e1 := each_of_entries (h := s1.heap) (vs := vs) es.toList g fun v hv => by
      obtain ⟨e, he, rfl⟩ := List.mem_map.mp (pv.mem_iff.mp hv)
      exact ⟨e, he, rfl⟩
    refine hq s1 vs (vs.map fun v => entK (0, v)) ?_ k1 hz g1 o1 e1 (e1.mono fun u k hk => ?_)
    · have z := pv.map fun v => entK (0, v)
      rw [List.map_map] at z
      exact z.trans pm
    · rcases keyIs_shape hk with ⟨i, t, rfl, e⟩ | ⟨x, t, rfl, e⟩
      · exact ⟨[], by rw [e]; exact .int _ _⟩
      · exact ⟨[], by rw [e]; exact .str _ _⟩
  · have := in1_units X.A
    have : (keyPy b).depth = 0 := by cases b <;> rfl
    omega
  · have z := vals_keys he
    have w1 := sort_end (ps := (bs'.mergeSort (dataLe false keyPy)).map fun k => (keyPy k, L2.kV k)) I k g' o' hp hg z (by rw [List.length_map, List.length_mergeSort, pm'.length_eq]; exact few) (Q := Q) ?_
    · exact w1
    · rw [List.map_map]
      exact q bs' p pm' (I.hok.fresh hp)
end
end Gh
/-! Gh30: sorted, set: denotations. -/
namespace Gh
open L2 PyProof.Rows PySem.Spec PySem
open PySem.W (AllAlike alike dataLe)
/-- the order of plain data of one shape -/
def leD (a b : D) : Bool := dataLe false toPy a b
def isTupNE : D → Bool
  | .tup (_ :: _) => true
  | _ => false
def isTN : D → Bool
  | .tup _ => true
  | .non => true
  | _ => false
def sortOkD (es : List D) : Bool := es.all (okD 20) && es.all (fun a => noL (toPy a)) && (es.all fun a => es.all fun b => alike (toPy a) (toPy b)) && (es.all isTupNE || es.all fun a => !isTN a) && decide (es.length < 100000)
def gSortD : OpN := fun ds st => match ds with
  | [x] => (match itemsOf x with
    | some es => if sortOkD es = true then .ok (.lst (es.mergeSort leD)) st else .bad
    | none => .bad)
  | _ => .bad
def uniq {α : Type} [DecidableEq α] (l : List α) : List α := l.foldl (fun acc k => if k ∈ acc then acc else k :: acc) []
def setKeys (es : List D) : Option (List Int ⊕ List Str) := match asInts es with
  | some ns => some (.inl ns)
  | none => (match asStrs es with
    | some ss => some (.inr ss)
    | none => none)
/-- sorted(set(x)) -/
def eSortSet (m : EDen) : EDen := fun ρ st => (m ρ st).bind fun x st1 => match itemsOf x with
  | some es => if es.length < 4000 then (match setKeys es with
    | some (.inl ns) => .ok (.lst ((sortI (uniq ns)).map D.int)) st1
    | some (.inr ss) => .ok (.lst ((sortS (uniq ss)).map D.str)) st1
    | none => .bad) else .bad
  | none => .bad
/-- len(set(x)) -/
def eLenSet (m : EDen) : EDen := fun ρ st => (m ρ st).bind fun x st1 => match itemsOf x with
  | some es => if es.length < 4000 then (match setKeys es with
    | some (.inl ns) => .ok (.int ((uniq ns).length : Nat)) st1
    | some (.inr ss) => .ok (.int ((uniq ss).length : Nat)) st1
    | none => .bad) else .bad
  | none => .bad
section
variable {X : Cx} {K : PySem.W.Frag} {mg : Glob} {Γ : Ent} {W : WX} {a : Expr} {m : EDen} {p p2 pos pos2 : Pos}
theorem toPyL_map : ∀ ds : List D, toPyL ds = ds.map toPy
  | [] => rfl
  | d :: ds => by
    show toPy d :: toPyL ds = _
    rw [toPyL_map ds]
    rfl
theorem zip_fst {α β : Type} : ∀ {as : List α} {bs : List β}, as.length = bs.length → (as.zip bs).map (·.1) = as
  | [], [], _ => rfl
  | a :: as, b :: bs, h => by
    simp only [List.zip_cons_cons, List.map_cons]
    rw [zip_fst (by simpa using h)]
theorem zip_snd {α β : Type} : ∀ {as : List α} {bs : List β}, as.length = bs.length → (as.zip bs).map (·.2) = bs
  | [], [], _ => rfl
  | a :: as, b :: bs, h => by
    simp only [List.zip_cons_cons, List.map_cons]
    rw [zip_snd (by simpa using h)]
theorem RepL.zip_mem {F : Hp} : ∀ {ds : List D} {vs : List V}, RepL K mg F ds vs → ∀ q ∈ ds.zip vs, Rep K mg F q.1 q.2
  | [], vs, h, q, hq => by simp at hq
  | d :: ds, vs, h, q, hq => by
    obtain ⟨v, r, rfl, h2, h3⟩ := h
    simp only [List.zip_cons_cons, List.mem_cons] at hq
    rcases hq with rfl | hq
    · exact h2
    · exact RepL.zip_mem h3 q hq
theorem RepL.of_zip {F : Hp} : ∀ {zs : List (D × V)}, (∀ q ∈ zs, Rep K mg F q.1 q.2) → RepL K mg F (zs.map (·.1)) (zs.map (·.2))
  | [], _ => rfl
  | z :: zs, h => ⟨z.2, _, rfl, h z List.mem_cons_self, RepL.of_zip fun q hq => h q (List.mem_cons_of_mem _ hq)⟩
theorem sem_sortD : SemN kO K mg gSortD (rSortD K) := by
  intro Γ W F L σ H ρ st ds vs Q rl kvs q
  unfold gSortD at q
  split at q
  · rename_i x
    obtain ⟨v, r, rfl, kv, kr⟩ := kvs
    cases (show r = [] from kr)
    split at q
    · rename_i es hes
      split at q
      · rename_i hok
        unfold sortOkD at hok
        simp only [Bool.and_eq_true, decide_eq_true_eq] at hok
        obtain ⟨⟨⟨⟨o1, o2⟩, o3⟩, o4⟩, o5⟩ := hok
        obtain ⟨a, us, rfl, h1, h2⟩ := items_at rl kv hes
        have hl := h2.length
        have hsnd : ((es.zip us).map fun z => (toPy z.1, z.2)).map (·.2) = us := by
          rw [List.map_map]
          exact zip_snd hl
        have hmem : ∀ z ∈ es.zip us, z.1 ∈ es := fun z hz => by
          have : z.1 ∈ (es.zip us).map (·.1) := List.mem_map.mpr ⟨z, hz, rfl⟩
          rwa [zip_fst hl] at this
        refine ⟨a, (es.zip us).map fun z => (toPy z.1, z.2), rfl, by rw [hsnd]; exact h1, ⟨fun y hy => ?_, fun y hy => ?_, fun y hy => ?_, fun d hd d' hd' => ?_, ?_, ?_⟩, fun p hp => ?_⟩
        · obtain ⟨z, hz, rfl⟩ := List.mem_map.mp hy
          exact dp_of rl.sto.ex 20 z.1 z.2 (List.all_eq_true.mp o1 _ (hmem z hz)) (h2.zip_mem z hz)
        · obtain ⟨z, hz, rfl⟩ := List.mem_map.mp hy
          exact List.all_eq_true.mp o2 _ (hmem z hz)
        · obtain ⟨z, hz, rfl⟩ := List.mem_map.mp hy
          exact (toPy_shape 20 z.1 (List.all_eq_true.mp o1 _ (hmem z hz))).2
        · obtain ⟨y, hy, rfl⟩ := List.mem_map.mp hd
          obtain ⟨z, hz, rfl⟩ := List.mem_map.mp hy
          obtain ⟨y', hy', rfl⟩ := List.mem_map.mp hd'
          obtain ⟨z', hz', rfl⟩ := List.mem_map.mp hy'
          exact List.all_eq_true.mp (List.all_eq_true.mp o3 _ (hmem z hz)) _ (hmem z' hz')
        · rw [Bool.or_eq_true] at o4
          rcases o4 with o4 | o4
          · refine .inl fun d hd => ?_
            obtain ⟨y, hy, rfl⟩ := List.mem_map.mp hd
            obtain ⟨z, hz, rfl⟩ := List.mem_map.mp hy
            have t := List.all_eq_true.mp o4 _ (hmem z hz)
            cases hz1 : z.1 with
            | tup xs =>
              rw [hz1] at t
              cases xs with
              | nil => cases t
              | cons x0 xs => exact ⟨toPy x0, toPyL xs, by simp only [hz1]; rfl⟩
            | _ => rw [hz1] at t; cases t
          · refine .inr fun d hd => ?_
            obtain ⟨y, hy, rfl⟩ := List.mem_map.mp hd
            obtain ⟨z, hz, rfl⟩ := List.mem_map.mp hy
            have t := List.all_eq_true.mp o4 _ (hmem z hz)
            have ok := List.all_eq_true.mp o1 _ (hmem z hz)
            cases hz1 : z.1 with
            | tup xs => rw [hz1] at t; cases t
            | non => rw [hz1] at t; cases t
            | bl b => exact ⟨fun w => (by simp only [hz1] at w; cases w), fun xs w => (by simp only [hz1] at w; cases w)⟩
            | int b => exact ⟨fun w => (by simp only [hz1] at w; cases w), fun xs w => (by simp only [hz1] at w; cases w)⟩
            | str b => exact ⟨fun w => (by simp only [hz1] at w; cases w), fun xs w => (by simp only [hz1] at w; cases w)⟩
            | lst b => exact ⟨fun w => (by simp only [hz1] at w; cases w), fun xs w => (by simp only [hz1] at w; cases w)⟩
            | scr b => exact ⟨fun w => (by simp only [hz1] at w; cases w), fun xs w => (by simp only [hz1] at w; cases w)⟩
            | dct b => rw [hz1] at ok; cases ok
            | ins b c => rw [hz1] at ok; cases ok
            | loc b => rw [hz1] at ok; cases ok
        · rw [List.length_map, List.length_zip, sizeLine_eq]
          omega
        · have e1 : (((es.zip us).map fun z => (toPy z.1, z.2)).mergeSort (dataLe false (·.1))).map (·.2) = ((es.zip us).mergeSort fun z z' => leD z.1 z'.1).map (·.2) := by
            rw [← List.map_mergeSort (f := fun z : D × V => (toPy z.1, z.2)) (r := fun z z' => leD z.1 z'.1) (s := dataLe false (·.1)) (fun _ _ _ _ => rfl), List.map_map]
            rfl
          have e2 : es.mergeSort leD = ((es.zip us).mergeSort fun z z' => leD z.1 z'.1).map (·.1) := by
            rw [List.map_mergeSort (f := fun z : D × V => z.1) (r := fun z z' => leD z.1 z'.1) (s := leD) (fun _ _ _ _ => rfl), zip_fst hl]
          rw [e1]
          refine q F L _ (Stp.fresh hp) (rl.sto.fresh hp) _ ⟨p, rfl, hp, rl.newF hp, rl.newL hp, _, upd_same, ?_⟩
          rw [e2]
          exact RepL.of_zip fun z hz => h2.zip_mem z ((List.mergeSort_perm _ _).mem_iff.mp hz)
      · exact q.elim
    · exact q.elim
  · exact q.elim
end
end Gh
/-! Gh31: sorted(set(x)), len(set(x)); C() without __init__; targets that are places; d.get(k). -/
namespace Gh
open L2 PyProof.Rows PySem.Spec PySem
open PySem.W (AllAlike alike dataLe)
/-! ### sets -/
theorem fold_addK_int : ∀ (ns acc : List Int), (ns.map Sum.inl).foldl addK (acc.map (Sum.inl (β := Str))) = (ns.foldl (fun acc k => if k ∈ acc then acc else k :: acc) acc).map Sum.inl
  | [], acc => rfl
  | n :: ns, acc => by
    rw [List.map_cons, List.foldl_cons, List.foldl_cons]
    by_cases h : n ∈ acc
    · rw [addK_in (List.mem_map.mpr ⟨n, h, rfl⟩), if_pos h]
      exact fold_addK_int ns acc
    · rw [addK_out (fun z => by
        obtain ⟨m, hm, e⟩ := List.mem_map.mp z
        cases e
        exact h hm), if_neg h]
      exact fold_addK_int ns (n :: acc)
theorem fold_addK_str : ∀ (ns acc : List Str), (ns.map Sum.inr).foldl addK (acc.map (Sum.inr (α := Int))) = (ns.foldl (fun acc k => if k ∈ acc then acc else k :: acc) acc).map Sum.inr
  | [], acc => rfl
  | n :: ns, acc => by
    rw [List.map_cons, List.foldl_cons, List.foldl_cons]
    by_cases h : n ∈ acc
    · rw [addK_in (List.mem_map.mpr ⟨n, h, rfl⟩), if_pos h]
      exact fold_addK_str ns acc
    · rw [addK_out (fun z => by
        obtain ⟨m, hm, e⟩ := List.mem_map.mp z
        cases e
        exact h hm), if_neg h]
      exact fold_addK_str ns (n :: acc)
theorem setK_int (ns : List Int) : setK (ns.map Sum.inl) = (uniq ns).map Sum.inl := fold_addK_int ns []
theorem setK_str (ns : List Str) : setK (ns.map Sum.inr) = (uniq ns).map Sum.inr := fold_addK_str ns []
theorem sortK_int {l' : List Key} {ns : List Int} (p : l'.Perm (ns.map Sum.inl)) : (l'.mergeSort (dataLe false keyPy)).map L2.kV = (sortI ns).map V.int := by
  obtain ⟨ms, rfl⟩ : ∃ ms : List Int, l' = ms.map Sum.inl := by
    refine ⟨l'.map fun k => match k with | .inl i => i | .inr _ => 0, ?_⟩
    rw [List.map_map]
    refine (List.map_id l').symm.trans (List.map_congr_left fun k hk => ?_)
    obtain ⟨i, _, rfl⟩ := List.mem_map.mp (p.mem_iff.mp hk)
    rfl
  have pm : ms.Perm ns := by
    have := p.map fun k : Key => match k with | Sum.inl i => i | Sum.inr _ => (0 : Int)
    rw [List.map_map, List.map_map] at this
    have e : ∀ l : List Int, l.map ((fun k : Key => match k with | Sum.inl i => i | Sum.inr _ => (0 : Int)) ∘ Sum.inl) = l := fun l => List.map_id l
    rw [e, e] at this
    exact this
  rw [← List.map_mergeSort (f := Sum.inl) (r := fun a b => decide (a ≤ b)) (s := dataLe false keyPy) (fun a _ b _ => by
    show decide (a ≤ b) = dataLe false (fun x : Int => PyData.int x) a b
    rw [PySem.W.dataLe_int fun x => x]), List.map_map]
  rw [sortI_is (ns := ns) (ms := ms.mergeSort fun a b => decide (a ≤ b)) ((List.mergeSort_perm _ _).trans pm) (by
    have h := List.pairwise_mergeSort (le := fun a b : Int => decide (a ≤ b)) (fun a b c h1 h2 => by simp at *; omega) (fun a b => by simp; omega) ms
    exact h.imp fun h => by simpa using h)]
  rfl
theorem sortK_str {l' : List Key} {ns : List Str} (p : l'.Perm (ns.map Sum.inr)) : (l'.mergeSort (dataLe false keyPy)).map L2.kV = (sortS ns).map V.str := by
  obtain ⟨ms, rfl⟩ : ∃ ms : List Str, l' = ms.map Sum.inr := by
    refine ⟨l'.map fun k => match k with | .inl _ => Str.empty | .inr x => x, ?_⟩
    rw [List.map_map]
    refine (List.map_id l').symm.trans (List.map_congr_left fun k hk => ?_)
    obtain ⟨i, _, rfl⟩ := List.mem_map.mp (p.mem_iff.mp hk)
    rfl
  have pm : ms.Perm ns := by
    have := p.map fun k : Key => match k with | Sum.inl _ => Str.empty | Sum.inr x => x
    rw [List.map_map, List.map_map] at this
    have e : ∀ l : List Str, l.map ((fun k : Key => match k with | Sum.inl _ => Str.empty | Sum.inr x => x) ∘ Sum.inr) = l := fun l => List.map_id l
    rw [e, e] at this
    exact this
  have le : ∀ a b : Str, dataLe false keyPy (Sum.inr a) (Sum.inr b) = leS a b := fun a b => by
    show dataLe false (fun x : Str => PyData.str x) a b = leS a b
    rw [PySem.W.dataLe_str fun x => x]
    show decide (a.cps.toList ≤ b.cps.toList) = leS a b
    have := leS_iff a b
    by_cases h : a.cps.toList ≤ b.cps.toList
    · rw [decide_eq_true h, this.mpr h]
    · rw [decide_eq_false h]
      cases q : leS a b with
      | false => rfl
      | true => exact absurd (this.mp q) h
  rw [← List.map_mergeSort (f := Sum.inr) (r := leS) (s := dataLe false keyPy) (fun a _ b _ => (le a b).symm), List.map_map]
  have e : ms.mergeSort leS = sortS ns := List.Perm.eq_of_pairwise (le := fun a b => leS a b = true) (fun a b _ _ h1 h2 => leS_anti a b h1 h2) (List.pairwise_mergeSort leS_trans leS_total ms) (sortS_le ns) (((List.mergeSort_perm _ _).trans pm).trans (sortS_perm ns).symm)
  rw [e]
  rfl
section
variable {X : Cx} {K : PySem.W.Frag} {mg : Glob} {Γ : Ent} {W : WX} {a e o : Expr} {es : List Expr} {m mo me : EDen} {p p2 pos pos2 apos cpos : Pos}
theorem set_read {F H H0 : Hp} {L : List Addr} {σ : St} {ρ : REnv} {st : Store} {x : D} {v : V} {es : List D} {r : List Int ⊕ List Str} (rl : Rl K mg Γ F L σ H ρ st) (kv : kR K mg σ H0 ρ F L H x v) (h : itemsOf x = some es) (hk : setKeys es = some r) :
    ∃ b ks, v = .ref b ∧ (SqL K H b (ks.map L2.kV) ∨ SqT K H b (ks.map L2.kV)) ∧ ks.length = es.length ∧ ((∃ ns, r = .inl ns ∧ ks = ns.map Sum.inl) ∨ ∃ ss, r = .inr ss ∧ ks = ss.map Sum.inr) := by
  obtain ⟨b, us, rfl, h1, h2⟩ := items_at rl kv h
  unfold setKeys at hk
  cases hi : asInts es with
  | some ns =>
    rw [hi] at hk
    cases hk
    have e := asInts_rep h2 hi
    subst e
    refine ⟨b, ns.map Sum.inl, rfl, ?_, ?_, .inl ⟨ns, rfl, rfl⟩⟩
    · rw [List.map_map]
      exact h1
    · rw [h2.length, List.length_map, List.length_map]
  | none =>
    rw [hi] at hk
    cases hs : asStrs es with
    | none => rw [hs] at hk; cases hk
    | some ss =>
      rw [hs] at hk
      cases hk
      have e := asStrs_rep h2 hs
      subst e
      refine ⟨b, ss.map Sum.inr, rfl, ?_, ?_, .inr ⟨ss, rfl, rfl⟩⟩
      · rw [List.map_map]
        exact h1
      · rw [h2.length, List.length_map, List.length_map]
theorem g_sortSet (hK : X.K = K) (hc : X.calm = true) (hu : X.A.units + 64 < cLine) (hm : X.mg "sorted" = none) (hm2 : X.mg "set" = none) (ha : PE X a (teR K mg Γ W m)) (hg : Gl X "sorted" := by rfl) (hg2 : Gl X "set" := by rfl)
    (he : starEach [a] X.env = (false, eval a X.env) :: starEach [] X.env := by rfl) (hpl : (backTo pos2 (starEach ([] : List Expr) X.env)).any (·.1) = false := by rfl)
    (he2 : starEach [.Call (.Name "set" p2) [a] [] pos2] X.env = (false, eval (.Call (.Name "set" p2) [a] [] pos2) X.env) :: starEach [] X.env := by rfl) (hpl2 : (backTo pos (starEach ([] : List Expr) X.env)).any (·.1) = false := by rfl) :
    PE X (.Call (.Name "sorted" p) [.Call (.Name "set" p2) [a] [] pos2] [] pos) (teO K mg Γ W (eSortSet m)) := by
  subst hK
  refine pe_imp (pe_callB (cr_sortK hc hu) hg hm (by decide +kernel) (pa_cons (pe_callTy (cr_setK hc) hg2 hm2 (by decide +kernel) (pa_cons ha pa_nil he) (by decide) (by decide) he hpl) pa_nil he2) (by decide) (by decide) he2 hpl2) fun σ H Q ⟨F, L, ρ, st, rl, q⟩ => ?_
  refine ⟨F, L, ρ, st, rl, q.bind.imp fun F1 L1 H1 st1 x s1 o1 q1 v kv => ?_⟩
  have rl1 := rl.step s1 o1
  split at q1
  · rename_i es hes
    split at q1
    · rename_i hlen
      cases hk : setKeys es with
      | none => rw [hk] at q1; exact q1.elim
      | some r =>
        rw [hk] at q1
        obtain ⟨b, ks, rfl, h1, h2, h3⟩ := set_read rl1 kv hes hk
        refine ⟨b, ks, rfl, h1, by omega, fun A nA => ?_⟩
        have s2 : Stp F1 L1 H1 F1 L1 (upd H1 A (KSO X.w A (setK ks))) := Stp.fresh nA
        have o2 := o1.fresh (o := KSO X.w A (setK ks)) nA
        have nH : ∀ P : Addr, upd H1 A (KSO X.w A (setK ks)) P = none → H P = none := fun P nP => by
          cases q : H P with
          | none => rfl
          | some u => exact absurd nP ((s1.trans s2).more o2 P (by rw [q]; simp))
        rcases h3 with ⟨ns, rfl, rfl⟩ | ⟨ss, rfl, rfl⟩
        · refine ⟨A, _, rfl, upd_same, .inl fun k hk => ?_, fun l' P pm nP => ?_⟩
          · rw [setK_int] at hk
            obtain ⟨i, _, rfl⟩ := List.mem_map.mp hk
            exact ⟨i, rfl⟩
          · rw [setK_int] at pm
            rw [sortK_int pm]
            exact q1 F1 L1 _ (s2.trans (Stp.fresh nP)) (o2.fresh nP) _ ⟨P, rfl, nH P nP, o2.ex.free nP, (rl1.step s2 o2).newL nP, _, upd_same, repl_I _⟩
        · refine ⟨A, _, rfl, upd_same, .inr fun k hk => ?_, fun l' P pm nP => ?_⟩
          · rw [setK_str] at hk
            obtain ⟨i, _, rfl⟩ := List.mem_map.mp hk
            exact ⟨i, rfl⟩
          · rw [setK_str] at pm
            rw [sortK_str pm]
            exact q1 F1 L1 _ (s2.trans (Stp.fresh nP)) (o2.fresh nP) _ ⟨P, rfl, nH P nP, o2.ex.free nP, (rl1.step s2 o2).newL nP, _, upd_same, repl_S _⟩
    · exact q1.elim
  · exact q1.elim
theorem g_lenSet (hK : X.K = K) (hc : X.calm = true) (hm : X.mg "len" = none) (hm2 : X.mg "set" = none) (ha : PE X a (teR K mg Γ W m)) (hg : Gl X "len" := by rfl) (hg2 : Gl X "set" := by rfl)
    (he : starEach [a] X.env = (false, eval a X.env) :: starEach [] X.env := by rfl) (hpl : (backTo pos2 (starEach ([] : List Expr) X.env)).any (·.1) = false := by rfl)
    (he2 : starEach [.Call (.Name "set" p2) [a] [] pos2] X.env = (false, eval (.Call (.Name "set" p2) [a] [] pos2) X.env) :: starEach [] X.env := by rfl) (hpl2 : (backTo pos (starEach ([] : List Expr) X.env)).any (·.1) = false := by rfl) :
    PE X (.Call (.Name "len" p) [.Call (.Name "set" p2) [a] [] pos2] [] pos) (teV K mg Γ W (eLenSet m)) := by
  subst hK
  refine pe_imp (pe_callB cr_lenK hg hm (by decide +kernel) (pa_cons (pe_callTy (cr_setK hc) hg2 hm2 (by decide +kernel) (pa_cons ha pa_nil he) (by decide) (by decide) he hpl) pa_nil he2) (by decide) (by decide) he2 hpl2) fun σ H Q ⟨F, L, ρ, st, rl, q⟩ => ?_
  refine ⟨F, L, ρ, st, rl, q.bind.imp fun F1 L1 H1 st1 x s1 o1 q1 v kv => ?_⟩
  have rl1 := rl.step s1 o1
  split at q1
  · rename_i es hes
    split at q1
    · rename_i hlen
      cases hk : setKeys es with
      | none => rw [hk] at q1; exact q1.elim
      | some r =>
        rw [hk] at q1
        obtain ⟨b, ks, rfl, h1, h2, h3⟩ := set_read rl1 kv hes hk
        refine ⟨b, ks, rfl, h1, by omega, fun A nA => ⟨A, _, rfl, upd_same, ?_⟩⟩
        have s2 : Stp F1 L1 H1 F1 L1 (upd H1 A (KSO X.w A (setK ks))) := Stp.fresh nA
        have o2 := o1.fresh (o := KSO X.w A (setK ks)) nA
        rcases h3 with ⟨ns, rfl, rfl⟩ | ⟨ss, rfl, rfl⟩
        · have e : (setK (ns.map Sum.inl)).length = (uniq ns).length := by rw [setK_int, List.length_map]
          rw [e]
          exact q1 F1 L1 _ s2 o2 _ (.inr rfl)
        · have e : (setK (ss.map Sum.inr)).length = (uniq ss).length := by rw [setK_str, List.length_map]
          rw [e]
          exact q1 F1 L1 _ s2 o2 _ (.inr rfl)
    · exact q1.elim
  · exact q1.elim
end
end Gh
/-! Gh32: targets that are places of own lists and dicts, alone or among others. -/
namespace Gh
open L2 PyProof.Rows PySem.Spec PySem
section
variable {X : Cx} {K : PySem.W.Frag} {mg : Glob} {Γ : Ent} {W : WX} {e o v : Expr} {es ts : List Expr} {m mk mv : EDen} {ms : MDen} {pos p tpos px py pos' : Pos} {kt : Nat}
theorem MixL.chg {Hs F F' H H' : Hp} {L L' : List Addr} (hv : ∀ d v, VRep K mg L F d v → VRep K mg L' F' d v) : ∀ {ds : List (D × Bool)} {vs : List V}, MixL K mg Hs F L H ds vs →
    (∀ (j : Nat) (d : D) (a : Addr), ds[j]? = some (d, true) → vs[j]? = some (V.ref a) → F a = none → a ∉ L → Has K mg F H a d → F' a = none ∧ a ∉ L' ∧ Has K mg F' H' a d) → MixL K mg Hs F' L' H' ds vs
  | [], vs, h, _ => h
  | (d, false) :: ds, vs, h, c => by
    obtain ⟨v, r, rfl, h1, h3⟩ := h
    exact ⟨v, r, rfl, hv _ _ h1, h3.chg hv fun j d' a q1 q2 => c (j + 1) d' a (by simpa using q1) (by simpa using q2)⟩
  | (d, true) :: ds, vs, h, c => by
    obtain ⟨a, r, rfl, ⟨h1, h2, h5, h6⟩, h4, h3⟩ := h
    exact ⟨a, r, rfl, ⟨h1, c 0 d a rfl rfl h2 h5 h6⟩, h4, h3.chg hv fun j d' a q1 q2 => c (j + 1) d' a (by simpa using q1) (by simpa using q2)⟩
/-- the new ones are no slot's yet -/
def NE (ρ : REnv) (σ : St) (ds : List (D × Bool)) (vs : List V) : Prop := ∀ (i : Nat) (d : D) (b : Addr), ρ[i]? = some (Sl.own d) → σ[i]? = some (some (V.ref b)) → ∀ (j : Nat) (d' : D), ds[j]? = some (d', true) → vs[j]? ≠ some (V.ref b)
/-- x[k] = v, x an own list or dict -/
def putAt (i : Nat) (mk : EDen) (x : D) (ρ : REnv) (st : Store) : Option (REnv × Store) := match ρ[i]?, mk ρ st with
  | some (.own (.dct kvs)), .ok y st2 => (match keyOf y with
    | some k => if kvs.length < 100000 ∧ isLoc x = false then some (ρ.set i (.own (.dct (putD kvs k x))), st2) else none
    | none => none)
  | some (.own (.lst xs)), .ok (.int n) st2 => (match ixN xs.length n with
    | some j => if isLoc x = false then some (ρ.set i (.own (.lst (xs.set j x))), st2) else none
    | none => none)
  | _, _ => none
def tpP (K : PySem.W.Frag) (mg : Glob) (Γ : Ent) (i : Nat) (mk : EDen) : L2.TG := fun v σ H Q => ∃ F L ρ st x, Rl K mg Γ F L σ H ρ st ∧ VRep K mg L F x v ∧ match putAt i mk x ρ st with
  | some (ρ', st') => ∀ F' L' H', Rl K mg Γ F' L' σ H' ρ' st' → (∀ ds vs, MixL K mg Γ.H0 F L H ds vs → NE ρ σ ds vs → MixL K mg Γ.H0 F' L' H' ds vs ∧ NE ρ' σ ds vs) → Q σ H'
  | none => False
theorem teV_imp {σ : St} {H : Hp} {Q Q' : VK} (h : teV K mg Γ W m σ H Q) (k : ∀ v H, Q v H → Q' v H) : teV K mg Γ W m σ H Q' := by
  obtain ⟨F, L, ρ, st, rl, q⟩ := h
  exact ⟨F, L, ρ, st, rl, q.imp fun F1 L1 H1 st1 d s o q1 v kv => k _ _ (q1 v kv)⟩
theorem NE.put {ρ : REnv} {σ : St} {ds : List (D × Bool)} {vs : List V} {i : Nat} {d e : D} (h : NE ρ σ ds vs) (hi : ρ[i]? = some (.own d)) : NE (ρ.set i (.own e)) σ ds vs := fun k d' b q1 q2 j d2 q3 => by
  rcases set_get q1 with ⟨rfl, _, _⟩ | ⟨_, q1⟩
  · exact h k d b hi q2 j d2 q3
  · exact h k d' b q1 q2 j d2 q3
theorem g_put (i : Nat) {x : Str} (hu : X.A.units + 1 < cLine) (hk : PE X e (teV K mg Γ W0 mk)) (hN : X.N[i]? = some x := by rfl) (hvis : Vis X.env.scope x := by first | exact Or.inl rfl | exact Or.inr (Or.inl rfl) | exact Or.inr (Or.inr rfl))
    (hd : (x == ("__debug__" : Str)) = false := by decide) (hcd : (x == ("__classdict__" : Str)) = false := by decide)
    (ha : ∀ v, assign (.Subscript (.Name x px) e pos) X.env v = (do
      let ov ← holding [v] (eval (.Name x px) X.env)
      let iv ← holding [v, ov] (eval e X.env)
      standAt pos
      holding [v, ov, iv] (setItem ov iv v)
      release [v, ov, iv] []) := by intro _; rfl) : PG X (.Subscript (.Name x px) e pos) (tpP K mg Γ i mk) := by
  have hs : PSet X (fun o i v H Q => rSetL o i v H Q ∨ rSetD o i v H Q) := fun pins s σ H o i v ov iv u Q I ro ri rv h => h.elim (set_list pins s σ H o i v ov iv u Q I ro ri rv) (set_dict hu pins s σ H o i v ov iv u Q I ro ri rv)
  have P := pg_sub (pos := pos) (pe_var hN hvis hd hcd (pos := px)) hk hs ha
  refine ⟨fun pins s σ H v u Q I r ⟨F, L, ρ, st, x, rl, kv, q⟩ => P.run pins s σ H v u Q I r ?_⟩
  unfold putAt at q
  cases ei : ρ[i]? with
  | none => rw [ei] at q; exact q.elim
  | some sl =>
    cases hm : mk ρ st with
    | bad => rw [ei, hm] at q; cases sl <;> (try exact q.elim) <;> (rename_i d; cases d <;> exact q.elim)
    | exc c fs st' => rw [ei, hm] at q; cases sl <;> (try exact q.elim) <;> (rename_i d; cases d <;> exact q.elim)
    | ok y st2 =>
      rw [ei, hm] at q
      cases sl with
      | own d =>
        obtain ⟨a, e1, nF, nL, n0, vs0⟩ := rl.so i d ei
        have key : ∀ (e' : D) (R : Hp → V → (Hp → Prop) → Prop), (∀ F2 L2 H2, Stp F L H F2 L2 H2 → Sto K mg F2 L2 H2 st2 → ∀ w, VRep K mg L2 F2 y w → ∃ ob, (∀ H', H' a = some ob → Has K mg F2 H' a e') ∧ ∀ Q : Hp → Prop, Q (upd H2 a ob) → R H2 w Q) →
            (∀ F' L' H', Rl K mg Γ F' L' σ H' (ρ.set i (.own e')) st2 → (∀ ds vs, MixL K mg Γ.H0 F L H ds vs → NE ρ σ ds vs → MixL K mg Γ.H0 F' L' H' ds vs ∧ NE (ρ.set i (.own e')) σ ds vs) → Q σ H') →
            ∃ w0, σ[i]? = some (some w0) ∧ teV K mg Γ W0 mk σ H fun w H2 => w0 = .ref a ∧ R H2 w fun H3 => Q σ H3 := fun e' R hR q => by
          refine ⟨_, e1, F, L, ρ, st, rl, ?_⟩
          rw [hm]
          intro F2 L2 H2 s2 o2 w kw
          refine ⟨rfl, ?_⟩
          obtain ⟨ob, g1, g2⟩ := hR F2 L2 H2 s2 o2 w kw
          refine g2 _ (q F2 L2 _ ((rl.step s2 o2).mut ei e1 g1) fun ds vs hx ne => ⟨hx.chg (fun d v h => s2.vrep h) fun j d' b j1 j2 fb lb hb => ?_, ne.put ei⟩)
          obtain ⟨u, hu⟩ := hb.there
          obtain ⟨g3, g4, g5⟩ := s2.kp b u hu lb
          refine ⟨g4.trans fb, g5, hb.mono s2.ex fun z hz => ?_⟩
          rw [upd_ne (fun z => ne i d a ei e1 j d' j1 (by rw [← z]; exact j2))]
          exact (s2.kp b z hz lb).1
        cases d with
        | dct kvs =>
          dsimp only at q
          cases hk : keyOf y with
          | none => rw [hk] at q; exact q.elim
          | some k =>
            rw [hk] at q
            dsimp only at q
            split at q
            · rename_i ρ' st' hq
              split at hq
              · rename_i hc
                cases hq
                obtain ⟨ks, h1, h2⟩ := vs0
                obtain ⟨w0, z1, z2⟩ := key (.dct (putD kvs k x)) (fun H2 w Q => rSetL (.ref a) w v H2 Q ∨ rSetD (.ref a) w v H2 Q) (fun F2 L2 H2 s2 o2 w kw => by
                  cases keyOf_v hk kw
                  obtain ⟨k1, k2, k3⟩ := s2.kp a _ h1 nL
                  refine ⟨_, fun H' h => ⟨_, h, (RepK.mono s2.ex _ h2).put k (VRep.flat (s2.vrep kv) hc.2)⟩, fun Q q => .inr ⟨a, _, rfl, DPut.k (k := k) k1 (by rw [sizeLine_eq, ← h2.length]; omega), q⟩⟩) q
                refine ⟨w0, z1, teV_imp z2 fun w H2 ⟨hw, h⟩ => ?_⟩
                rw [hw]; exact h
              · cases hq
            · exact q.elim
        | lst xs =>
          cases y with
          | int n =>
            dsimp only at q
            cases hj : ixN xs.length n with
            | none => rw [hj] at q; exact q.elim
            | some j =>
              rw [hj] at q
              dsimp only at q
              split at q
              · rename_i ρ' st' hq
                split at hq
                · rename_i hc
                  cases hq
                  obtain ⟨ks, h1, h2⟩ := vs0
                  obtain ⟨w0, z1, z2⟩ := key (.lst (xs.set j x)) (fun H2 w Q => rSetL (.ref a) w v H2 Q ∨ rSetD (.ref a) w v H2 Q) (fun F2 L2 H2 s2 o2 w kw => by
                    cases kw.int
                    obtain ⟨k1, k2, k3⟩ := s2.kp a _ h1 nL
                    refine ⟨_, fun H' h => ⟨_, h, (RepL.mono s2.ex _ h2).set j (VRep.flat (s2.vrep kv) hc)⟩, fun Q q => .inl ⟨a, _, n, j, rfl, rfl, k1, by rw [← h2.length]; exact hj, q⟩⟩) q
                  refine ⟨w0, z1, teV_imp z2 fun w H2 ⟨hw, h⟩ => ?_⟩
                  rw [hw]; exact h
                · cases hq
              · exact q.elim
          | _ => exact q.elim
        | _ => exact q.elim
      | _ => exact q.elim
/-- x[k] = v -/
def sPut (i : Nat) (mk mv : EDen) : SDen := fun ρ st => (mv ρ st).s ρ fun x st1 => match putAt i mk x ρ st1 with
  | some (ρ', st') => .nx ρ' st'
  | none => .bad
theorem s_put {i : Nat} {tg : Expr} (hv : PE X v (teV K mg Γ W mv)) (hg : PG X tg (tpP K mg Γ i mk)) (hs : swapsWithSole [tg] v pos.line X.env = pure false := by rfl) (hw : swappedStores [tg] v X.env = pure none := by rfl) (h1 : (assignEach [tg] X.env).map (·.2) = [assign tg X.env] := by rfl) :
    PS X (.Assign [tg] v pos) (tsG K mg Γ W (sPut i mk mv)) := by
  refine ps_imp (ps_asg hv hg hs hw h1) fun D' σ H ⟨F, L, ρ, st, rl, q⟩ => ⟨F, L, ρ, st, rl, (SPost.s q rl).imp fun F1 L1 H1 st1 x s o q1 v kv => ?_⟩
  refine ⟨F1, L1, ρ, st1, x, rl.step s o, kv, ?_⟩
  split at q1
  · rename_i ρ' st' hp
    exact fun F' L' H' rl' _ => q1 F' L' σ H' rl'
  · exact q1.elim
/-! ### many targets, places among them -/
abbrev NDen := List (D × Bool) → REnv → Store → Option (REnv × Store)
def pdNil : NDen := fun ds ρ st => match ds with
  | [] => some (ρ, st)
  | _ => none
def pdName (i : Nat) (r : NDen) : NDen := fun ds ρ st => match ds with
  | (d, true) :: ds => r ds (ρ.set i (.own d)) st
  | (d, false) :: ds => r ds (ρ.set i (.val d)) st
  | [] => none
def pdPut (i : Nat) (mk : EDen) (r : NDen) : NDen := fun ds ρ st => match ds with
  | (x, false) :: ds => (match putAt i mk x ρ st with
    | some (ρ', st') => r ds ρ' st'
    | none => none)
  | _ => none
def tpG (K : PySem.W.Frag) (mg : Glob) (Γ : Ent) (pd : NDen) : TGs := fun vs σ H Q => ∃ F L ρ st ds, Rl K mg Γ F L σ H ρ st ∧ MixL K mg Γ.H0 F L H ds vs ∧ NE ρ σ ds vs ∧ match pd ds ρ st with
  | some (ρ', st') => ∀ F' L' σ' H', Rl K mg Γ F' L' σ' H' ρ' st' → Q σ' H'
  | none => False
theorem pd_nil : PGs X [] (tpG K mg Γ pdNil) := pgs_imp pgs_nil fun vs σ H Q ⟨F, L, ρ, st, ds, rl, hx, ne, q⟩ => by
  match ds, hx, q with
  | [], hx, q => exact ⟨hx, q F L σ H rl⟩
theorem NE.tl {ρ : REnv} {σ : St} {ds : List (D × Bool)} {vs : List V} {d : D × Bool} {v : V} (h : NE ρ σ (d :: ds) (v :: vs)) : NE ρ σ ds vs := fun k d b q1 q2 j d2 q3 => by
  have := h k d b q1 q2 (j + 1) d2 (by simpa using q3)
  simpa using this
theorem NE.setV {ρ : REnv} {σ : St} {ds : List (D × Bool)} {vs : List V} {i : Nat} {d : D} {v : V} (h : NE ρ σ ds vs) : NE (ρ.set i (.val d)) (σ.set i (some v)) ds vs := fun k d' b q1 q2 j d2 q3 => by
  rcases set_get q1 with ⟨_, q, _⟩ | ⟨n, q1⟩
  · cases q
  · rw [List.getElem?_set_ne (Ne.symm n)] at q2
    exact h k d' b q1 q2 j d2 q3
theorem NE.setO {ρ : REnv} {σ : St} {ds : List (D × Bool)} {vs : List V} {i : Nat} {d : D} {a : Addr} (hl : ρ.length = σ.length) (h : NE ρ σ ds vs) (h4 : ∀ (j : Nat) (d' : D), ds[j]? = some (d', true) → vs[j]? ≠ some (V.ref a)) : NE (ρ.set i (.own d)) (σ.set i (some (.ref a))) ds vs := fun k d' b q1 q2 j d2 q3 => by
  rcases set_get q1 with ⟨hki, q, hi⟩ | ⟨n, q1⟩
  · subst hki
    rw [List.getElem?_set_self (by rw [← hl]; exact hi)] at q2
    cases q2
    exact h4 j d2 q3
  · rw [List.getElem?_set_ne (Ne.symm n)] at q2
    exact h k d' b q1 q2 j d2 q3
theorem pd_name {x : Str} {r : NDen} (i : Nat) (hN : X.N.Nodup) (h2 : PGs X es (tpG K mg Γ r)) (hi : X.N[i]? = some x := by rfl) (hx : Loc X.env.scope x := by first | exact Or.inl rfl | exact Or.inr rfl) (hf : X.fn x = true ∨ X.env.scope.names.lookup x = some .local := by first | exact .inl rfl | exact .inr rfl | assumption)
    (hs : (assignEach (.Name x pos :: es) X.env).map (·.2) = assign (.Name x pos) X.env :: (assignEach es X.env).map (·.2) := by rfl) : PGs X (.Name x pos :: es) (tpG K mg Γ (pdName i r)) := by
  refine pgs_imp (pgs_cons (pg_name hN hi hx hf) h2 hs) fun vs σ H Q ⟨F, L, ρ, st, ds, rl, hx, ne, q⟩ => ?_
  match ds, hx, ne, q with
  | [], _, _, q => exact q.elim
  | (d, false) :: ds, hx, ne, q =>
    obtain ⟨v, r, rfl, h1, h3⟩ := hx
    exact ⟨v, r, rfl, F, L, _, st, ds, rl.setV i h1, h3, ne.tl.setV, q⟩
  | (d, true) :: ds, hx, ne, q =>
    obtain ⟨a, r, rfl, ⟨h1, h2, h5, h6⟩, h4, h3⟩ := hx
    exact ⟨_, r, rfl, F, L, _, st, ds, rl.setO i h2 h5 h1 h6 (fun j e q z => ne j e a q z 0 d rfl rfl), h3, ne.tl.setO rl.len h4, q⟩
theorem pd_put {i : Nat} {tg : Expr} {r : NDen} (hg : PG X tg (tpP K mg Γ i mk)) (h2 : PGs X es (tpG K mg Γ r)) (hs : (assignEach (tg :: es) X.env).map (·.2) = assign tg X.env :: (assignEach es X.env).map (·.2) := by rfl) :
    PGs X (tg :: es) (tpG K mg Γ (pdPut i mk r)) := by
  refine pgs_imp (pgs_cons hg h2 hs) fun vs σ H Q ⟨F, L, ρ, st, ds, rl, hx, ne, q⟩ => ?_
  match ds, hx, ne, q with
  | [], _, _, q => exact q.elim
  | (d, true) :: ds, _, _, q => exact q.elim
  | (d, false) :: ds, hx, ne, q =>
    obtain ⟨v, r, rfl, h1, h3⟩ := hx
    refine ⟨v, r, rfl, F, L, ρ, st, d, rl, h1, ?_⟩
    unfold pdPut at q
    dsimp only at q
    cases hp : putAt i mk d ρ st with
    | none => rw [hp] at q; exact q
    | some w =>
      obtain ⟨ρ', st'⟩ := w
      rw [hp] at q
      exact fun F' L' H' rl' k => ⟨F', L', ρ', st', ds, rl', (k ds r h3 ne.tl).1, (k ds r h3 ne.tl).2, q⟩
def sMany (n : Nat) (pd : NDen) (ms : MDen) : SDen := fun ρ st => (ms ρ st).s ρ fun ds st1 => if ds.length = n then (match pd ds ρ st1 with
  | some (ρ', st') => .nx ρ' st'
  | none => .bad) else .bad
theorem s_many {x1 : Nat} {pd : NDen} {n : Nat} (hK : X.K = K) (hc : X.calm = true) (ha : PA X es (tmG K mg Γ W ms)) (h : PGs X ts (tpG K mg Γ pd)) (hl9 : n < 100 := by decide) (hn : (assignEach ts X.env).length = n := by rfl) (hst : (assignEach ts X.env).findIdx? (·.1) = none := by rfl)
    (hs : swapsWithSole [.Tuple ts kt tpos] (.Tuple es x1 p) pos.line X.env = pure false := by rfl) (hw : swappedStores [.Tuple ts kt tpos] (.Tuple es x1 p) X.env = pure none := by rfl)
    (h1 : (assignEach [.Tuple ts kt tpos] X.env).map (·.2) = [assign (.Tuple ts kt tpos) X.env] := by rfl) : PS X (.Assign [.Tuple ts kt tpos] (.Tuple es x1 p) pos) (tsG K mg Γ W (sMany n pd ms)) := by
  refine ps_imp (ps_asg (pe_tup ha) (pg_tup hc h hn hst) hs hw h1) fun D' σ H ⟨F, L, ρ, st, rl, q⟩ => ?_
  refine ⟨F, L, ρ, st, rl, (SPost.s q rl).imp fun F1 L1 H1 st1 ds s o q1 vs kvs => ?_⟩
  split at q1
  · rename_i hl
    have rl1 := rl.step s o
    have hlen : vs.length = n := by rw [← kvs.len]; exact hl
    refine ⟨by rw [hlen, sizeLine_eq]; omega, fun p np => ⟨p, vs, rfl, .inl (.inl upd_same), hlen, ?_⟩⟩
    refine ⟨F1, L1, ρ, st1, ds, rl1.step (Stp.fresh np) (o.fresh np), (kvs.more fun a w z => by rw [upd_ne (ne_of_none z np)]; exact z).late fun a z y => z (rl.new0 y), fun i d b e1 e2 j d' j1 j2 => ?_, ?_⟩
    · obtain ⟨a, g1, _, _, _, hh⟩ := rl.so i d e1
      rw [g1] at e2
      cases e2
      obtain ⟨u, hu⟩ := hh.there
      rw [kvs.fresh j1 j2] at hu; cases hu
    · split at q1
      · rename_i ρ' st' hp
        exact fun F' L' σ' H' rl' => q1 F' L' σ' H' rl'
      · exact q1.elim
  · exact q1.elim
theorem x_var {X : Cx} {x : Str} {pos : Pos} (i : Nat) (hN : X.N[i]? = some x := by rfl) (hv : Vis X.env.scope x := by first | exact Or.inl rfl | exact Or.inr (Or.inl rfl) | exact Or.inr (Or.inr rfl)) (hd : (x == ("__debug__" : Str)) = false := by decide)
    (hcd : (x == ("__classdict__" : Str)) = false := by decide) : PE X (.Name x pos) (tVar i) := pe_var hN hv hd hcd
end
end Gh
/-! Gh33: more reckoning with denotations: the new constructs, dicts, equality. -/
namespace Gh
open L2 PyProof.Rows PySem.Spec PySem
section
variable {ρ : REnv} {st : Store}
@[simp] theorem r_star (m : EDen) (r : ADen) : aStar m r ρ st = (m ρ st).bind fun d st1 => match starOf d with
  | some es => (r ρ st1).bind fun ds st2 => .ok (es ++ ds) st2
  | none => .bad := rfl
@[simp] theorem r_att (f : Str) (cs : List Str) (mo mv : EDen) : sAtt f cs mo mv ρ st = (mv ρ st).s ρ fun x st1 => (mo ρ st1).s ρ fun y st2 => match y with
  | .loc n => (match st2[n]? with
    | some (.ins c fs) => if c ∈ cs ∧ isLoc x = false ∧ fs.length < 1000 then .nx ρ (st2.set n (.ins c (putFD f x fs))) else .bad
    | _ => .bad)
  | _ => .bad := rfl
@[simp] theorem r_attAug (f : Str) (cs : List Str) (mo : EDen) (g : Op2) (mv : EDen) : sAttAug f cs mo g mv ρ st = (mo ρ st).s ρ fun y st1 => match y with
  | .loc n => (match st1[n]? with
    | some (.ins c fs) => if c ∈ cs then (match fs.lookup f with
      | some x => (mv ρ st1).s ρ fun z st2 => (g x z st2).s ρ fun r st3 => (match st3[n]? with
        | some (.ins c' fs') => if c' = c ∧ isLoc r = false ∧ fs'.length < 999 then .nx ρ (st3.set n (.ins c (putFD f r fs'))) else .bad
        | _ => .bad)
      | none => .bad) else .bad
    | _ => .bad)
  | _ => .bad := rfl
@[simp] theorem r_dstar (md mk mv : EDen) : eDStar md mk mv ρ st = (md ρ st).bind fun x st1 => match x with
  | .dct ls => if ls.length < 1000000 then (mk ρ st1).bind fun y st2 => (mv ρ st2).bind fun z st3 => match keyOf y with
    | some kk => if isLoc z = false then .ok (.dct (putD (mergeD [] ls) kk z)) st3 else .bad
    | none => .bad else .bad
  | _ => .bad := rfl
@[simp] theorem r_get2 (mo me mf : EDen) : eGet2 mo me mf ρ st = (mo ρ st).bind fun x st1 => match x with
  | .dct kvs => (me ρ st1).bind fun y st2 => (mf ρ st2).bind fun z st3 => match keyOf y with
    | some k => .ok ((valD kvs k).getD z) st3
    | none => .bad
  | _ => .bad := rfl
@[simp] theorem r_dict (m : PDen) : eDict m ρ st = (m ρ st).bind fun kvs st1 => if kvs.length ≤ 15 then .ok (.dct (mergeD [] kvs)) st1 else .bad := rfl
@[simp] theorem r_pNil : pNil ρ st = .ok [] st := rfl
@[simp] theorem r_pCons (mk mv : EDen) (r : PDen) : pCons mk mv r ρ st = (mk ρ st).bind fun x st1 => (mv ρ st1).bind fun y st2 => (r ρ st2).bind fun kvs st3 => match keyOf x with
  | some k => if isLoc y = false then .ok ((k, y) :: kvs) st3 else .bad
  | none => .bad := rfl
@[simp] theorem r_many (n : Nat) (pd : NDen) (ms : MDen) : sMany n pd ms ρ st = (ms ρ st).s ρ fun ds st1 => if ds.length = n then (match pd ds ρ st1 with
  | some (ρ', st') => .nx ρ' st'
  | none => .bad) else .bad := rfl
@[simp] theorem r_pdNil : pdNil [] ρ st = some (ρ, st) := rfl
@[simp] theorem r_pdNameO (i : Nat) (r : NDen) (d : D) (ds : List (D × Bool)) : pdName i r ((d, true) :: ds) ρ st = r ds (ρ.set i (.own d)) st := rfl
@[simp] theorem r_pdNameV (i : Nat) (r : NDen) (d : D) (ds : List (D × Bool)) : pdName i r ((d, false) :: ds) ρ st = r ds (ρ.set i (.val d)) st := rfl
@[simp] theorem r_pdPut (i : Nat) (mk : EDen) (r : NDen) (x : D) (ds : List (D × Bool)) : pdPut i mk r ((x, false) :: ds) ρ st = (match putAt i mk x ρ st with
  | some (ρ', st') => r ds ρ' st'
  | none => none) := rfl
@[simp] theorem r_put (i : Nat) (mk mv : EDen) : sPut i mk mv ρ st = (mv ρ st).s ρ fun x st1 => match putAt i mk x ρ st1 with
  | some (ρ', st') => .nx ρ' st'
  | none => .bad := rfl
theorem putAt_d {i : Nat} {mk : EDen} {x y : D} {k : Key} {st2 : Store} {kvs : List (Key × D)} (h : ρ[i]? = some (.own (.dct kvs))) (hm : mk ρ st = .ok y st2) (hk : keyOf y = some k) (hl : kvs.length < 100000) (hx : isLoc x = false) :
    putAt i mk x ρ st = some (ρ.set i (.own (.dct (putD kvs k x))), st2) := by
  unfold putAt
  rw [h, hm]
  dsimp only
  rw [hk]
  dsimp only
  rw [if_pos ⟨hl, hx⟩]
theorem putAt_l {i : Nat} {mk : EDen} {x : D} {n : Int} {j : Nat} {st2 : Store} {xs : List D} (h : ρ[i]? = some (.own (.lst xs))) (hm : mk ρ st = .ok (.int n) st2) (hj : ixN xs.length n = some j) (hx : isLoc x = false) :
    putAt i mk x ρ st = some (ρ.set i (.own (.lst (xs.set j x))), st2) := by
  unfold putAt
  rw [h, hm]
  dsimp only
  rw [hj]
  dsimp only
  rw [if_pos hx]
@[simp] theorem r_keyI (i : Int) : keyOf (.int i) = some (.inl i) := rfl
@[simp] theorem r_keyS (s : Str) : keyOf (.str s) = some (.inr s) := rfl
@[simp] theorem r_starL (ds : List D) : starOf (.lst ds) = some ds := rfl
@[simp] theorem r_starT (ds : List D) : starOf (.tup ds) = some ds := rfl
@[simp] theorem r_raise (c : Str) (fs : List Str) (ms : ADen) : sRaise c fs ms ρ st = (ms ρ st).s ρ fun ds st' => if flatL ds = true ∧ ds.length = fs.length then .exc c (fs.zip ds).reverse ρ st' else .bad := rfl
@[simp] theorem r_tryAs (i : Nat) (all cs : List Str) (mb mh : SDen) : sTryAs i all cs mb mh ρ st = (match mb ρ st with
  | .exc c fs ρ' st' => if c ∈ all then (if c ∈ cs then unset i (mh (ρ'.set i (.exc c fs)) st') else .exc c fs ρ' st') else .bad
  | r => r) := rfl
@[simp] theorem r_try (all cs : List Str) (mb mh : SDen) : sTry all cs mb mh ρ st = (match mb ρ st with
  | .exc c fs ρ' st' => if c ∈ all then (if c ∈ cs then noXs (mh ρ' st') else .exc c fs ρ' st') else .bad
  | r => r) := rfl
theorem try_nx {i : Nat} {all cs : List Str} {mb mh : SDen} {ρ' : REnv} {st' : Store} (h : mb ρ st = .nx ρ' st') : sTryAs i all cs mb mh ρ st = .nx ρ' st' := by rw [r_tryAs, h]
theorem try_exc {i : Nat} {all cs : List Str} {mb mh : SDen} {ρ' : REnv} {st' : Store} {c : Str} {fs : List (Str × D)} (h : mb ρ st = .exc c fs ρ' st') (ha : c ∈ all) (hc : c ∈ cs) : sTryAs i all cs mb mh ρ st = unset i (mh (ρ'.set i (.exc c fs)) st') := by
  rw [r_tryAs, h]
  dsimp only
  rw [if_pos ha, if_pos hc]
theorem seq_exc {a b : SDen} {ρ ρ' : REnv} {st st' : Store} {c : Str} {fs : List (Str × D)} (h : a ρ st = .exc c fs ρ' st') : sSeq a b ρ st = .exc c fs ρ' st' := by
  unfold sSeq
  rw [h]
theorem callD_exc {np nl : Nat} {body : SDen} {ds : List D} {st st' : Store} {ρ' : REnv} {c : Str} {fs : List (Str × D)} (hl : ds.length = np) (h : body (ds.map Sl.val ++ List.replicate (nl - np) Sl.un) st = .exc c fs ρ' st') : callD np nl body ds st = .exc c fs (st'.take st.length) := by
  unfold callD
  rw [if_pos hl, h]
/-! equality -/
mutual
theorem eqv_refl : ∀ (n : Nat) (x : D), okD n x = true → D.eqv x x = true
  | _, .non, _ => rfl
  | _, .bl b, _ => by simp [D.eqv]
  | _, .int i, _ => by simp [D.eqv]
  | _, .str s, _ => by simp [D.eqv]
  | n + 1, .lst ds, h => eqvL_refl n ds h
  | n + 1, .scr ds, h => eqvL_refl n ds h
  | n + 1, .tup ds, h => eqvL_refl n ds h
  | 0, .lst ds, h => by cases h
  | 0, .scr ds, h => by cases h
  | 0, .tup ds, h => by cases h
  | n, .dct kvs, h => by cases n <;> cases h
  | n, .ins c fs, h => by cases n <;> cases h
  | n, .loc k, h => by cases n <;> cases h
theorem eqvL_refl : ∀ (n : Nat) (ds : List D), ds.all (okD n) = true → eqvL ds ds = true
  | _, [], _ => rfl
  | n, d :: ds, h => by
    rw [List.all_cons, Bool.and_eq_true] at h
    show (D.eqv d d && eqvL ds ds) = true
    rw [eqv_refl n d h.1, eqvL_refl n ds h.2]
    rfl
end
theorem eqD_self {x : D} (h : okD 20 x = true) : eqD x x = some true := by
  unfold eqD
  split
  · rename_i b hb
    unfold scalD at hb
    cases x <;> simp at hb <;> simp [← hb]
  · rw [if_pos ⟨h, h⟩, eqv_refl 20 x h]
theorem ne_self {x : D} (h : okD 20 x = true) : gNe x x st = .ok (.bl false) st := by
  unfold gNe
  rw [eqD_self h]
  rfl
theorem eq_self {x : D} (h : okD 20 x = true) : gEq x x st = .ok (.bl true) st := by
  unfold gEq
  rw [eqD_self h]
@[simp] theorem r_eqII (i j : Int) : gEq (.int i) (.int j) st = .ok (.bl (decide (i = j))) st := rfl
@[simp] theorem r_eqSS (i j : Str) : gEq (.str i) (.str j) st = .ok (.bl (decide (i = j))) st := rfl
@[simp] theorem r_eqBB (i j : Bool) : gEq (.bl i) (.bl j) st = .ok (.bl (decide (i = j))) st := rfl
@[simp] theorem r_neII (i j : Int) : gNe (.int i) (.int j) st = .ok (.bl (!decide (i = j))) st := rfl
@[simp] theorem r_neSS (i j : Str) : gNe (.str i) (.str j) st = .ok (.bl (!decide (i = j))) st := rfl
@[simp] theorem r_neBB (i j : Bool) : gNe (.bl i) (.bl j) st = .ok (.bl (!decide (i = j))) st := rfl
@[simp] theorem r_addII (i j : Int) : gAdd (.int i) (.int j) st = .ok (.int (i + j)) st := rfl
theorem add_lst {a b : List D} (h : a.length + b.length < 100000) : gAdd (.lst a) (.lst b) st = .ok (.lst (a ++ b)) st := by
  show (if a.length + b.length < 100000 then _ else _) = _
  rw [if_pos h]
theorem add_tup {a b : List D} (h : a.length + b.length < 100000) : gAdd (.tup a) (.tup b) st = .ok (.tup (a ++ b)) st := by
  show (if a.length + b.length < 100000 then _ else _) = _
  rw [if_pos h]
@[simp] theorem r_gTupL (ds : List D) : gTuple [.lst ds] st = .ok (.tup ds) st := rfl
@[simp] theorem r_gTupT (ds : List D) : gTuple [.tup ds] st = .ok (.tup ds) st := rfl
@[simp] theorem r_gListL (ds : List D) : gList [.lst ds] st = .ok (.lst ds) st := rfl
@[simp] theorem r_gListT (ds : List D) : gList [.tup ds] st = .ok (.lst ds) st := rfl
@[simp] theorem r_gLenL (ds : List D) : gLen [.lst ds] st = .ok (.int (ds.length : Nat)) st := rfl
@[simp] theorem r_gLenT (ds : List D) : gLen [.tup ds] st = .ok (.int (ds.length : Nat)) st := rfl
theorem in_dct {kvs : List (Key × D)} {x : D} {k : Key} (h : keyOf x = some k) : gIn x (.dct kvs) st = .ok (.bl (valD kvs k).isSome) st := by
  unfold gIn isIn
  dsimp only
  rw [h]
theorem notin_dct {kvs : List (Key × D)} {x : D} {k : Key} (h : keyOf x = some k) : gNotIn x (.dct kvs) st = .ok (.bl (!(valD kvs k).isSome)) st := by
  unfold gNotIn isIn
  dsimp only
  rw [h]
theorem isIn_flat {x y : D} {ds : List D} (hy : itemsOf y = some ds) (hx : flatD x = true) (hd : ds.all flatD = true) : isIn x y = some (inD x ds) := by
  cases y <;> cases hy <;> (unfold isIn itemsOf; dsimp only; rw [if_pos ⟨hx, hd⟩])
theorem in_flat {x y : D} {ds : List D} (hy : itemsOf y = some ds) (hx : flatD x = true) (hd : ds.all flatD = true) : gIn x y st = .ok (.bl (inD x ds)) st := by
  unfold gIn
  rw [isIn_flat hy hx hd]
theorem notin_flat {x y : D} {ds : List D} (hy : itemsOf y = some ds) (hx : flatD x = true) (hd : ds.all flatD = true) : gNotIn x y st = .ok (.bl (!inD x ds)) st := by
  unfold gNotIn
  rw [isIn_flat hy hx hd]
theorem all_flat_map {α : Type} (f : α → D) (h : ∀ a, flatD (f a) = true) (l : List α) : (l.map f).all flatD = true := by
  rw [List.all_map]
  exact List.all_eq_true.mpr fun a _ => h a
theorem inD_str (s : Str) (l : List Str) : inD (.str s) (l.map D.str) = decide (s ∈ l) := by
  unfold inD
  induction l with
  | nil => rfl
  | cons a r ih =>
    rw [List.map_cons, List.any_cons, ih]
    show ((a == s) || decide (s ∈ r)) = _
    by_cases h : a = s
    · subst h; simp
    · have h' : s ≠ a := fun z => h z.symm
      simp [h, h']
theorem inD_int (s : Int) (l : List Int) : inD (.int s) (l.map D.int) = decide (s ∈ l) := by
  unfold inD
  induction l with
  | nil => rfl
  | cons a r ih =>
    rw [List.map_cons, List.any_cons, ih]
    show ((a == s) || decide (s ∈ r)) = _
    by_cases h : a = s
    · subst h; simp
    · have h' : s ≠ a := fun z => h z.symm
      simp [h, h']
theorem okD_map {α : Type} (n : Nat) (f : α → D) (l : List α) (h : ∀ a ∈ l, okD n (f a) = true) : (l.map f).all (okD n) = true := by
  rw [List.all_map]
  exact List.all_eq_true.mpr fun a ha => h a ha
theorem flatL_map {α : Type} (f : α → D) (l : List α) (h : ∀ a, isLoc (f a) = false) : flatL (l.map f) = true := by
  unfold flatL
  rw [List.all_map]
  exact List.all_eq_true.mpr fun a _ => by
    show (!isLoc (f a)) = true
    rw [h a]
    rfl
theorem flatL_app (a b : List D) : flatL (a ++ b) = (flatL a && flatL b) := List.all_append ..
/-! dicts -/
abbrev keysD (kvs : List (Key × D)) : List Key := kvs.map (·.1)
theorem any_keys {kvs : List (Key × D)} {k : Key} : (kvs.any fun kv => decide (kv.1 = k)) = true ↔ k ∈ keysD kvs := by
  rw [List.any_eq_true]
  constructor
  · rintro ⟨kv, h, e⟩
    have e : kv.1 = k := by simpa using e
    exact e ▸ List.mem_map_of_mem h
  · intro h
    obtain ⟨kv, h, e⟩ := List.mem_map.mp h
    exact ⟨kv, h, by simpa using e⟩
theorem putD_new {kvs : List (Key × D)} {k : Key} {v : D} (h : k ∉ keysD kvs) : putD kvs k v = kvs ++ [(k, v)] := by
  unfold putD
  rw [if_neg fun z => h (any_keys.mp z)]
theorem putD_old {kvs : List (Key × D)} {k : Key} {v : D} (h : k ∈ keysD kvs) : putD kvs k v = kvs.map fun kv => if kv.1 = k then (kv.1, v) else kv := by
  unfold putD
  rw [if_pos (any_keys.mpr h)]
theorem keys_old {kvs : List (Key × D)} {k : Key} {v : D} (h : k ∈ keysD kvs) : keysD (putD kvs k v) = keysD kvs := by
  rw [putD_old h, keysD, keysD, List.map_map]
  refine List.map_congr_left fun kv _ => ?_
  show (if kv.1 = k then (kv.1, v) else kv).1 = kv.1
  split <;> rfl
theorem keys_new {kvs : List (Key × D)} {k : Key} {v : D} (h : k ∉ keysD kvs) : keysD (putD kvs k v) = keysD kvs ++ [k] := by
  rw [putD_new h, keysD, List.map_append]
  rfl
theorem mem_keys {kvs : List (Key × D)} {k k2 : Key} {v : D} : k2 ∈ keysD (putD kvs k v) ↔ k2 = k ∨ k2 ∈ keysD kvs := by
  by_cases h : k ∈ keysD kvs
  · rw [keys_old h]
    exact ⟨.inr, fun z => z.elim (fun e => e ▸ h) id⟩
  · rw [keys_new h, List.mem_append]
    exact ⟨fun z => z.elim .inr fun z => .inl (by simpa using z), fun z => z.elim (fun e => .inr (by simp [e])) .inl⟩
theorem putD_nodup {kvs : List (Key × D)} {k : Key} {v : D} (h : (keysD kvs).Nodup) : (keysD (putD kvs k v)).Nodup := by
  by_cases n : k ∈ keysD kvs
  · rw [keys_old n]
    exact h
  · rw [keys_new n, List.nodup_append]
    refine ⟨h, by simp, fun a ha b hb => ?_⟩
    have hb : b = k := by simpa using hb
    subst hb
    exact fun e => n (e ▸ ha)
theorem putD_len (kvs : List (Key × D)) (k : Key) (v : D) : (putD kvs k v).length ≤ kvs.length + 1 := by
  unfold putD
  split
  · rw [List.length_map]; omega
  · rw [List.length_append]; exact Nat.le_refl _
theorem merge_go : ∀ (l acc : List (Key × D)), (keysD (acc ++ l)).Nodup → l.foldl (fun acc kv => putD acc kv.1 kv.2) acc = acc ++ l
  | [], acc, _ => (List.append_nil acc).symm
  | kv :: l, acc, h => by
    have h2 : kv.1 ∉ keysD acc := fun z => by
      rw [keysD, List.map_append, List.nodup_append] at h
      exact h.2.2 _ z _ List.mem_cons_self rfl
    rw [List.foldl_cons, putD_new h2, merge_go l _ (by simpa using h)]
    simp
theorem mergeD_id {l : List (Key × D)} (h : (keysD l).Nodup) : mergeD [] l = l := merge_go l [] h
@[simp] theorem mergeD_nil : mergeD [] ([] : List (Key × D)) = [] := rfl
theorem valD_mem {kvs : List (Key × D)} {k : Key} {d : D} (h : valD kvs k = some d) : (k, d) ∈ kvs := by
  unfold valD at h
  cases hf : kvs.find? fun kv => decide (kv.1 = k) with
  | none => rw [hf] at h; cases h
  | some kv =>
    rw [hf] at h
    cases h
    have := List.find?_some hf
    have e : kv.1 = k := by simpa using this
    rw [← e]
    exact List.mem_of_find?_eq_some hf
theorem valD_some {kvs : List (Key × D)} {k : Key} : (valD kvs k).isSome = true ↔ k ∈ keysD kvs := by
  unfold valD
  rw [Option.isSome_map, List.isSome_find?, any_keys]
theorem valD_put (kvs : List (Key × D)) (k : Key) (v : D) : valD (putD kvs k v) k = some v := by
  by_cases h : k ∈ keysD kvs
  · rw [putD_old h]
    unfold valD
    induction kvs with
    | nil => cases h
    | cons kv r ih =>
      rw [List.map_cons, List.find?_cons]
      by_cases e : kv.1 = k
      · simp [e]
      · have hr : k ∈ keysD r := by
          rcases List.mem_cons.mp h with h | h
          · exact absurd h.symm e
          · exact h
        simp only [e, if_false, decide_false]
        exact ih hr
  · rw [putD_new h]
    unfold valD
    rw [List.find?_append]
    have : kvs.find? (fun kv => decide (kv.1 = k)) = none := List.find?_eq_none.mpr fun kv hk => by
      simp only [decide_eq_true_eq]
      exact fun e => h (e ▸ List.mem_map_of_mem hk)
    rw [this]
    simp
theorem mem_putD {kvs : List (Key × D)} {k : Key} {v : D} {p : Key × D} (h : p ∈ putD kvs k v) : p = (k, v) ∨ p ∈ kvs := by
  unfold putD at h
  split at h
  · obtain ⟨q, hq, e⟩ := List.mem_map.mp h
    split at e
    · rename_i e2
      rw [← e, ← e2]
      exact .inl rfl
    · exact .inr (e ▸ hq)
  · rcases List.mem_append.mp h with h | h
    · exact .inr h
    · exact .inl (by simpa using h)
theorem dcompGo_map {α : Type} {bd : BDen} {t : TDen} {mk mv : EDen} {ρ : REnv} {st : Store} (emb : α → D) (fk : α → Key) (f : α → D) (q : α → Bool) : ∀ ds : List α, (∀ a ∈ ds, ∃ ρ1, bd (emb a) ρ = some ρ1 ∧ t ρ1 st = .ok (q a) st ∧ (q a = true → ∃ y, mk ρ1 st = .ok y st ∧ keyOf y = some (fk a) ∧ mv ρ1 st = .ok (f a) st ∧ isLoc (f a) = false)) →
    dcompGo bd t mk mv ρ (ds.map emb) st = .ok ((ds.filter q).map fun a => (fk a, f a)) st
  | [], _ => rfl
  | a :: ds, h => by
    obtain ⟨ρ1, h1, h2, h3⟩ := h a List.mem_cons_self
    have ih := dcompGo_map emb fk f q ds fun b hb => h b (List.mem_cons_of_mem _ hb)
    rw [List.map_cons]
    unfold dcompGo
    rw [h1]
    dsimp only
    rw [h2, RC.bind_ok]
    cases hq : q a with
    | true =>
      obtain ⟨y, h4, h5, h6, h7⟩ := h3 hq
      rw [if_pos rfl, h4, RC.bind_ok, h6, RC.bind_ok, h5]
      dsimp only
      rw [h7, if_neg (by decide), ih, List.filter_cons, hq]
      rfl
    | false =>
      rw [if_neg (by decide), ih, List.filter_cons, hq]
      rfl
theorem eDComp_map {α : Type} {mi : LDen} {bd : BDen} {t : TDen} {mk mv : EDen} {vs : List Nat} {ρ : REnv} {st : Store} (emb : α → D) (fk : α → Key) (f : α → D) (q : α → Bool) (ds : List α) (hi : mi ρ st = .ok (ds.map emb) st) (hl : ds.length < 100000)
    (h : ∀ a ∈ ds, ∃ ρ1, bd (emb a) (wipeR ρ vs) = some ρ1 ∧ t ρ1 st = .ok (q a) st ∧ (q a = true → ∃ y, mk ρ1 st = .ok y st ∧ keyOf y = some (fk a) ∧ mv ρ1 st = .ok (f a) st ∧ isLoc (f a) = false)) :
    eDComp mi bd t mk mv vs ρ st = .ok (.dct (mergeD [] ((ds.filter q).map fun a => (fk a, f a)))) st := by
  unfold eDComp
  rw [hi, RC.bind_ok, List.length_map, if_pos hl, dcompGo_map emb fk f q ds h]
  rfl
/-! sets -/
theorem asInts_strs (s : Str) (l : List Str) : asInts ((s :: l).map D.str) = none := rfl
theorem asStrs_map (l : List Str) : asStrs (l.map D.str) = some l := by
  induction l with
  | nil => rfl
  | cons a r ih =>
    rw [List.map_cons]
    unfold asStrs
    rw [ih]
    rfl
theorem asInts_map (l : List Int) : asInts (l.map D.int) = some l := by
  induction l with
  | nil => rfl
  | cons a r ih =>
    rw [List.map_cons]
    unfold asInts
    rw [ih]
    rfl
theorem sortI_nil : sortI (uniq []) = [] := List.eq_nil_iff_length_eq_zero.mpr (by rw [(sortI_perm _).length_eq]; rfl)
def sset (l : List Str) : List Str := if l = [] then [] else sortS (uniq l)
theorem sortSet_strs {m : EDen} {st1 : Store} (x : D) (l : List Str) (h : m ρ st = .ok x st1) (hx : itemsOf x = some (l.map D.str)) (hl : l.length < 4000) : eSortSet m ρ st = .ok (.lst ((sset l).map D.str)) st1 := by
  unfold eSortSet
  rw [h, RC.bind_ok, hx]
  dsimp only
  rw [if_pos (by rw [List.length_map]; exact hl)]
  unfold setKeys sset
  cases l with
  | nil =>
    show RC.ok (D.lst ((sortI (uniq [])).map D.int)) st1 = _
    rw [if_pos rfl, sortI_nil]
    rfl
  | cons a r =>
    rw [asInts_strs]
    dsimp only
    rw [asStrs_map]
    rfl
theorem uniq_sub {α : Type} [DecidableEq α] : ∀ (l acc : List α) (a : α), a ∈ l.foldl (fun acc k => if k ∈ acc then acc else k :: acc) acc → a ∈ acc ∨ a ∈ l
  | [], acc, a, h => .inl h
  | k :: l, acc, a, h => by
    rw [List.foldl_cons] at h
    rcases uniq_sub l _ a h with h | h
    · split at h
      · exact .inl h
      · rcases List.mem_cons.mp h with h | h
        · exact .inr (h ▸ List.mem_cons_self)
        · exact .inl h
    · exact .inr (List.mem_cons_of_mem _ h)
theorem sset_sub {l : List Str} {a : Str} (h : a ∈ sset l) : a ∈ l := by
  unfold sset at h
  split at h
  · cases h
  · rcases uniq_sub l [] a ((sortS_perm _).mem_iff.mp h) with h | h
    · cases h
    · exact h
/-! step by step -/
theorem v_e1 {g : Op1} {m : EDen} {x : D} {st1 : Store} (h : m ρ st = .ok x st1) : e1 g m ρ st = g x st1 := by rw [r_e1, h]; rfl
theorem v_e2 {g : Op2} {ma mb : EDen} {x y : D} {st1 st2 : Store} (h : ma ρ st = .ok x st1) (h2 : mb ρ st1 = .ok y st2) : e2 g ma mb ρ st = g x y st2 := by rw [r_e2, h, RC.bind_ok, h2]; rfl
theorem v_eN {g : OpN} {m : ADen} {xs : List D} {st1 : Store} (h : m ρ st = .ok xs st1) : eN g m ρ st = g xs st1 := by rw [r_eN, h]; rfl
theorem v_eN1 {g : OpN} {m : EDen} {x : D} {st1 : Store} (h : m ρ st = .ok x st1) : eN g (aCons m aNil) ρ st = g [x] st1 := by rw [r_eN, r_aCons, h]; rfl
theorem v_cons {m : EDen} {r : ADen} {x : D} {xs : List D} {st1 st2 : Store} (h : m ρ st = .ok x st1) (h2 : r ρ st1 = .ok xs st2) : aCons m r ρ st = .ok (x :: xs) st2 := by rw [r_aCons, h, RC.bind_ok, h2]; rfl
theorem v_tB {m : EDen} {b : Bool} {st1 : Store} (h : m ρ st = .ok (.bl b) st1) : tB m ρ st = .ok b st1 := by rw [r_tB, h]; rfl
theorem v_asg {i : Nat} {m : EDen} {x : D} {st1 : Store} (h : m ρ st = .ok x st1) : sAsg i m ρ st = .nx (ρ.set i (.val x)) st1 := by rw [r_asg, h]; rfl
theorem v_ret {m : EDen} {x : D} {st1 : Store} (h : m ρ st = .ok x st1) : sRet m ρ st = .rt x st1 := by rw [r_ret, h]; rfl
theorem v_drop {m : EDen} {x : D} {st1 : Store} (h : m ρ st = .ok x st1) : sDrop m ρ st = .nx ρ st1 := by rw [r_drop, h]; rfl
theorem v_dropX {m : EDen} {c : Str} {fs : List (Str × D)} {st1 : Store} (h : m ρ st = .exc c fs st1) : sDrop m ρ st = .exc c fs ρ st1 := by rw [r_drop, h]; rfl
theorem v_asgX {i : Nat} {m : EDen} {c : Str} {fs : List (Str × D)} {st1 : Store} (h : m ρ st = .exc c fs st1) : sAsg i m ρ st = .exc c fs ρ st1 := by rw [r_asg, h]; rfl
theorem v_ifT {t : TDen} {a b : SDen} {st1 : Store} (h : t ρ st = .ok true st1) : sIf t a b ρ st = a ρ st1 := by rw [r_if, h]; rfl
theorem v_ifF {t : TDen} {a b : SDen} {st1 : Store} (h : t ρ st = .ok false st1) : sIf t a b ρ st = b ρ st1 := by rw [r_if, h]; rfl
theorem v_orT {t u : TDen} {st1 : Store} (h : t ρ st = .ok true st1) : tOr t u ρ st = .ok true st1 := by rw [r_tOr, h]; rfl
theorem v_orF {t u : TDen} {st1 : Store} (h : t ρ st = .ok false st1) : tOr t u ρ st = u ρ st1 := by rw [r_tOr, h]; rfl
theorem v_andT {t u : TDen} {st1 : Store} (h : t ρ st = .ok true st1) : tAnd t u ρ st = u ρ st1 := by rw [r_tAnd, h]; rfl
theorem v_andF {t u : TDen} {st1 : Store} (h : t ρ st = .ok false st1) : tAnd t u ρ st = .ok false st1 := by rw [r_tAnd, h]; rfl
theorem v_tNot {t : TDen} {b : Bool} {st1 : Store} (h : t ρ st = .ok b st1) : tNot t ρ st = .ok (!b) st1 := by rw [r_tNot, h]; rfl
theorem v_mVal {m : EDen} {ms : MDen} {x : D} {xs : List (D × Bool)} {st1 st2 : Store} (h : m ρ st = .ok x st1) (h2 : ms ρ st1 = .ok xs st2) : mVal m ms ρ st = .ok ((x, false) :: xs) st2 := by rw [r_mVal, h, RC.bind_ok, h2]; rfl
theorem v_mOwn {m : EDen} {ms : MDen} {x : D} {xs : List (D × Bool)} {st1 st2 : Store} (h : m ρ st = .ok x st1) (h2 : ms ρ st1 = .ok xs st2) : mOwn m ms ρ st = .ok ((x, true) :: xs) st2 := by rw [r_mOwn, h, RC.bind_ok, h2]; rfl
theorem v_par {is : List Nat} {m : MDen} {ds : List (D × Bool)} {st1 : Store} (h : m ρ st = .ok ds st1) (hl : ds.length = is.length) : sPar is m ρ st = .nx (setR ρ is ds) st1 := by
  rw [r_par, h]
  show (if _ then _ else _) = _
  rw [if_pos hl]
theorem v_meth {l : List (Str × CallF)} {mt : Str} {mo : EDen} {ms : ADen} {x : D} {c : Str} {fs : List (Str × D)} {f : CallF} {ds : List D} {st1 st2 : Store} (h : mo ρ st = .ok x st1) (hi : instOf st1 x = some (c, fs)) (hf : l.lookup c = some f) (hn : (fs.lookup mt).isNone = true) (ha : ms ρ st1 = .ok ds st2) : eMethU l mt mo ms ρ st = f (x :: ds) st2 := by
  rw [r_meth, h, RC.bind_ok, hi]
  dsimp only
  rw [hf]
  dsimp only
  rw [if_pos hn, ha]
  rfl
theorem v_call {f : CallF} {ms : ADen} {ds : List D} {st1 : Store} (h : ms ρ st = .ok ds st1) : eCall f ms ρ st = f ds st1 := by
  show (ms ρ st).bind f = _
  rw [h]
  rfl
end
end Gh
/-! Gh34: lambdas without parameters that a frame makes and calls itself. -/
namespace Gh
open L2 PyProof.Rows PySem.Spec PySem
open LamX (CodeO TabB LamS lamEnv lamCx)
/-- a lambda's own text -/
structure LamT where
  ps : Arguments
  bd : Expr
  sc : Scope
/-- the function object of a lambda made in the frame X, its code object at c -/
def LamO (X : Cx) (t : LamT) (f c : Addr) : HO := .ext fun hp => ∃ pm ct : Value, hp.get? f = some (PySem.W.kla_obj "<lambda>" (X.env.qual ++ "<lambda>") t.ps t.bd t.sc (cloFrom X.env.cells t.sc.names []) pm c ct)
section
variable {X : Cx} {pins : List (Addr × Obj)} {σ : L2.St} {H : Hp} {s : Shared}
theorem lam_laid {t : LamT} {c : Addr} {pm ct : Value} {tk : Nat} (I : Inv X pins σ H s) : Inv X pins σ (upd H s.heap.objs.size (LamO X t s.heap.objs.size c))
    { s with heap := s.heap.push (PySem.W.kla_obj "<lambda>" (X.env.qual ++ "<lambda>") t.ps t.bd t.sc (cloFrom X.env.cells t.sc.names []) pm c ct), toks := tk } := by
  refine I.laid (fun b u e => Heap.get?_push_of_some _ e) (Nat.le_refl _) ?_
  have e := Heap.get?_push_size s.heap (o := PySem.W.kla_obj "<lambda>" (X.env.qual ++ "<lambda>") t.ps t.bd t.sc (cloFrom X.env.cells t.sc.names []) pm c ct) rfl
  exact ⟨⟨pm, ct, e⟩, ⟨_, e⟩, fun h1 h2 ⟨p, q, z⟩ st => ⟨p, q, st _ z⟩⟩
theorem lam_mk {t : LamT} {c P : Addr} {pos : Pos} {E Q : Value → Shared → Prop} {ar : Array Value} (I : Inv X pins σ H s) (TB : TabB X.base X.mg c P) (hcode : X.env.code = .ref c) (tP : H P = some (.tbl ar)) (ok : TriplesOk ar.toList)
    (all : ∀ (p : Pos) (cv : Value), codeAmong p ar.toList = some cv → ∃ d, cv = .ref d ∧ H d = some (CodeO d (X.env.qual ++ "<lambda>"))) (hdef : defaultsOf t.ps X.env = ([], [])) (L : LamS X.env.scope t.sc)
    (h : ∀ (f c' : Addr) (H1 : Hp) (s1 : Shared) (ar' : Array Value), Inv X pins σ H1 s1 → (∀ b u, b ≠ P → H b = some u → H1 b = some u) → H f = none → H1 f = some (LamO X t f c') → H1 c' = some (CodeO c' (X.env.qual ++ "<lambda>")) →
      H1 P = some (.tbl ar') → TriplesOk ar'.toList → (∀ (p : Pos) (cv : Value), codeAmong p ar'.toList = some cv → codeAmong p ar.toList = some cv ∨ cv = .ref c') → (H c' = none ∨ ∃ p : Pos, codeAmong p ar.toList = some (.ref c')) → c' ≠ f → Q (.ref f) s1) :
    wpAny (model X.prog X.w) X.A (eval (.Lambda t.ps t.bd t.sc pos) X.env) Q E s := by
  refine PySem.W.kla_eval hdef ?_
  have hB : s.heap.BuiltinsAt X.mg P := TB.bm.keeps I.bk
  have gP : s.heap.get? P = some { cls := .none, data := .fields ar } := I.hok P _ tP
  have fr := L.has I.ok
  cases q : codeAmong pos ar.toList with
  | some cv =>
    obtain ⟨c', rfl, hc'⟩ := all pos cv q
    refine PySem.W.kla_makeFunctionHit (mg := X.mg) (c := c) (P := P) (ps := ar) (closure_ok fr) I.ok.glob (I.mod.glob.keeps I.bk) hcode (TB.code.keeps I.bk) gP ok q hB fun ct h1 tk more le => ?_
    have J : Inv X pins σ H { s with heap := h1, toks := tk } := I.kept more
    have nf : H h1.objs.size = none := J.hok.fresh (Nat.le_refl _)
    have ne : ∀ b u, H b = some u → b ≠ h1.objs.size := fun b u e => ne_of_none e nf
    exact h _ c' _ _ ar (lam_laid (t := t) (c := c') (pm := (X.mg "__name__").getD .none) (ct := ct) (tk := tk) J) (fun b u _ e => by rw [upd_ne (ne b u e)]; exact e) nf upd_same (by rw [upd_ne (ne _ _ hc')]; exact hc') (by rw [upd_ne (ne _ _ tP)]; exact tP) ok (fun p cv e => .inl e) (.inr ⟨pos, q⟩) (ne _ _ hc')
  | none =>
    refine PySem.W.kla_makeFunction (mg := X.mg) (c := c) (P := P) (ps := ar) (closure_ok fr) I.ok.glob (I.mod.glob.keeps I.bk) hcode (TB.code.keeps I.bk) gP ok q TB.gP hB fun c' ct h1 tk but lo hi rec_ tab => ?_
    obtain ⟨d, oc, vs, tt, e2, hoc, hd, hv⟩ := rec_
    cases e2
    have nc : H c' = none := I.hok.fresh lo
    have J := LamX.inv_table (t' := tk) (more := #[rawInt pos.line, rawInt pos.col, .ref c']) (h' := h1) I tP (fun b o nb e => but b o nb e) tab lo ⟨oc, vs, tt, hoc, hd, hv⟩
    have nf := J.hok.fresh (Nat.le_refl h1.objs.size)
    have neC : ∀ b u, H b = some u → b ≠ c' := fun b u e => ne_of_none e nc
    have keep : ∀ b u, b ≠ P → H b = some u → upd (upd (upd H P (.tbl (ar ++ #[rawInt pos.line, rawInt pos.col, .ref c']))) c' (CodeO c' (X.env.qual ++ "<lambda>"))) h1.objs.size (LamO X t h1.objs.size c') b = some u := fun b u nb e => by
      have e' : upd (upd H P (.tbl (ar ++ #[rawInt pos.line, rawInt pos.col, .ref c']))) c' (CodeO c' (X.env.qual ++ "<lambda>")) b = some u := by
        rw [upd_ne (neC b u e), upd_ne nb]
        exact e
      rw [upd_ne (ne_of_none e' nf)]
      exact e'
    have cAt : upd (upd H P (.tbl (ar ++ #[rawInt pos.line, rawInt pos.col, .ref c']))) c' (CodeO c' (X.env.qual ++ "<lambda>")) c' = some (CodeO c' (X.env.qual ++ "<lambda>")) := upd_same
    have pAt : upd (upd H P (.tbl (ar ++ #[rawInt pos.line, rawInt pos.col, .ref c']))) c' (CodeO c' (X.env.qual ++ "<lambda>")) P = some (.tbl (ar ++ #[rawInt pos.line, rawInt pos.col, .ref c'])) := by
      rw [upd_ne (ne_of_none tP nc), upd_same]
    have nfH : H h1.objs.size = none := by
      cases z : H h1.objs.size with
      | none => rfl
      | some u =>
        by_cases zz : h1.objs.size = P
        · rw [zz, pAt] at nf
          cases nf
        · rw [upd_ne (neC _ _ z), upd_ne zz, z] at nf
          cases nf
    have lst : (ar ++ #[rawInt pos.line, rawInt pos.col, .ref c']).toList = ar.toList ++ [rawInt pos.line, rawInt pos.col, .ref c'] := by simp
    exact h _ c' _ _ _ (lam_laid (t := t) (c := c') (pm := (X.mg "__name__").getD .none) (ct := ct) (tk := tk) J) keep nfH upd_same (by rw [upd_ne (ne_of_none cAt nf)]; exact cAt) (by rw [upd_ne (ne_of_none pAt nf)]; exact pAt) (by rw [lst]; exact PySem.TriplesOk_snoc _ _ _ _ ok)
      (fun p cv e => LamX.among_app _ ok (by rw [← lst]; exact e)) (.inl nc) (Nat.ne_of_lt hi)
/-- x(), x one of the frame's own lambdas -/
def tAct (X : Cx) (i : Nat) (t : LamT) (W : WX) (tb : XK → TE) : TE := fun σ H Q => ∃ f c, σ[i]? = some (some (.ref f)) ∧ H f = some (LamO X t f c) ∧ H c = some (CodeO c (X.env.qual ++ "<lambda>")) ∧ tb (WE W σ) σ H Q
theorem pe_lam {t : LamT} {i k : Nat} {a : Str} {W : WX} {tb : XK → TE} {p1 p2 : Pos} {pn : List (Addr × Obj)} {xe : Value → Shared → Prop} (L : LamS X.env.scope t.sc) (hbind : ∀ (q : Str) (cl : List (Str × Addr)) (pm cv ct : Value), bindArgs (PySem.W.kla_fn "<lambda>" q t.ps t.bd t.sc cl pm cv ct) ⟨[], []⟩ = pure [])
    (tk : Takes (X.tr pn xe) W) (hr : Room (k + 1) X.A) (hbody : ∀ (A : Around) (outer : List Env) (s : Shared) (H : Hp) (E : XK) (f c : Addr), Room k (A.deeper (lamEnv X t.sc s.heap.objs.size f c)) → PE (lamCx X A outer s H E t.sc f c) t.bd (tb E))
    (hN : X.N[i]? = some a := by rfl) (hv : Vis X.env.scope a := by first | exact Or.inl rfl | exact Or.inr (Or.inl rfl) | exact Or.inr (Or.inr rfl)) (hd : (a == ("__debug__" : Str)) = false := by decide) (hcd : (a == ("__classdict__" : Str)) = false := by decide) :
    PE (X.tr pn xe) (.Call (.Name a p1) [] [] p2) (tAct X i t W tb) := by
  refine ⟨fun pins s σ H Q I ⟨f, c, hσ, hf, hc, q⟩ => ?_⟩
  refine wpAny_Call_Name_kw (thn ((pe_var (X := X.tr pn xe) (pos := p1) (i := i) hN hv hd hcd).run pins s σ H (fun v H1 => v = .ref f ∧ H1 = H) I ⟨.ref f, hσ, rfl, rfl⟩) fun u s1 ⟨v, H1, I1, r1, q1⟩ => ?_)
  obtain ⟨rfl, rfl⟩ := q1
  obtain rfl : u = Value.ref f := r1
  obtain ⟨⟨pm, ct, of⟩, _, _⟩ := I1.hok f _ hf
  obtain ⟨⟨oc, vs, tt, hoc, hdc, hvc⟩, _, _⟩ := I1.hok c _ hc
  refine PySem.W.callWith_F0 ⟨_, _, _, _, of⟩ ?_
  have go : codeAny (model X.prog X.w) X.A (.call (.ref f) ⟨[], []⟩) (CR (L2.CX X.prog X.w) X.stack X.prog X.w H1 s1 Q (WE W σ)) s1 := by
    refine PySem.W.kla_callFunE hr.depth of rfl L.co L.gen rfl ⟨c, oc, vs, tt, rfl, hoc, hdc, hvc⟩ ?_
    rw [hbind]
    refine wpAny_pure (wpAny_newFunctionEnv (fun y hy => (L.own y hy).2) (fun y hy => absurd hy (by simp)) (fun hp ns sb => ⟨I1.nolimit.fresh _ sb, ?_⟩) L.kind)
    show codeAny _ _ (.expr t.bd (lamEnv X t.sc s1.heap.objs.size f c)) _ _
    have kp : ∀ b o, s1.heap.get? b = some o → hp.get? b = some o := fun b o e => sb.extBut b o (Nat.ne_of_lt (Heap.lt_size e)) (Heap.get?_push_of_some _ e)
    have J : Inv (lamCx X X.A X.stack s1 H1 (WE W σ) t.sc f c) [] σ H1 { s1 with heap := hp, toks := s1.toks + ([] : List (Str × Value)).length } :=
      LamX.lam_start2 (X := X.tr pn xe) I1 L I1.env0 hr.hd (Un.kept fun b o e => e) ns kp
    refine PySem.W.kla_codeExpr (wpAny_mono ((hbody _ _ s1 H1 _ f c (hr.deeper _)).run [] _ _ H1 Q J q) (fun v s' hq => ?_) fun e s' hq => hq)
    obtain ⟨w', H', J', rv, q'⟩ := hq
    exact ⟨w', H', J'.os, J'.bare, J'.base, J'.hok, rv, q'⟩
  refine wpAny_call (codeAny_mono go fun r s' hq => ?_)
  cases r with
  | error e => exact passAt tk σ pins H1 s1 e s' I1 hq
  | ok fl =>
    cases fl with
    | ret u => exact I1.after hq
    | next => exact False.elim hq
    | brk => exact False.elim hq
    | cont => exact False.elim hq
theorem takes_lam {A : Around} {outer : List Env} {s : Shared} {H : Hp} {E : XK} {sc : Scope} {f c : Addr} : Takes (lamCx X A outer s H E sc f c) (fun cl d _ H' => E cl d H') := takes_of rfl rfl rfl rfl
end
end Gh
/-! Gh35: for f, d in ((lambda: .., w), ..): try: f(); return False / except X as n: .. -/
namespace Gh
open L2 PyProof.Rows PySem.Spec PySem
open LamX (CodeO TabB LamS lamEnv lamCx)
/-- the table, its code objects in F -/
def TbF (X : Cx) (P : Addr) (H F : Hp) : Prop := F P = none ∧ ∃ ar : Array Value, H P = some (.tbl ar) ∧ TriplesOk ar.toList ∧ ∀ (p : Pos) (cv : Value), codeAmong p ar.toList = some cv → ∃ d, cv = .ref d ∧ F d = some (CodeO d (X.env.qual ++ "<lambda>"))
def LamF (X : Cx) (F : Hp) (t : LamT) (v : V) : Prop := ∃ f c, v = .ref f ∧ F f = some (LamO X t f c) ∧ F c = some (CodeO c (X.env.qual ++ "<lambda>"))
def PairF (X : Cx) (K : PySem.W.Frag) (mg : Glob) (F : Hp) (t : LamT) (d : D) (v : V) : Prop := ∃ b x y, v = .ref b ∧ F b = some (.tup [x, y]) ∧ LamF X F t x ∧ Rep K mg F d y
def PairsF (X : Cx) (K : PySem.W.Frag) (mg : Glob) (F : Hp) : List LamT → List D → List V → Prop
  | [], [], vs => vs = []
  | t :: ts, d :: ds, vs => ∃ v r, vs = v :: r ∧ PairF X K mg F t d v ∧ PairsF X K mg F ts ds r
  | _, _, _ => False
theorem LamF.mono {X : Cx} {F F' : Hp} {t : LamT} {v : V} (h : LamF X F t v) (e : Ex F F') : LamF X F' t v := by
  obtain ⟨f, c, h1, h2, h3⟩ := h
  exact ⟨f, c, h1, e _ _ h2, e _ _ h3⟩
theorem PairF.mono {X : Cx} {K : PySem.W.Frag} {mg : Glob} {F F' : Hp} {t : LamT} {d : D} {v : V} (h : PairF X K mg F t d v) (e : Ex F F') : PairF X K mg F' t d v := by
  obtain ⟨b, x, y, h1, h2, h3, h4⟩ := h
  exact ⟨b, x, y, h1, e _ _ h2, h3.mono e, Rep.mono e d h4⟩
theorem PairsF.mono {X : Cx} {K : PySem.W.Frag} {mg : Glob} {F F' : Hp} (e : Ex F F') : ∀ {ts : List LamT} {ds : List D} {vs : List V}, PairsF X K mg F ts ds vs → PairsF X K mg F' ts ds vs
  | [], [], vs, h => h
  | t :: ts, d :: ds, vs, h => by
    obtain ⟨v, r, h1, h2, h3⟩ := h
    exact ⟨v, r, h1, h2.mono e, h3.mono e⟩
  | [], _ :: _, _, h => h.elim
  | _ :: _, [], _, h => h.elim
theorem PairsF.len {X : Cx} {K : PySem.W.Frag} {mg : Glob} {F : Hp} : ∀ {ts : List LamT} {ds : List D} {vs : List V}, PairsF X K mg F ts ds vs → vs.length = ds.length ∧ ts.length = ds.length
  | [], [], vs, h => by
    have h : vs = [] := h
    subst h
    exact ⟨rfl, rfl⟩
  | t :: ts, d :: ds, vs, h => by
    obtain ⟨v, r, rfl, _, h3⟩ := h
    have := h3.len
    simp only [List.length_cons]
    omega
  | [], _ :: _, _, h => h.elim
  | _ :: _, [], _, h => h.elim
/-- what an object of the store is not -/
theorem Sto.notL {K : PySem.W.Frag} {mg : Glob} {F H : Hp} {L : List Addr} {st : Store} (o : Sto K mg F L H st) {a : Addr} {u : HO} (h : H a = some u) (n : ∀ xs, u ≠ .lst xs) (n2 : ∀ xs, u ≠ .dK xs) (n3 : ∀ C dx fs, u ≠ .ins C dx fs) : a ∉ L := fun hm => by
  obtain ⟨k, hk, e⟩ := List.getElem_of_mem hm
  have h2 : k < st.length := by rw [← o.len]; exact hk
  obtain ⟨_, h4⟩ := o.at_ k a st[k] (by rw [List.getElem?_eq_getElem hk, e]) (List.getElem?_eq_getElem h2)
  have h4 := h4
  cases q : st[k] with
  | lst ds => rw [q] at h4; obtain ⟨vs, z, _⟩ := h4; rw [h] at z; cases z; exact n _ rfl
  | dct ds => rw [q] at h4; obtain ⟨vs, z, _⟩ := h4; rw [h] at z; cases z; exact n2 _ rfl
  | ins c fs => rw [q] at h4; obtain ⟨C, dx, fv, _, z, _⟩ := h4; rw [h] at z; cases z; exact n3 _ _ _ rfl
  | _ => rw [q] at h4; exact h4.elim
theorem Has.ne_tbl {K : PySem.W.Frag} {mg : Glob} {F H : Hp} {a : Addr} {d : D} {ar : Array Value} (h : Has K mg F H a d) (e : H a = some (.tbl ar)) : False := by
  cases d with
  | lst ds => obtain ⟨vs, z, _⟩ := h; rw [e] at z; cases z
  | dct ds => obtain ⟨vs, z, _⟩ := h; rw [e] at z; cases z
  | ins c fs => obtain ⟨C, dx, fv, _, z, _⟩ := h; rw [e] at z; cases z
  | _ => exact h.elim
section
variable {X : Cx} {K : PySem.W.Frag} {mg : Glob} {Γ : Ent} {W : WX} {F H H1 : Hp} {L : List Addr} {σ : St} {ρ : REnv} {st st' : Store} {P c : Addr}
theorem TbF.notL (t : TbF X P H F) (o : Sto K mg F L H st) : P ∉ L := by
  obtain ⟨_, ar, h, _⟩ := t
  exact o.notL h (fun _ z => by cases z) (fun _ z => by cases z) (fun _ _ _ z => by cases z)
theorem TbF.step {F' H' : Hp} {L' : List Addr} (t : TbF X P H F) (o : Sto K mg F L H st) (s : Stp F L H F' L' H') : TbF X P H' F' := by
  have nL := t.notL o
  obtain ⟨n, ar, h, ok, all⟩ := t
  obtain ⟨k1, k2, _⟩ := s.kp P _ h nL
  refine ⟨k2.trans n, ar, k1, ok, fun p cv e => ?_⟩
  obtain ⟨d, e1, e2⟩ := all p cv e
  exact ⟨d, e1, s.ex _ _ e2⟩
/-- the frame behind a lambda's making -/
theorem Rl.lam {f c' : Addr} {u w : HO} (r : Rl K mg Γ F L σ H ρ st) {ar : Array Value} (tP : H P = some (.tbl ar)) (nF : F P = none) (n0 : Γ.H0 P = none) (keep : ∀ b o, b ≠ P → H b = some o → H1 b = some o) (hf : H f = none) (hf1 : H1 f = some u) (hc1 : H1 c' = some w)
    (hc : H c' = none ∨ F c' = some w) : Rl K mg Γ (upd (upd F c' w) f u) L σ H1 ρ st ∧ Ex F (upd (upd F c' w) f u) := by
  have fF : F f = none := r.sto.ex.free hf
  have ex : Ex F (upd (upd F c' w) f u) := fun a o e => by
    rw [upd_ne (ne_of_none e fF)]
    by_cases z : a = c'
    · subst z
      rcases hc with h | h
      · rw [r.sto.ex.free h] at e; cases e
      · rw [upd_same, ← h, e]
    · rw [upd_ne z]; exact e
  have ne : ∀ a, a ∈ L → a ≠ f ∧ a ≠ c' ∧ a ≠ P := fun a ha => by
    obtain ⟨m1, o, m2⟩ := r.sto.mem ha
    refine ⟨ne_of_none m2 hf, fun z => ?_, fun z => ?_⟩
    · subst z
      rcases hc with h | h
      · rw [h] at m2; cases m2
      · rw [m1] at h; cases h
    · exact r.sto.notL tP (fun _ z => by cases z) (fun _ z => by cases z) (fun _ _ _ z => by cases z) (z ▸ ha)
  have at' : ∀ {a : Addr} {d : D}, Has K mg F H a d → Has K mg (upd (upd F c' w) f u) H1 a d := fun {a d} h => h.mono ex fun o e => keep a o (fun z => by subst z; exact h.ne_tbl tP) e
  have fk : ∀ a o, H a = some o → upd (upd F c' w) f u a = F a := fun a o e => by
    rw [upd_ne (ne_of_none e hf)]
    by_cases z : a = c'
    · subst z
      rcases hc with h | h
      · rw [h] at e; cases e
      · rw [upd_same, h]
    · rw [upd_ne z]
  refine ⟨⟨⟨fun a o e => ?_, r.sto.nd, r.sto.len, fun n a d h1 h2 => ?_⟩, ⟨fun a o e => ex _ _ (r.stp.ex a o e), r.stp.pre, fun a o e n => ?_⟩, fun i d h => ?_, fun i d h => ?_, r.sd, fun i cc fs h => ?_, r.len⟩, ex⟩
  · by_cases z : a = f
    · subst z
      rw [upd_same] at e
      cases e
      exact .inl hf1
    · rw [upd_ne z] at e
      by_cases z2 : a = c'
      · subst z2
        rw [upd_same] at e
        cases e
        exact .inl hc1
      · rw [upd_ne z2] at e
        have np : a ≠ P := fun q => by rw [q, nF] at e; cases e
        rcases r.sto.ex a o e with h | ⟨ob, kv, h1, h2⟩
        · exact .inl (keep a o np h)
        · exact .inr ⟨ob, kv, h1, keep a _ np h2⟩
  · obtain ⟨g1, g2⟩ := r.sto.at_ n a d h1 h2
    obtain ⟨m, o, m2⟩ := r.sto.mem (List.mem_of_getElem? h1)
    exact ⟨(fk a o m2).trans g1, at' g2⟩
  · obtain ⟨g1, g2, g3⟩ := r.stp.kp a o e n
    have np : a ≠ P := fun q => by rw [q, n0] at e; cases e
    exact ⟨keep a o np g1, (fk a o g1).trans g2, g3⟩
  · obtain ⟨v, h1, h2⟩ := r.sl i d h
    have := h2.mono (M := []) ex
    rw [List.append_nil] at this
    exact ⟨v, h1, this⟩
  · obtain ⟨a, h1, h2, h3, h4, h5⟩ := r.so i d h
    obtain ⟨o, ho⟩ := h5.there
    exact ⟨a, h1, (fk a o ho).trans h2, h3, h4, at' h5⟩
  · obtain ⟨a, cls, dd, h1, h2, h3⟩ := r.sx i cc fs h
    exact ⟨a, cls, dd, h1, h2, h3.mono ex⟩
/-- (lambda: .., w) -/
def tPair (X : Cx) (K : PySem.W.Frag) (mg : Glob) (Γ : Ent) (P : Addr) (t : LamT) (mw : EDen) : TE := fun σ H Q => ∃ F L ρ st, Rl K mg Γ F L σ H ρ st ∧ TbF X P H F ∧ Γ.H0 P = none ∧ match mw ρ st with
  | .ok d st' => isLoc d = false ∧ ∀ F' L' H' v, Rl K mg Γ F' L' σ H' ρ st' → Ex F F' → TbF X P H' F' → PairF X K mg F' t d v → Q v H'
  | _ => False
theorem pe_pair {t : LamT} {wx : Expr} {mw : EDen} {kt : Nat} {lpos pos : Pos} (TB : TabB X.base X.mg c P) (hcode : X.env.code = .ref c) (hdef : defaultsOf t.ps X.env = ([], [])) (S : LamS X.env.scope t.sc) (hw : PE X wx (teV K mg Γ W0 mw))
    (he : starEach [.Lambda t.ps t.bd t.sc lpos, wx] X.env = (false, eval (.Lambda t.ps t.bd t.sc lpos) X.env) :: starEach [wx] X.env := by rfl) (he2 : starEach [wx] X.env = (false, eval wx X.env) :: starEach [] X.env := by rfl) :
    PE X (.Tuple [.Lambda t.ps t.bd t.sc lpos, wx] kt pos) (tPair X K mg Γ P t mw) := by
  have lam : PE X (.Lambda t.ps t.bd t.sc lpos) (fun σ H Q => ∃ F L ρ st, Rl K mg Γ F L σ H ρ st ∧ TbF X P H F ∧ Γ.H0 P = none ∧ ∀ F' H' v, Rl K mg Γ F' L σ H' ρ st → Ex F F' → TbF X P H' F' → LamF X F' t v → Q v H') := by
    refine ⟨fun pins s σ H Q I ⟨F, L, ρ, st, rl, ⟨nF, ar, tP, ok, all⟩, n0, q⟩ => ?_⟩
    have inH : ∀ {d : Addr}, F d = some (CodeO d (X.env.qual ++ "<lambda>")) → H d = some (CodeO d (X.env.qual ++ "<lambda>")) := fun {d} e => by
      rcases rl.sto.ex d _ e with h | ⟨_, _, z, _⟩
      · exact h
      · cases z
    refine lam_mk I TB hcode tP ok (fun p cv e => ?_) hdef S fun f c' H1 s1 ar' I1 keep hf hf1 hc1 tP1 ok1 old hc cf => ?_
    · obtain ⟨d, e1, e2⟩ := all p cv e
      exact ⟨d, e1, inH e2⟩
    · have hc' : H c' = none ∨ F c' = some (CodeO c' (X.env.qual ++ "<lambda>")) := hc.imp id fun ⟨p, e⟩ => by
        obtain ⟨d, e1, e2⟩ := all p _ e
        cases e1
        exact e2
      obtain ⟨rl1, ex⟩ := rl.lam tP nF n0 keep hf hf1 hc1 hc'
      have fP : P ≠ f := fun z => by rw [← z, tP] at hf; cases hf
      have cP : P ≠ c' := fun z => by rw [← z, tP1] at hc1; cases hc1
      refine ⟨.ref f, H1, I1, rfl, q _ _ _ rl1 ex ⟨by rw [upd_ne fP, upd_ne cP]; exact nF, ar', tP1, ok1, fun p cv e => ?_⟩ ⟨f, c', rfl, upd_same, by rw [upd_ne cf, upd_same]⟩⟩
      rcases old p cv e with h | h
      · obtain ⟨d, e1, e2⟩ := all p cv h
        exact ⟨d, e1, ex _ _ e2⟩
      · exact ⟨c', h, by rw [upd_ne cf, upd_same]⟩
  refine pe_imp (pe_tup (pa_cons lam (pa_cons hw pa_nil he2) he)) fun σ H Q ⟨F, L, ρ, st, rl, tb, n0, q⟩ => ?_
  refine ⟨F, L, ρ, st, rl, tb, n0, fun F1 H1 v rl1 ex1 tb1 lf => ⟨F1, L, ρ, st, rl1, ?_⟩⟩
  split at q
  · rename_i d st' hm
    rw [hm]
    intro F2 L2 H2 s2 o2 w kw
    have rl2 := rl1.step s2 o2
    refine ⟨by show 2 ≤ sizeLine; rw [sizeLine_eq]; omega, fun p np => ?_⟩
    have hs := o2.lay (o := .tup [v, w]) np
    have ex3 : Ex F2 (upd F2 p (.tup [v, w])) := Ex.new (o2.ex.free np)
    exact q.2 _ _ _ _ (rl2.step hs.1 hs.2) (fun a o e => ex3 _ _ (s2.ex _ _ (ex1 _ _ e))) ((tb1.step rl1.sto s2).step o2 hs.1) ⟨p, v, w, rfl, upd_same, (lf.mono s2.ex).mono ex3, Rep.mono ex3 d (VRep.flat kw q.1)⟩
  · exact q.elim
end
end Gh
/-! Gh36: the loop over lambdas, and the law's end with it. -/
namespace Gh
open L2 PyProof.Rows PySem.Spec PySem
open LamX (CodeO TabB LamS lamEnv lamCx)
section
variable {X : Cx} {K : PySem.W.Frag} {mg : Glob} {Γ : Ent} {W : WX} {F H H1 : Hp} {L : List Addr} {σ : St} {ρ : REnv} {st st' : Store} {P c : Addr}
/-- the displays (lambda: .., w), .. -/
def tPairs (X : Cx) (K : PySem.W.Frag) (mg : Glob) (Γ : Ent) (P : Addr) (ts : List LamT) (ms : ADen) : TA := fun σ H Q => ∃ F L ρ st, Rl K mg Γ F L σ H ρ st ∧ TbF X P H F ∧ Γ.H0 P = none ∧ match ms ρ st with
  | .ok ds st' => flatL ds = true ∧ ∀ F' L' H' vs, Rl K mg Γ F' L' σ H' ρ st' → Ex F F' → TbF X P H' F' → PairsF X K mg F' ts ds vs → Q vs H'
  | _ => False
theorem pp_nil : PA X [] (tPairs X K mg Γ P [] aNil) := pa_imp pa_nil fun σ H Q ⟨F, L, ρ, st, rl, tb, n0, q⟩ => q.2 F L H [] rl (Ex.refl F) tb rfl
theorem pp_cons {e : Expr} {es : List Expr} {t : LamT} {ts : List LamT} {m : EDen} {ms : ADen} (h1 : PE X e (tPair X K mg Γ P t m)) (h2 : PA X es (tPairs X K mg Γ P ts ms)) (hs : starEach (e :: es) X.env = (false, eval e X.env) :: starEach es X.env := by rfl) :
    PA X (e :: es) (tPairs X K mg Γ P (t :: ts) (aCons m ms)) := by
  refine pa_imp (pa_cons h1 h2 hs) fun σ H Q ⟨F, L, ρ, st, rl, tb, n0, q⟩ => ⟨F, L, ρ, st, rl, tb, n0, ?_⟩
  rw [r_aCons] at q
  cases hm : m ρ st with
  | bad => rw [hm] at q; exact q.elim
  | exc c fs st2 => rw [hm] at q; exact q.elim
  | ok d st1 =>
    rw [hm, RC.bind_ok] at q
    dsimp only
    cases hms : ms ρ st1 with
    | bad => rw [hms] at q; exact q.elim
    | exc c fs st2 => rw [hms] at q; exact q.elim
    | ok ds st2 =>
      rw [hms] at q
      obtain ⟨q1, q2⟩ := q
      have q1 : flatL (d :: ds) = true := q1
      unfold flatL at q1
      rw [List.all_cons, Bool.and_eq_true] at q1
      refine ⟨by simpa using q1.1, fun F1 L1 H1 v rl1 ex1 tb1 p1 => ⟨F1, L1, ρ, st1, rl1, tb1, n0, ?_⟩⟩
      rw [hms]
      exact ⟨q1.2, fun F2 L2 H2 vs rl2 ex2 tb2 p2 => q2 F2 L2 H2 (v :: vs) rl2 (fun a o e => ex2 _ _ (ex1 _ _ e)) tb2 ⟨v, vs, rfl, p1.mono ex2, p2⟩⟩
/-! ### the try -/
def lamBody (m : EDen) : SDen := fun ρ st => (m ρ st).s ρ fun _ st' => .rt (.bl false) st'
def tCallRet (X : Cx) (K : PySem.W.Frag) (mg : Glob) (Γ : Ent) (i : Nat) (t : LamT) (m : EDen) (W : WX) : L2.TS := fun D σ H => ∃ F L ρ st f, Rl K mg Γ F L σ H ρ st ∧ σ[i]? = some (some f) ∧ LamF X F t f ∧ SPost K mg Γ W D (lamBody m ρ st)
theorem inF {X : Cx} {t : LamT} {f : V} (r : Rl K mg Γ F L σ H ρ st) (h : LamF X F t f) : ∃ a c, f = .ref a ∧ H a = some (LamO X t a c) ∧ H c = some (CodeO c (X.env.qual ++ "<lambda>")) := by
  obtain ⟨a, c, h1, h2, h3⟩ := h
  refine ⟨a, c, h1, ?_, ?_⟩
  · rcases r.sto.ex _ _ h2 with z | ⟨_, _, z, _⟩
    · exact z
    · cases z
  · rcases r.sto.ex _ _ h3 with z | ⟨_, _, z, _⟩
    · exact z
    · cases z
theorem lam_body {t : LamT} {i k j9 : Nat} {a : Str} {m : EDen} {p1 p2 p3 p4 p5 : Pos} {pn : List (Addr × Obj)} {xe : Value → Shared → Prop} (S : LamS X.env.scope t.sc) (hbind : ∀ (q : Str) (cl : List (Str × Addr)) (pm cv ct : Value), bindArgs (PySem.W.kla_fn "<lambda>" q t.ps t.bd t.sc cl pm cv ct) ⟨[], []⟩ = pure [])
    (tk : Takes (X.tr pn xe) W) (hr : Room (k + 1) X.A) (hbody : ∀ (A : Around) (outer : List Env) (s : Shared) (H : Hp) (E : XK) (f c : Addr), Room k (A.deeper (lamEnv X t.sc s.heap.objs.size f c)) → PE (lamCx X A outer s H E t.sc f c) t.bd (teV K mg Γ (fun cl d _ H' => E cl d H') m))
    (hN : X.N[i]? = some a := by rfl) (hv : Vis X.env.scope a := by first | exact Or.inl rfl | exact Or.inr (Or.inl rfl) | exact Or.inr (Or.inr rfl)) (hd : (a == ("__debug__" : Str)) = false := by decide) (hcd : (a == ("__classdict__" : Str)) = false := by decide)
    (hsw : swapsWith (.Call (.Name a p1) [] [] p2) none p3.line (X.tr pn xe).env = pure false := by rfl) :
    PSs (X.tr pn xe) [.Expr (.Call (.Name a p1) [] [] p2) p3, .Return (some (.Constant (.bool false) j9 p4)) p5] (tCallRet X K mg Γ i t m W) := by
  have act := pe_lam (W := W) (p1 := p1) (p2 := p2) (tb := fun E => teV K mg Γ (fun cl d _ H' => E cl d H') m) S hbind tk hr hbody hN hv hd hcd
  refine pss_imp (pss_cons (ps_expr act hsw) (pss_one (ps_ret pe_bl))) fun D σ H ⟨F, L, ρ, st, f, rl, hσ, lf, q⟩ => ?_
  obtain ⟨a', c', rfl, h1, h2⟩ := inF rl lf
  refine ⟨a', c', hσ, h1, h2, F, L, ρ, st, rl, ?_⟩
  unfold lamBody at q
  cases hm : m ρ st with
  | bad => rw [hm] at q; exact q.elim
  | exc c fs st2 =>
    rw [hm] at q
    exact fun F' L' H' cls dd s o x => q F' L' σ H' cls dd (rl.step s o) x
  | ok d st2 =>
    rw [hm] at q
    exact fun F' L' H' s o v kv => q F' L' σ H' ρ (.bl false) (rl.step s o) (.inr rfl)
/-- behind a try with a name: what is wished of its body -/
theorem try_post {D' : Ends} {i : Nat} {x : Str} {cv : Value} {all cs : List Str} {mb mh : SDen} (hx0 : Γ.x = none) (ha : ExcAll K mg cv all cs) (q : SPost K mg Γ W D' (sTryAs i all cs mb mh ρ st)) :
    SPost K mg Γ (wAs K cv i (fun a cls d => tsG K mg { Γ with x := some (i, a, cls, d) } W0 mh) W D') D' (mb ρ st) := by
  unfold sTryAs at q
  cases hm : mb ρ st with
  | exc c' fs ρ' st' =>
    rw [hm] at q
    dsimp only at q
    intro F' L' σ' H' cls dd rl' ex
    split at q
    · rename_i hall
      obtain ⟨C, d, fv, h1, rfl, rfl, h4, h5⟩ := id ex
      refine ⟨decide (c' ∈ cs), ha c' hall C h1, fun hy a na => ?_, fun hn => ?_⟩
      · have hin : c' ∈ cs := of_decide_eq_true hy
        rw [if_pos hin] at q
        have up : ∀ {F L σ H ρ st}, Rl K mg Γ F L σ H ρ st → Rl K mg { Γ with x := some (i, a, .ref C, some d) } F L σ H ρ st := fun r =>
          ⟨r.sto, r.stp, r.sl, r.so, r.sd, fun j c fs h => (by
            obtain ⟨_, _, _, z, _⟩ := r.sx j c fs h
            rw [hx0] at z
            cases z), r.len⟩
        have rl2 := (up rl').set i (.exc c' fs) (some (.ref a)) (fun e q => by cases q) (fun e q => by cases q) (fun c2 fs2 q => by cases q; exact ⟨a, _, _, rfl, rfl, ex⟩)
        have down : ∀ {F L σ H ρ st}, Rl K mg { Γ with x := some (i, a, .ref C, some d) } F L σ H ρ st → Rl K mg Γ F L (σ.set i none) H (ρ.set i .un) st := fun r => by
          have r' := r.setU i none
          refine ⟨r'.sto, r'.stp, r'.sl, r'.so, r'.sd, fun j c fs h => ?_, r'.len⟩
          obtain ⟨_, _, _, z, _⟩ := r'.sx j c fs h
          cases z
          rcases set_get h with ⟨_, z, _⟩ | ⟨z, _⟩
          · cases z
          · exact absurd rfl z
        refine ⟨F', L', _, st', rl2, ?_⟩
        cases hh : mh (ρ'.set i (.exc c' fs)) st' with
        | nx ρ2 st2 => rw [hh] at q; exact fun F3 L3 σ3 H3 r3 => q F3 L3 _ H3 (down r3)
        | bk ρ2 st2 => rw [hh] at q; exact fun F3 L3 σ3 H3 r3 => q F3 L3 _ H3 (down r3)
        | ct ρ2 st2 => rw [hh] at q; exact fun F3 L3 σ3 H3 r3 => q F3 L3 _ H3 (down r3)
        | rt d2 st2 => rw [hh] at q; exact fun F3 L3 σ3 H3 ρ3 v r3 kv => q F3 L3 _ H3 _ v (down r3) kv
        | exc c2 fs2 ρ2 st2 => rw [hh] at q; exact q.elim
        | bad => rw [hh] at q; exact q.elim
      · rw [if_neg (of_decide_eq_false hn)] at q
        exact q F' L' σ' H' _ _ rl' ex
    · exact q.elim
  | _ => rw [hm] at q; exact q
def tLamTry (X : Cx) (K : PySem.W.Frag) (mg : Glob) (Γ : Ent) (i ie : Nat) (all cs : List Str) (t : LamT) (m : EDen) (mh : SDen) : L2.TS := fun D σ H => ∃ F L ρ st f, Rl K mg Γ F L σ H ρ st ∧ σ[i]? = some (some f) ∧ LamF X F t f ∧ SPost K mg Γ W0 D (sTryAs ie all cs (lamBody m) mh ρ st)
theorem lam_try {t : LamT} {i ie : Nat} {n x : Str} {all cs : List Str} {body suite : List Stmt} {b₀ : Stmt} {pos pos' np : Pos} {m : EDen} {mh : SDen} (T : TEm X.K X.mg x all cs) (hx0 : Γ.x = none) (hN : X.N.Nodup)
    (hb : ∀ (W : WX) (pn : List (Addr × Obj)) (xe : Value → Shared → Prop), Takes (X.tr pn xe) W → PassesOwn (model X.prog X.w) X.A X.env xe → PSs (X.tr pn xe) body (tCallRet X X.K X.mg Γ i t m W))
    (hsu : ∀ (a : Addr) (oe : Obj) (cls : Value) (d : Option Addr) (pn : List (Addr × Obj)), Zc cls d oe → (∃ vs, oe.data = .fields vs) → PSs (X.suite a ((a, oe) :: pn)) (b₀ :: suite) (tsG X.K X.mg { Γ with x := some (ie, a, cls, d) } W0 mh))
    (hs : X.stack = X.env :: X.outer := by rfl) (hf : X.env.frame = some X.env.locals := by rfl) (hg : Gl X x := by rfl) (hdb : (x == ("__debug__" : Str)) = false := by decide)
    (hi : X.N[ie]? = some n := by rfl) (hln : X.env.kindOf n = some .local := by rfl) :
    PS X (.Try body [.ExceptHandler (some (.Name x np)) (some n) (b₀ :: suite) pos'] [] [] pos) (tLamTry X X.K X.mg Γ i ie all cs t m mh) := by
  obtain ⟨C, h1, h2⟩ := T
  refine ps_imp (ps_try_as (ts := fun a cls d => tsG X.K X.mg { Γ with x := some (ie, a, cls, d) } W0 mh) (tb := fun W => tCallRet X X.K X.mg Γ i t m W) hs hf hN hi hln ⟨hg, hdb, .inl h1⟩ takesW hb hsu) fun D' σ H ⟨F, L, ρ, st, f, rl, hσ, lf, q⟩ => ⟨F, L, ρ, st, f, rl, hσ, lf, ?_⟩
  exact try_post (x := x) hx0 h2 q
/-! ### the loop -/
def goLams (i j ie : Nat) (all cs : List Str) (mh : SDen) : List EDen → List D → REnv → Store → SR
  | m :: ms, d :: ds, ρ, st => if i < ρ.length then (match sTryAs ie all cs (lamBody m) mh ((ρ.set i .un).set j (.val d)) st with
    | .nx ρ2 st2 => goLams i j ie all cs mh ms ds ρ2 st2
    | .ct ρ2 st2 => goLams i j ie all cs mh ms ds ρ2 st2
    | .bk ρ2 st2 => .nx ρ2 st2
    | r => r) else .bad
  | [], [], ρ, st => .nx ρ st
  | _, _, _, _ => .bad
def sLams (i j ie : Nat) (all cs : List Str) (ms : List EDen) (mws : ADen) (mh : SDen) : SDen := fun ρ st => match mws ρ st with
  | .ok ds st1 => if flatL ds = true ∧ ds.length < 1000 then goLams i j ie all cs mh ms ds ρ st1 else .bad
  | _ => .bad
/-- each try of the loop by its lambda -/
def AllTry (X : Cx) (st0 : Stmt) (K : PySem.W.Frag) (mg : Glob) (Γ : Ent) (i ie : Nat) (all cs : List Str) (mh : SDen) : List LamT → List EDen → Prop
  | t :: ts, m :: ms => PS X st0 (tLamTry X K mg Γ i ie all cs t m mh) ∧ AllTry X st0 K mg Γ i ie all cs mh ts ms
  | [], [] => True
  | _, _ => False
def tLamTurn (X : Cx) (K : PySem.W.Frag) (mg : Glob) (Γ : Ent) (i ie : Nat) (all cs : List Str) (mh : SDen) (ts : List LamT) (ms : List EDen) : L2.TS := fun D σ H => ∃ (k : Nat) (t : LamT) (m : EDen), ts[k]? = some t ∧ ms[k]? = some m ∧ tLamTry X K mg Γ i ie all cs t m mh D σ H
theorem AllTry.run {st0 : Stmt} {i ie : Nat} {all cs : List Str} {mh : SDen} : ∀ {ts : List LamT} {ms : List EDen}, AllTry X st0 K mg Γ i ie all cs mh ts ms → PS X st0 (tLamTurn X K mg Γ i ie all cs mh ts ms)
  | t :: ts, m :: ms, h => by
    have ih := h.2.run
    refine ⟨fun pins s σ H D I ⟨k, t', m', h1, h2, q⟩ => ?_⟩
    cases k with
    | zero =>
      cases h1
      cases h2
      exact h.1.run pins s σ H D I q
    | succ k => exact ih.run pins s σ H D I ⟨k, t', m', by simpa using h1, by simpa using h2, q⟩
  | [], [], _ => ⟨fun pins s σ H D I ⟨k, t', m', h1, h2, q⟩ => by cases h1⟩
  | [], _ :: _, h => h.elim
  | _ :: _, [], h => h.elim
theorem AllTry.len {st0 : Stmt} {i ie : Nat} {all cs : List Str} {mh : SDen} : ∀ {ts : List LamT} {ms : List EDen}, AllTry X st0 K mg Γ i ie all cs mh ts ms → ts.length = ms.length
  | t :: ts, m :: ms, h => by
    have := h.2.len
    simp only [List.length_cons]
    omega
  | [], [], _ => rfl
  | [], _ :: _, h => h.elim
  | _ :: _, [], h => h.elim
theorem pairs_at {ts : List LamT} : ∀ {ts : List LamT} {ds : List D} {vs : List V} {k : Nat} {v : V}, PairsF X K mg F ts ds vs → vs[k]? = some v → ∃ t d, ts[k]? = some t ∧ ds[k]? = some d ∧ PairF X K mg F t d v
  | [], [], vs, k, v, h, e => by
    have h : vs = [] := h
    subst h
    simp at e
  | t :: ts, d :: ds, vs, 0, v, h, e => by
    obtain ⟨u, r, rfl, h2, _⟩ := h
    cases e
    exact ⟨t, d, rfl, rfl, h2⟩
  | t :: ts, d :: ds, vs, k + 1, v, h, e => by
    obtain ⟨u, r, rfl, _, h3⟩ := h
    obtain ⟨t', d', e1, e2, e3⟩ := pairs_at (ts := ts) h3 (by simpa using e)
    exact ⟨t', d', by simpa using e1, by simpa using e2, e3⟩
  | [], _ :: _, _, _, _, h, _ => h.elim
  | _ :: _, [], _, _, _, h, _ => h.elim
theorem drop_at {α : Type} {l : List α} {k : Nat} {x : α} (h : l[k]? = some x) : l.drop k = x :: l.drop (k + 1) := by
  obtain ⟨h1, h2⟩ := List.getElem?_eq_some_iff.mp h
  rw [List.drop_eq_getElem_cons h1, h2]
/-- the whole loop; what is wished at its start -/
def tLamFor (X : Cx) (K : PySem.W.Frag) (mg : Glob) (Γ : Ent) (P : Addr) (i j ie : Nat) (all cs : List Str) (ms : List EDen) (mws : ADen) (mh : SDen) : L2.TS := fun D σ H => ∃ F L ρ st, Rl K mg Γ F L σ H ρ st ∧ TbF X P H F ∧ Γ.H0 P = none ∧ SPost K mg Γ W0 D (sLams i j ie all cs ms mws mh ρ st)
theorem ps_lams {i j ie : Nat} {all cs : List Str} {ts : List LamT} {ms : List EDen} {mws : ADen} {mh : SDen} {es : List Expr} {x y : Str} {px py tpos pos2 pos : Pos} {kt k2 : Nat} {st0 : Stmt} (hp : PassesOwn (model X.prog X.w) X.A X.env X.xe) (hc : X.calm = true) (hN : X.N.Nodup)
    (he : PA X es (tPairs X X.K mg Γ P ts mws)) (hb : ∀ Γ' : Ent, Γ'.x = Γ.x → AllTry X st0 X.K mg Γ' i ie all cs mh ts ms) (hi : X.N[i]? = some x := by rfl) (hj : X.N[j]? = some y := by rfl) (hij : i ≠ j := by decide)
    (lx : Loc X.env.scope x := by first | exact Or.inl rfl | exact Or.inr rfl) (ly : Loc X.env.scope y := by first | exact Or.inl rfl | exact Or.inr rfl)
    (fx : X.fn x = true ∨ X.env.scope.names.lookup x = some .local := by first | exact .inl rfl | exact .inr rfl | assumption) (fy : X.fn y = true ∨ X.env.scope.names.lookup y = some .local := by first | exact .inl rfl | exact .inr rfl | assumption)
    (hn : (assignEach [.Name x px, .Name y py] X.env).length = 2 := by rfl) (hst : (assignEach [.Name x px, .Name y py] X.env).findIdx? (·.1) = none := by rfl)
    (h1 : (assignEach [.Name x px, .Name y py] X.env).map (·.2) = assign (.Name x px) X.env :: (assignEach [.Name y py] X.env).map (·.2) := by rfl) (h2 : (assignEach [.Name y py] X.env).map (·.2) = assign (.Name y py) X.env :: (assignEach ([] : List Expr) X.env).map (·.2) := by rfl)
    (hs : ∀ x, foldedSetIterable (.Tuple es k2 pos2) X.env x = pure x := by intro _; rfl) :
    PS X (.For (.Tuple [.Name x px, .Name y py] kt tpos) (.Tuple es k2 pos2) [st0] [] pos) (tLamFor X X.K mg Γ P i j ie all cs ms mws mh) := by
  have g : PG X (.Tuple [.Name x px, .Name y py] kt tpos) (gTup X.K 2 (gCons (gName i) (gCons (gName j) gNil))) := pg_tup hc (pgs_cons (pg_name hN hi lx fx) (pgs_cons (pg_name hN hj ly fy) pgs_nil h2) h1) hn hst
  have b : PSs X [st0] (fun D σ H => ∃ Γ' : Ent, Γ'.x = Γ.x ∧ tLamTurn X X.K mg Γ' i ie all cs mh ts ms D σ H) := pss_one ⟨fun pins s σ H D I ⟨Γ', e, q⟩ => (hb Γ' e).run.run pins s σ H D I q⟩
  refine ps_imp (ps_for hp hc (pi_tup (tg := .Tuple [.Name x px, .Name y py] kt tpos) (pe_tup (pos := pos2) (x1 := k2) he)) g b hs) fun D' σ H ⟨F, L, ρ, st, rl, tb, n0, q⟩ => ?_
  refine ⟨F, L, ρ, st, rl, tb, n0, ?_⟩
  unfold sLams at q
  cases hw : mws ρ st with
  | bad => rw [hw] at q; exact q.elim
  | exc c fs st2 => rw [hw] at q; exact q.elim
  | ok ds st1 =>
    rw [hw] at q
    dsimp only at q ⊢
    split at q
    · rename_i hf
      refine ⟨hf.1, fun F1 L1 H1 vs rl1 ex1 tb1 pr => ?_⟩
      obtain ⟨e1, e2⟩ := pr.len
      have e3 := (hb Γ rfl).len
      refine ⟨by rw [e1, sizeLine_eq]; omega, fun p np => ⟨p, rfl, ⟨vs, .inl (.inl upd_same)⟩, ?_⟩⟩
      have ly := rl1.sto.lay (o := .tup vs) np
      have rl2 := rl1.step ly.1 ly.2
      have ex3 : Ex F1 (upd F1 p (.tup vs)) := Ex.new (rl1.sto.ex.free np)
      have pr2 := pr.mono ex3
      have an := rl2.anchor
      have qa := q.anchor rl2
      obtain ⟨F2, hF2⟩ : ∃ F2, F2 = upd F1 p (.tup vs) := ⟨_, rfl⟩
      rw [← hF2] at an qa pr2
      have pF : F2 p = some (.tup vs) := by rw [hF2]; exact upd_same
      refine ⟨fun a m σ' H' => m + a = vs.length ∧ ∃ F' L' ρ' st', Rl X.K mg (Γ.at F2) F' L' σ' H' ρ' st' ∧ SPost X.K mg (Γ.at F2) W0 D' (goLams i j ie all cs mh (ms.drop a) (ds.drop a) ρ' st'), ⟨vs.length, rfl, F2, L1, ρ, st1, an, qa⟩, ?_⟩
      rintro a m σ' H' ⟨hm, F', L', ρ', st', rl', q'⟩
      have inH : H' p = some (.tup vs) := by
        rcases rl'.sto.ex _ _ (rl'.stp.ex _ _ pF) with z | ⟨_, _, z, _⟩
        · exact z
        · cases z
      have sq : SqT X.K H' p vs := .inl (.inl inH)
      by_cases ha : a < vs.length
      · right
        have hv : vs[a]? = some vs[a] := List.getElem?_eq_getElem ha
        obtain ⟨t, d, k1, k2, pa⟩ := pairs_at (ts := ts) (pr2.mono rl'.stp.ex) hv
        obtain ⟨b', u, w, eb, eF, lf, rw_⟩ := pa
        have hmsl : a < ms.length := by omega
        have k3 : ms[a]? = some ms[a] := List.getElem?_eq_getElem hmsl
        rw [drop_at k3, drop_at k2] at q'
        refine ⟨⟨vs, _, sq, hv⟩, ?_⟩
        refine ⟨fun σ2 H2 => (m - 1) + (a + 1) = vs.length ∧ ∃ F' L' ρ' st', Rl X.K mg (Γ.at F2) F' L' σ2 H2 ρ' st' ∧ SPost X.K mg (Γ.at F2) W0 D' (goLams i j ie all cs mh (ms.drop (a + 1)) (ds.drop (a + 1)) ρ' st'), fun σ2 H2 h => ⟨m - 1, by omega, h⟩, ?_⟩
        rintro xx H2 ⟨rfl, yl⟩
        have ex : vs[a] = xx := by
          have := yl vs sq
          rw [hv] at this
          exact Option.some.inj this
        rw [eb] at ex
        subst ex
        have inHb : H2 b' = some (.tup [u, w]) := by
          rcases rl'.sto.ex _ _ eF with z | ⟨_, _, z, _⟩
          · exact z
          · cases z
        refine ⟨b', [u, w], rfl, .inl (.inl inHb), rfl, u, [w], rfl, w, [], rfl, rfl, Γ.at F2, rfl, a, t, ms[a], k1, k3, ?_⟩
        have rl3 := (rl'.setU i (some u)).setV (d := d) (v := w) j (.inr rw_)
        have q' : SPost X.K mg (Γ.at F2) W0 D' (if i < ρ'.length then (match sTryAs ie all cs (lamBody ms[a]) mh ((ρ'.set i .un).set j (.val d)) st' with
            | .nx ρ2 st2 => goLams i j ie all cs mh (ms.drop (a + 1)) (ds.drop (a + 1)) ρ2 st2
            | .ct ρ2 st2 => goLams i j ie all cs mh (ms.drop (a + 1)) (ds.drop (a + 1)) ρ2 st2
            | .bk ρ2 st2 => .nx ρ2 st2
            | r => r) else .bad) := q'
        by_cases hlen : i < ρ'.length
        case neg => rw [if_neg hlen] at q'; exact q'.elim
        rw [if_pos hlen] at q'
        have hlen : i < σ'.length := by rw [← rl'.len]; exact hlen
        refine ⟨F', L', _, st', u, rl3, ?_, lf, ?_⟩
        · rw [List.getElem?_set_ne (Ne.symm hij), List.getElem?_set_self hlen]
        · cases ht : sTryAs ie all cs (lamBody ms[a]) mh ((ρ'.set i .un).set j (.val d)) st' with
          | nx ρ2 st2 => rw [ht] at q'; exact fun F3 L3 σ3 H3 r3 => ⟨by omega, F3, L3, ρ2, st2, r3, q'⟩
          | ct ρ2 st2 => rw [ht] at q'; exact fun F3 L3 σ3 H3 r3 => ⟨by omega, F3, L3, ρ2, st2, r3, q'⟩
          | bk ρ2 st2 => rw [ht] at q'; exact q'
          | rt d2 st2 => rw [ht] at q'; exact q'
          | exc c2 fs2 ρ2 st2 => rw [ht] at q'; exact q'
          | bad => rw [ht] at q'; exact q'.elim
      · left
        have z1 : ms.drop a = [] := List.drop_eq_nil_iff.mpr (by omega)
        have z2 : ds.drop a = [] := List.drop_eq_nil_iff.mpr (by omega)
        rw [z1, z2] at q'
        exact ⟨⟨vs, sq, by omega⟩, q' F' L' σ' H' rl'⟩
    · exact q.elim
end
end Gh
/-! Gh37: the end of a law whose last loop is over lambdas. -/
namespace Gh
open L2 PyProof.Rows PySem.Spec PySem
open LamX (CodeO TabB LamS lamEnv lamCx OwnTab LawAtS)
abbrev Ent.hid (Γ : Ent) (P : Addr) : Ent := { Γ with H0 := fun a => if a = P then none else Γ.H0 a }
section
variable {X : Cx} {K : PySem.W.Frag} {mg : Glob} {Γ : Ent} {W : WX} {F H : Hp} {L : List Addr} {σ : St} {ρ : REnv} {st : Store} {P : Addr} {sa sb : SDen} {st0 : Stmt} {rest : List Stmt} {u : L2.TS}
theorem Rl.hid (r : Rl K mg Γ F L σ H ρ st) (P : Addr) : Rl K mg (Γ.hid P) F L σ H ρ st := by
  refine ⟨r.sto, ⟨r.stp.ex, r.stp.pre, fun a o h n => ?_⟩, r.sl, fun i d h => ?_, r.sd, r.sx, r.len⟩
  · have h : (if a = P then none else Γ.H0 a) = some o := h
    by_cases z : a = P
    · rw [if_pos z] at h; cases h
    · rw [if_neg z] at h
      exact r.stp.kp a o h n
  · obtain ⟨a, h1, h2, h3, h4, h5⟩ := r.so i d h
    refine ⟨a, h1, h2, h3, ?_, h5⟩
    show (if a = P then none else Γ.H0 a) = none
    split
    · rfl
    · exact h4
/-- some statements, then what u tells -/
def tsT (K : PySem.W.Frag) (mg : Glob) (Γ : Ent) (W : WX) (m : SDen) (u : L2.TS) : L2.TS := fun D σ H => tsG K mg Γ W m { D with nx := fun σ' H' => u D σ' H' } σ H
theorem c_end (h : PSs X rest u) : PSs X rest (tsT K mg Γ W sNil u) := pss_imp h fun D σ H ⟨F, L, ρ, st, rl, q⟩ => q F L σ H rl
theorem c_cons (h1 : PS X st0 (tsG K mg Γ W sa)) (h2 : PSs X rest (tsT K mg Γ W sb u)) : PSs X (st0 :: rest) (tsT K mg Γ W (sSeq sa sb) u) := by
  refine pss_imp (pss_cons h1 h2) fun D σ H ⟨F, L, ρ, st, rl, q⟩ => ⟨F, L, ρ, st, rl, ?_⟩
  unfold sSeq at q
  cases h : sa ρ st with
  | nx ρ' st' => rw [h] at q; exact fun F' L' σ' H' rl' => ⟨F', L', ρ', st', rl', q⟩
  | _ => rw [h] at q; exact q
/-- the tail: the loop over lambdas, return True -/
def tTail (X : Cx) (K : PySem.W.Frag) (mg : Glob) (Γ : Ent) (P : Addr) (i j ie : Nat) (all cs : List Str) (ms : List EDen) (mws : ADen) (mh : SDen) : L2.TS := tSeq (tLamFor X K mg (Γ.hid P) P i j ie all cs ms mws mh) (tsG K mg (Γ.hid P) W0 (sRet (eC (.bl true))))
theorem t_tail {i j ie : Nat} {all cs : List Str} {ms : List EDen} {mws : ADen} {mh : SDen} {s1 s2 : Stmt} (h1 : PS X s1 (tLamFor X K mg (Γ.hid P) P i j ie all cs ms mws mh)) (h2 : PS X s2 (tsG K mg (Γ.hid P) W0 (sRet (eC (.bl true))))) : PSs X [s1, s2] (tTail X K mg Γ P i j ie all cs ms mws mh) := pss_cons h1 (pss_one h2)
theorem tail_go {D : Ends} {i j ie : Nat} {all cs : List Str} {ms : List EDen} {mws : ADen} {mh bp : SDen} {s2 : Store} (hF : Γ.F0 P = none) (hL : Γ.L0 = []) (hH : Γ.H0 P = some (.tbl #[])) (rl : Rl K mg Γ F L σ H ρ st) (hD : ∀ H', D.rt (.bl true) H')
    (hp : sSeq bp (sSeq (sLams i j ie all cs ms mws mh) (sRet (eC (.bl true)))) ρ st = .rt (.bl true) s2) : tsT K mg Γ W bp (tTail X K mg Γ P i j ie all cs ms mws mh) D σ H := by
  refine ⟨F, L, ρ, st, rl, ?_⟩
  unfold sSeq at hp
  cases h : bp ρ st with
  | nx ρ1 st1 =>
    rw [h] at hp
    dsimp only at hp
    intro F1 L1 σ1 H1 rl1
    obtain ⟨k1, k2, k3⟩ := rl1.stp.kp P _ hH (by rw [hL]; simp)
    refine ⟨F1, L1, ρ1, st1, rl1.hid P, ⟨k2.trans hF, #[], k1, True.intro, fun p cv e => ?_⟩, if_pos rfl, ?_⟩
    · have e : codeAmong p [] = some cv := e
      simp [codeAmong] at e
    · cases h2 : sLams i j ie all cs ms mws mh ρ1 st1 with
      | nx ρ2 st2 => exact fun F2 L2 σ2 H2 rl2 => ⟨F2, L2, ρ2, st2, rl2, fun F3 L3 σ3 H3 ρ3 v rl3 kv => by rw [kv.bl]; exact hD H3⟩
      | rt d st2 =>
        rw [h2] at hp
        cases hp
        exact fun F3 L3 σ3 H3 ρ3 v rl3 kv => by rw [kv.bl]; exact hD H3
      | bk ρ2 st2 => rw [h2] at hp; cases hp
      | ct ρ2 st2 => rw [h2] at hp; cases hp
      | exc c fs ρ2 st2 => rw [h2] at hp; cases hp
      | bad => rw [h2] at hp; cases hp
  | rt d st2 =>
    rw [h] at hp
    cases hp
    exact fun F3 L3 σ3 H3 ρ3 v rl3 kv => by rw [kv.bl]; exact hD H3
  | bk ρ2 st2 => rw [h] at hp; cases hp
  | ct ρ2 st2 => rw [h] at hp; cases hp
  | exc c fs ρ2 st2 => rw [h] at hp; cases hp
  | bad => rw [h] at hp; cases hp
end
/-- the k-th lambda of a loop's display -/
def lamAt (st : Stmt) (k : Nat) : Option LamT := match st with
  | .For _ (.Tuple es _ _) _ _ _ => (match es[k]? with
    | some (.Tuple (.Lambda ps bd sc _ :: _) _ _) => some ⟨ps, bd, sc⟩
    | _ => none)
  | _ => none
/-! ### law's entry -/
/-- a list of at most 63 ints is handed in, the table at P is empty: True comes out -/
def spLawT (K : PySem.W.Frag) (P : Addr) : Sp := fun vs H Q _ => ∃ (a : Addr) (ns : List Int), vs = [.ref a] ∧ SqL K H a (ns.map V.int) ∧ ns.length ≤ 63 ∧ H P = some (.tbl #[]) ∧ ∀ H', Q (.bl true) H'
/-- what the top has written of law, with its code object and its table -/
def TL (K : PySem.W.Frag) (mg : Glob) (x qual : Str) (st : Stmt) (c P : Addr) : Prop := ∃ f oc od kV doc pm an ct osl, mg x = some (.ref f) ∧ K.lookup f = some ⟨oc, od, .func (PySem.W.fnOf x qual (defArgs st) (defBody st) (defScope st) .none kV doc pm an (.ref c) ct), osl⟩ ∧
  PySem.W.codeIn K (.ref c) qual = true ∧ PySem.W.keepIn K (.ref f) = true ∧ PySem.W.codeHdIn K c P = true ∧ K.lookup P = none
theorem tl_mk {K : PySem.W.Frag} {mg : Glob} {h : Heap} {x qual : Str} {st : Stmt} {f c P : Addr} {oc : Value} {od an : Option Addr} {osl : Array (Option Value)} {kV doc pm ct : Value} (X : K.In h) (G : h.Ns mainGlobals mg) (a : PySem.W.nsIn K mainGlobals x = some (some (.ref f))) {e9 : Value} {d9 : Option Addr} {vs9 : Array Value} {s9 : Array (Option Value)}
    (l : K.lookup f = some ⟨oc, od, .func (PySem.W.fnOf x qual (defArgs st) (defBody st) (defScope st) .none kV doc pm an (.ref c) ct), osl⟩) (d : PySem.W.codeIn K (.ref c) qual = true) (k : PySem.W.keepIn K (.ref f) = true) (_lc : K.lookup c = some ⟨e9, d9, .fields vs9, s9⟩) (_lp : vs9[11]? = some (.ref P)) (hd : PySem.W.codeHdIn K c P = true) (no : K.lookup P = none) : TL K mg x qual st c P :=
  ⟨f, oc, od, kV, doc, pm, an, ct, osl, PySem.W.mg_of X G a, l, d, k, hd, no⟩
theorem law_fnT {Pr : Program} {w : World} {K : PySem.W.Frag} {mg : Glob} {base : Heap} {x qual : Str} {st : Stmt} {c P f : Addr} {oc : Value} {od an : Option Addr} {osl : Array (Option Value)} {kV doc pm ct : Value} {N : List Str} {k nl i j ie : Nat} {all cs : List Str} {ms : List EDen} {mws : ADen} {mh bp : SDen}
    (l : K.lookup f = some ⟨oc, od, .func (PySem.W.fnOf x qual (defArgs st) (defBody st) (defScope st) .none kV doc pm an (.ref c) ct), osl⟩) (hcd : PySem.W.codeIn K (.ref c) qual = true) (S : FnScope N ["script"] (defScope st)) (hnl : nl = N.length)
    (hp : ∀ ns : List Int, ns.length ≤ 63 → ∃ s2, sSeq bp (sSeq (sLams i j ie all cs ms mws mh) (sRet (eC (.bl true)))) (.val (.scr (ns.map D.int)) :: List.replicate (nl - 1) Sl.un) [] = .rt (.bl true) s2)
    (hb : ∀ (A : Around) (outer : List Env) (s : Shared) (H : Hp) (E : XK), Room k (A.deeper (envOfC qual (defScope st) s.heap.objs.size f (.ref c))) → ∀ Γ : Ent, Γ.x = none →
      PSs (cxOf (L2.CX Pr w) Pr w K mg base N qual (defScope st) f (.ref c) A outer s H E) (defBody st) (tsT K mg Γ (fun c d _ H' => E c d H') bp (tTail (cxOf (L2.CX Pr w) Pr w K mg base N qual (defScope st) f (.ref c) A outer s H E) K mg Γ P i j ie all cs ms mws mh))) :
    FnOk Pr w K mg base (L2.CX Pr w) (k + 1) f (PySem.W.fnOf x qual (defArgs st) (defBody st) (defScope st) .none kV doc pm an (.ref c) ct) ["script"] (spLawT K P) := by
  refine fn_of l hcd S (fun vs H Q E h => ?_) fun A outer s H vs Q E hr h => ?_
  · obtain ⟨a, ns, rfl, _⟩ := h
    rfl
  · obtain ⟨a, ns, rfl, h1, h2, h3, h4⟩ := h
    have sqF : SqL K (fun b => if b = P then none else H b) a (ns.map V.int) := by
      rcases h1 with (h1 | ⟨o, h1⟩) | h1
      · have aP : a ≠ P := fun z => by rw [z, h3] at h1; cases h1
        exact .inl (.inl ((if_neg aP).trans h1))
      · have aP : a ≠ P := fun z => by rw [z, h3] at h1; cases h1
        exact .inl (.inr ⟨o, (if_neg aP).trans h1⟩)
      · exact .inr h1
    refine ⟨_, hb A outer s H E hr ⟨fun b => if b = P then none else H b, [], H, none⟩ rfl, ?_⟩
    obtain ⟨s2, hp⟩ := hp ns h2
    refine tail_go (F := fun b => if b = P then none else H b) (L := []) (if_pos rfl) rfl h3 ?_ h4 hp
    have sto : Sto K mg (fun b => if b = P then none else H b) [] H [] := ⟨fun b o e => by
      have e : (if b = P then none else H b) = some o := e
      split at e
      · cases e
      · exact .inl e, List.nodup_nil, rfl, fun n a d e => by cases e⟩
    exact Rl.start (mg := mg) (N := N) (nl := nl) (ds := [.scr (ns.map D.int)]) (vs := [.ref a]) sto ⟨_, [], rfl, .inr ⟨a, _, rfl, sqF, repl_ints ns⟩, rfl⟩ hnl
/-- law's own entry, with its table -/
def LawBT (Pr : Program) (w : World) (K : PySem.W.Frag) (mg : Glob) (k : Nat) (x : Str) : Prop := ∃ f fd c P oc od osl, mg x = some (.ref f) ∧ (∀ (s : Shared) (u : Value), BindsTo s fd ⟨[u], []⟩ [("script", u)]) ∧ K.lookup f = some ⟨oc, od, .func fd, osl⟩ ∧ fd.code = .ref c ∧
  PySem.W.codeHdIn K c P = true ∧ K.lookup P = none ∧ ∀ base : Heap, K.In base → base.Ns mainGlobals mg → TabB base mg c P → FnOk Pr w K mg base (L2.CX Pr w) k f fd ["script"] (spLawT K P)
theorem law_walkT {l : PySem.W.OpenLaw} {k : Nat} {q : Program} {loose : List Str} {XP : (Str → Option Value) → Heap → Prop} {YP : World → Heap → Prop} {d : DefRec} {K : Params → PySem.W.Frag} (hn : l.most = some 63) (hdf : d.params.defaults = []) (hr : Room k callerA)
    (hrec : ((recsOf q).any fun e => e.name == d.name) = true) (hY : ∀ (w : World) (h : Heap), YP w h → (K w.params).In h)
    (B : ∀ (w : World) (mg : Glob) (h : Heap), (K w.params).In h → h.Ns mainGlobals mg → LawBT l.prog w (K w.params) mg k d.name) :
    PySem.W.WalkO q loose XP YP l.row.toRowW d [] (fun f vs => PySem.call f vs) := by
  refine LamX.walk_ofOwn (n := 63) (k := k) (x := "script") (CX := fun w => L2.CX l.prog w) hn (by decide) hdf hr hrec hY (fun w mg fa h _ KX G hfa own => ?_) ?_
  · obtain ⟨f, fd, c, P, oc, od, osl, h1, h2, h3, h4, h5, h6, h7⟩ := B w mg h KX G
    rw [h1] at hfa
    cases hfa
    have tab : h.get? P = some { cls := .none, data := .fields #[] } := by
      have e := h5
      unfold PySem.W.codeHdIn at e
      split at e
      · rename_i vs sl hk
        simp only [Bool.and_eq_true] at e
        obtain ⟨⟨⟨⟨⟨e1, _⟩, _⟩, _⟩, _⟩, _⟩ := e
        split at e1
        · rename_i P' hP
          have : P' = P := by simpa using e1
          subst this
          exact own c P' _ fd _ _ vs _ h3 rfl h4 hk hP
        · cases e1
      · cases e
    refine ⟨fd, [(c, P)], spLawT (K w.params) P, fun p hp => ?_, fun p hp => ?_, fun p hp => ?_, h2, fun H a ns hl _ hT hS => ⟨a, ns, rfl, hS, hl, hT _ (List.mem_singleton.mpr rfl), fun _ => rfl⟩, fun base b1 b2 tb => h7 base b1 b2 (tb _ (List.mem_singleton.mpr rfl))⟩
    · rw [List.mem_singleton.mp hp]; exact tab
    · rw [List.mem_singleton.mp hp]; exact h6
    · rw [List.mem_singleton.mp hp]; exact PySem.W.codeHd_of_K KX h5
  · rintro w H s e s' ⟨_, _, _, _, _, _, _, _, _, _, _, _, z⟩
    exact z
end Gh
/-! Gh38: dicts compared, d.get(k), lists and tuples many times, str(n), dict(..), index, count. -/
namespace Gh
open L2 PyProof.Rows PySem.Spec PySem
section
variable {X : Cx} {K : PySem.W.Frag} {mg : Glob} {Γ : Ent} {W : WX} {o e a b : Expr} {m mo me ma mb : EDen} {pos p apos cpos : Pos}
/-! ### == of dicts -/
def eqGo (kws : List (Key × D)) : List (Key × D) → Bool
  | [] => true
  | (k, d) :: r => match valD kws k with
    | some e => D.eqv d e && eqGo kws r
    | none => false
def eqDct (kvs kws : List (Key × D)) : Bool := kvs.length == kws.length && eqGo kws kvs
def okDs (kvs : List (Key × D)) : Bool := kvs.all fun p => okD 20 p.2
def rDictEq (K : PySem.W.Frag) (mg : Glob) (f : Bool → Bool) : R2 := fun x y H Q => ∃ a b ks ls F kvs kws, x = .ref a ∧ y = .ref b ∧ Rd H a (.dK ks) ∧ Rd H b (.dK ls) ∧ ExF F H ∧ RepK K mg F kvs ks ∧ RepK K mg F kws ls ∧ okDs kvs = true ∧ okDs kws = true ∧ Q (.bl (f (eqDct kvs kws))) H
theorem valD_okD {kws : List (Key × D)} {k : Key} {e : D} (h : okDs kws = true) (hv : valD kws k = some e) : okD 20 e = true := by
  have := valD_mem hv
  exact (List.all_eq_true.mp h) _ this
theorem keq_go {pins : List (Addr × Obj)} {σ : St} {H : Hp} {s : Shared} {A : Around} {F : Hp} {kws : List (Key × D)} {ls : List (Key × V)} {vb : List (Key × Value)} (I : Inv X pins σ H s) (hA : A.units + 20 < cLine) (ex : ExF F H) (rw' : RepK X.K mg F kws ls) (hw : okDs kws = true) (rb : KV ls vb) :
    ∀ {kvs : List (Key × D)} {ks : List (Key × V)} {va : List (Key × Value)}, RepK X.K mg F kvs ks → okDs kvs = true → KV ks va → PySem.W.KeqHits A s vb va (eqGo kws kvs)
  | [], ks, va, h, _, ra => by
    have h : ks = [] := h
    subst h
    cases ra
    exact .nil
  | (k, d) :: kvs, ks, va, h, hv, ra => by
    obtain ⟨v, r, rfl, h2, h3⟩ := h
    unfold okDs at hv
    rw [List.all_cons, Bool.and_eq_true] at hv
    obtain ⟨hv1, hv2⟩ := hv
    cases ra with
    | @cons q q' _ qs hq t =>
      obtain ⟨e1, e2⟩ := hq
      obtain ⟨k', u⟩ := q'
      have e1 : k = k' := e1
      subst e1
      have e2 : RelV v u := e2
      have ih := keq_go I hA ex rw' hw rb h3 hv2 t
      have rv := rb.val k
      unfold eqGo
      rcases rw'.val k with ⟨z1, z2⟩ | ⟨f, y, z1, z2, z3⟩
      · rw [z1]
        rw [z2] at rv
        have : valueAt vb k = none := by
          cases q : valueAt vb k with
          | none => rfl
          | some u => rw [q] at rv; exact rv.elim
        exact .miss this
      · rw [z1]
        rw [z2] at rv
        obtain ⟨y', hy, ry⟩ := rv.some_of
        dsimp only
        refine .hit hy ?_ ih
        have hf := valD_okD hw z1
        obtain ⟨c1, c2⟩ := toPy_shape 20 d hv1
        obtain ⟨c3, c4⟩ := toPy_shape 20 f hf
        obtain ⟨as, r1⟩ := Dp.reads I _ v u (dp_of ex 20 d v hv1 h2) e2
        obtain ⟨bs, r2⟩ := Dp.reads I _ y y' (dp_of ex 20 f y hf z3) ry
        rw [← eqv_py 20 20 d f hv1 hf]
        refine SeqAt.eqAt_reads _ _ A s u y' as bs r1 r2 c1 c3 ?_
        have := Nat.min_le_left (toPy d).depth (toPy f).depth
        omega
theorem op_eqDict (hu : X.A.units + 64 < cLine) : OpR X (compareOp .Eq) (rDictEq X.K mg id) := by
  intro pins s σ H x y v u Q I rx ry h
  obtain ⟨a, b, ks, ls, F, kvs, kws, rfl, rfl, ea, eb, ex, r1, r2, o1, o2, q⟩ := h
  obtain rfl : v = Value.ref a := rx
  obtain rfl : u = Value.ref b := ry
  obtain ⟨_, ya, va, ra, da⟩ := (show ObjOk X.prog X.w H s.heap a (.dK ks) from rd_of I.hok ea)
  obtain ⟨_, yb, vb, rb, db⟩ := (show ObjOk X.prog X.w H s.heap b (.dK ls) from rd_of I.hok eb)
  have hl : (va.length == vb.length) = (kvs.length == kws.length) := by rw [← ra.length, ← rb.length, r1.length, r2.length]
  refine PySem.W.keq_eq (knd := mixKind X.prog X.w) (r := eqGo kws kvs) ya yb da db (by omega) (fun _ => keq_go (mg := mg) I (by have := in1_units X.A; omega) ex r2 o2 rb r1 o1 ra) (fin_bl I q ?_)
  rw [hl]
  rfl
theorem op_neDict (hu : X.A.units + 64 < cLine) : OpR X (compareOp .NotEq) (rDictEq X.K mg not) := by
  intro pins s σ H x y v u Q I rx ry h
  obtain ⟨a, b, ks, ls, F, kvs, kws, rfl, rfl, ea, eb, ex, r1, r2, o1, o2, q⟩ := h
  obtain rfl : v = Value.ref a := rx
  obtain rfl : u = Value.ref b := ry
  obtain ⟨_, ya, va, ra, da⟩ := (show ObjOk X.prog X.w H s.heap a (.dK ks) from rd_of I.hok ea)
  obtain ⟨_, yb, vb, rb, db⟩ := (show ObjOk X.prog X.w H s.heap b (.dK ls) from rd_of I.hok eb)
  have hl : (va.length == vb.length) = (kvs.length == kws.length) := by rw [← ra.length, ← rb.length, r1.length, r2.length]
  refine PySem.W.keq_ne (knd := mixKind X.prog X.w) (r := eqGo kws kvs) ya yb da db (by omega) (fun _ => keq_go (mg := mg) I (by have := in1_units X.A; omega) ex r2 o2 rb r1 o1 ra) (fin_bl I q ?_)
  rw [hl]
  rfl
def gEqDct : Op2 := fun x y st => match x, y with
  | .dct kvs, .dct kws => if okDs kvs = true ∧ okDs kws = true then .ok (.bl (eqDct kvs kws)) st else .bad
  | _, _ => .bad
def gNeDct : Op2 := fun x y st => match x, y with
  | .dct kvs, .dct kws => if okDs kvs = true ∧ okDs kws = true then .ok (.bl (!eqDct kvs kws)) st else .bad
  | _, _ => .bad
theorem sem_eqDct : Sem2 kV K mg gEqDct (rDictEq K mg id) := by
  intro Γ W F L σ H ρ st x y v u Q rl kx ky q
  unfold gEqDct at q
  split at q
  · rename_i kvs kws
    split at q
    · rename_i hc
      obtain ⟨a, ks, rfl, h1, h2⟩ := kx.dct rl
      obtain ⟨b, ls, rfl, g1, g2⟩ := ky.dct rl
      exact ⟨a, b, ks, ls, F, kvs, kws, rfl, rfl, h1, g1, rl.sto.ex, h2, g2, hc.1, hc.2, q.here rl.sto _ (.inr rfl)⟩
    · exact q.elim
  · exact q.elim
theorem sem_neDct : Sem2 kV K mg gNeDct (rDictEq K mg not) := by
  intro Γ W F L σ H ρ st x y v u Q rl kx ky q
  unfold gNeDct at q
  split at q
  · rename_i kvs kws
    split at q
    · rename_i hc
      obtain ⟨a, ks, rfl, h1, h2⟩ := kx.dct rl
      obtain ⟨b, ls, rfl, g1, g2⟩ := ky.dct rl
      exact ⟨a, b, ks, ls, F, kvs, kws, rfl, rfl, h1, g1, rl.sto.ex, h2, g2, hc.1, hc.2, q.here rl.sto _ (.inr rfl)⟩
    · exact q.elim
  · exact q.elim
/-! ### d.get(k) -/
def eGet1 (mo me : EDen) : EDen := fun ρ st => (mo ρ st).bind fun x st1 => match x with
  | .dct kvs => (me ρ st1).bind fun y st2 => match keyOf y with
    | some k => .ok ((valD kvs k).getD .non) st2
    | none => .bad
  | _ => .bad
theorem g_get1 (hu : X.A.units + 1 < cLine) (ho : PE X o (teR K mg Γ W mo)) (he : PE X e (teR K mg Γ W me)) (m : M1 X o "get" apos e cpos) : PE X (.Call (.Attribute o "get" apos) [e] [] cpos) (teV K mg Γ W (eGet1 mo me)) := by
  refine pe_imp (pe_dget1 hu ho he m) fun σ H Q ⟨F, L, ρ, st, rl, q⟩ => ⟨F, L, ρ, st, rl, q.bind.imp fun F1 L1 H1 st1 x s1 o1 q1 v kv => ?_⟩
  have rl1 := rl.step s1 o1
  cases x with
  | dct kvs =>
    obtain ⟨a, rfl, hd⟩ := kR.isD rl1 kv
    refine ⟨a, rfl, hd, F1, L1, ρ, st1, rl1, q1.bind.imp fun F2 L2 H2 st2 y s2 o2 q2 u ku => ?_⟩
    have rl2 := rl1.step s2 o2
    split at q2
    · rename_i k hk
      have kv3 : kR K mg σ H2 ρ F2 L2 H2 (.dct kvs) (.ref a) := kR.step (H0 := H) (H0' := H2) (H3 := H2) kv s2
      obtain ⟨a', vs, e1, h1, h2⟩ := kv3.dct rl2
      cases e1
      cases key_at rl2 ku hk
      refine ⟨valV vs k, .inl ⟨vs, k, h1, rfl, rfl⟩, q2.here o2 _ ?_⟩
      rcases h2.val k with ⟨z1, z2⟩ | ⟨d, w', z1, z2, z3⟩
      · rw [z1, z2]; exact .inr rfl
      · rw [z1, z2]; exact .inr z3
    · exact q2.elim
  | _ => exact q1.elim
@[simp] theorem r_get1 (mo me : EDen) (ρ : REnv) (st : Store) : eGet1 mo me ρ st = (mo ρ st).bind fun x st1 => match x with
  | .dct kvs => (me ρ st1).bind fun y st2 => match keyOf y with
    | some k => .ok ((valD kvs k).getD .non) st2
    | none => .bad
  | _ => .bad := rfl
/-! ### dict(d), dict(pairs) -/
def pairD (d : D) : Option (Key × D) := match d with
  | .tup [x, y] => (match keyOf x with
    | some k => some (k, y)
    | none => none)
  | _ => none
theorem pairD_of {d y : D} {k : Key} (h : pairD d = some (k, y)) : ∃ x, d = .tup [x, y] ∧ keyOf x = some k := by
  unfold pairD at h
  split at h
  · rename_i x z
    split at h
    · rename_i k' hk
      cases h
      exact ⟨x, rfl, hk⟩
    · cases h
  · cases h
def pairsD : List D → Option (List (Key × D))
  | [] => some []
  | d :: r => (match pairD d with
    | some kv => (pairsD r).map (kv :: ·)
    | none => none)
def gDict : OpN := fun ds st => match ds with
  | [.dct kvs] => .ok (.dct kvs) st
  | [.lst ps] => (match pairsD ps with
    | some kvs => .ok (.dct (mergeD [] kvs)) st
    | none => .bad)
  | _ => .bad
abbrev rDict (K : PySem.W.Frag) : List V → Hp → VK → Prop := fun xs H Q => (∃ (a : Addr) (kvs : List (Key × V)), xs = [.ref a] ∧ Rd H a (.dK kvs) ∧ ∀ p, H p = none → Q (.ref p) (upd H p (.dK kvs))) ∨
  ∃ (a : Addr) (ps : List Addr) (kvs : List (Key × V)), xs = [.ref a] ∧ SqL K H a (ps.map V.ref) ∧ Paired (fun p kv => SqT K H p [L2.kV kv.1, kv.2]) ps kvs ∧ ∀ p, H p = none → Q (.ref p) (upd H p (.dK (mergeK [] kvs)))
theorem cr_dict (hc : X.calm = true) : CallR X (.type "dict") (rDict X.K) := fun pins s σ H xs us Q I r h => h.elim (fun h => call_dictD pins s σ H xs us Q I r h) (fun h => call_dictP hc pins s σ H xs us Q I r h)
theorem pairs_rep {F H : Hp} (ex : ExF F H) : ∀ {ps : List D} {vs : List V} {kvs : List (Key × D)}, RepL K mg F ps vs → pairsD ps = some kvs → ∃ (as : List Addr) (ks : List (Key × V)), vs = as.map V.ref ∧ Paired (fun p kv => SqT K H p [L2.kV kv.1, kv.2]) as ks ∧ RepK K mg F kvs ks
  | [], vs, kvs, h, e => by
    have h : vs = [] := h
    subst h
    cases e
    exact ⟨[], [], rfl, .nil, rfl⟩
  | d :: ps, vs, kvs, h, e => by
    obtain ⟨v, r, rfl, h1, h2⟩ := h
    unfold pairsD at e
    cases hd : pairD d with
    | none => rw [hd] at e; cases e
    | some kv =>
      rw [hd] at e
      dsimp only at e
      cases hp : pairsD ps with
      | none => rw [hp] at e; cases e
      | some kv2 =>
        rw [hp] at e
        cases e
        obtain ⟨k, y⟩ := kv
        obtain ⟨x, rfl, hk⟩ := pairD_of hd
        obtain ⟨as, ks, e1, e2, e3⟩ := pairs_rep ex h2 hp
        obtain ⟨a, us, rfl, g1, g2⟩ := h1
        obtain ⟨w, r2, rfl, g3, g4⟩ := g2
        obtain ⟨z, r3, rfl, g5, g6⟩ := g4
        have g6 : r3 = [] := g6
        subst g6
        have ew : w = L2.kV k := keyOf_v hk (.inr g3 : VRep K mg [] F x w)
        subst ew
        exact ⟨a :: as, (k, z) :: ks, by rw [e1]; rfl, .cons (ex.t g1) e2, z, ks, rfl, g5, e3⟩
theorem sem_dict : SemN kO K mg gDict (rDict K) := by
  intro Γ W F L σ H ρ st ds vs Q rl kvs q
  unfold gDict at q
  split at q
  · rename_i kv
    obtain ⟨v, rfl, k1⟩ := kvs.one (Γ := Γ)
    obtain ⟨a, ks, rfl, h1, h2⟩ := k1.dct rl
    exact .inl ⟨a, ks, rfl, h1, fun z nz => q _ _ _ (Stp.fresh nz) (rl.sto.fresh nz) _ ⟨z, rfl, nz, rl.newF nz, rl.newL nz, ks, upd_same, h2⟩⟩
  · rename_i ps
    obtain ⟨v, rfl, k1⟩ := kvs.one (Γ := Γ)
    split at q
    · rename_i kv hk
      obtain ⟨a, us, rfl, h1, h2⟩ := k1.lst rl
      obtain ⟨as, ks, rfl, e2, e3⟩ := pairs_rep rl.sto.ex h2 hk
      exact .inr ⟨a, as, ks, rfl, .inl (.inl h1), e2, fun z nz => q _ _ _ (Stp.fresh nz) (rl.sto.fresh nz) _ ⟨z, rfl, nz, rl.newF nz, rl.newL nz, _, upd_same, RepK.merge (kvs := []) (vs := []) e3 rfl⟩⟩
    · exact q.elim
  · exact q.elim
/-! ### str(n) -/
def gStr : OpN := fun ds st => match ds with
  | [.int i] => if -1000000000 ≤ i ∧ i ≤ 1000000000 then .ok (.str (toString i : String)) st else .bad
  | [.str s] => .ok (.str s) st
  | _ => .bad
end
end Gh
/-! Gh39: lists and tuples many times, str(n). -/
namespace Gh
open L2 PyProof.Rows PySem.Spec PySem
theorem tuple_mul1 (l : Addr) (items : Array Value) (n : Nat) (dd : Option Addr) (sl : Array (Option Value)) (u : Tok) :
    Meets (Builtin.«tuple.__mul__» ⟨[.ref l, .int 1 u], []⟩) (fun _ R s => s.heap.get? l = some { cls := .type "tuple", dict := dd, data := .seq items n, slots := sl } ∧ R (.ok (.ret (Value.ref l))) s) :=
  .of_wp fun prog w A R s h => by
    obtain ⟨hp, g, d, tk, os⟩ := s
    obtain ⟨hl, h⟩ := h
    have f1 := AutoSeq1.idx_int
    have c1 : (items.isEmpty || (1 : Int) == 1) = true := by simp
    wp_walk using wpAny_loadPart' hl
    repeat (first
      | (refine wpAny_ite_false (decide_eq_false (by decide)) ?_; wp_walk using wpAny_loadPart' hl)
      | (refine wpAny_ite_true (decide_eq_true c1) ?_; wp_walk using wpAny_loadPart' hl))
    exact ⟨_, rfl, h⟩
section
variable {X : Cx} {K : PySem.W.Frag} {mg : Glob}
def rRep1 (K : PySem.W.Frag) : R2 := fun x y H Q => ∃ l xs, x = .ref l ∧ y = .int 1 ∧ SqT K H l xs ∧ Q (.ref l) H
theorem op_rep1 : OpR X (binaryOp .Mult) (rRep1 X.K) := by
  intro pins s σ H x y v u Q I rx ry ⟨l, xs, e1, e2, hT, q⟩
  subst e1 e2
  cases rx
  obtain ⟨t, rfl⟩ := ry
  obtain ⟨its, r, ⟨⟨cls, dd, data, sl⟩, ho, hc, n, hd⟩, hs⟩ := I.tuple hT
  simp only at hc hd
  subst hc hd
  exact wpAny_binaryOp_repeat_ref (T := "tuple") (U := "int") (by decide) ⟨_, ho, rfl⟩ (fun s' => typeIs_int s' 1 t) noFill_tuple_mul F.fills_int_mul F.slot_int_rmul repeat_tuple F.slot_int_index.lookup
    (call_meets F.slot_int_rmul (typeIs_int s 1 t) F.entry_int_rmul (F.args_int_rmul_2 _ _) (int_rmul_tuple 1 t l its.toArray n dd sl) ⟨ho, rfl, ⟨_, ho, rfl⟩,
      call_meets F.slot_tuple_mul ⟨_, ho, rfl⟩ F.entry_tuple_mul (F.args_tuple_mul_2 _ _) (tuple_mul1 l its.toArray n dd sl t) ⟨ho, ⟨.ref l, H, I, rfl, q⟩⟩⟩)
/-! ### in the frame -/
def gRepL : Op2 := fun x y st => match x, y with
  | .lst ds, .int k => if ds.length * k.toNat < 100000 ∧ -1000 ≤ k ∧ k ≤ 1000 then .ok (.lst (List.replicate k.toNat ds).flatten) st else .bad
  | _, _ => .bad
theorem RepL.rep {F : Hp} {ds : List D} {vs : List V} (h : RepL K mg F ds vs) : ∀ n : Nat, RepL K mg F (List.replicate n ds).flatten (List.replicate n vs).flatten
  | 0 => rfl
  | n + 1 => by
    rw [List.replicate_succ, List.replicate_succ, List.flatten_cons, List.flatten_cons]
    exact h.append (h.rep n)
theorem sem_repL : Sem2 kO K mg gRepL rRep := by
  intro Γ W F L σ H ρ st x y v u Q rl kx ky q
  unfold gRepL at q
  split at q
  · rename_i ds k
    split at q
    · rename_i hc
      obtain ⟨p, vs, rfl, h1, h2⟩ := kx.lst rl
      cases ky.int rl
      exact ⟨p, k, vs, rfl, rfl, h1, by omega, by omega, by rw [sizeLine_eq, ← h2.length]; omega, fun z nz => q _ _ _ (Stp.fresh nz) (rl.sto.fresh nz) _ ⟨z, rfl, nz, rl.newF nz, rl.newL nz, _, upd_same, h2.rep _⟩⟩
    · exact q.elim
  · exact q.elim
def gRepT : Op2 := fun x y st => match x, y with
  | .tup ds, .int k => if 1 ≤ k ∧ k ≤ 1000 ∧ ds ≠ [] ∧ ds.length ≤ 1000 then .ok (.tup (List.replicate k.toNat ds).flatten) st else .bad
  | _, _ => .bad
theorem op_repU : OpR X (binaryOp .Mult) (fun x y H Q => rRepT X.K x y H Q ∨ rRep1 X.K x y H Q) := OpR.or op_repT op_rep1
theorem sem_repT : Sem2 kV K mg gRepT (fun x y H Q => rRepT K x y H Q ∨ rRep1 K x y H Q) := by
  intro Γ W F L σ H ρ st x y v u Q rl kx ky q
  unfold gRepT at q
  split at q
  · rename_i ds k
    split at q
    · rename_i hc
      obtain ⟨c1, c2, c3, c4⟩ := hc
      cases ky.int rl
      obtain ⟨a, vs, rfl, h1, h2, h3⟩ := kx.tup rl
      by_cases hk : k = 1
      · subst hk
        right
        refine ⟨a, vs, rfl, rfl, h1, ?_⟩
        have e : (List.replicate (1 : Int).toNat ds).flatten = ds := by simp
        rw [e] at q
        exact q.here rl.sto _ (.inr ⟨a, vs, rfl, h3, h2⟩)
      · left
        have ne : vs ≠ [] := fun z => c3 (by
          have := h2.length
          rw [z] at this
          exact List.eq_nil_of_length_eq_zero this)
        refine ⟨a, k, vs, rfl, rfl, h1, ne, by omega, c2, by rw [← h2.length]; exact c4, fun z nz => ?_⟩
        have ly := rl.sto.lay (o := .tup (List.replicate k.toNat vs).flatten) nz
        exact q _ _ _ ly.1 ly.2 _ (.inr ⟨z, _, rfl, .inl (.inl upd_same), RepL.mono (Ex.new (rl.newF nz)) _ (h2.rep _)⟩)
    · exact q.elim
  · exact q.elim
/-! ### str(n) -/
theorem log_small {i : Int} (h : -1000000000 ≤ i ∧ i ≤ 1000000000) : i.natAbs.log2 < 1920 := by
  by_cases z : i.natAbs = 0
  · rw [z]; decide
  · rw [Nat.log2_lt z]
    have h1 : i.natAbs < 2 ^ 30 := by
      have : (2 : Nat) ^ 30 = 1073741824 := by decide
      omega
    exact Nat.lt_of_lt_of_le h1 (Nat.pow_le_pow_right (n := 2) (i := 30) (j := 1920) (by decide) (by decide))
abbrev rStrI : List V → Hp → VK → Prop := fun xs H Q => ∃ i, xs = [.int i] ∧ i.natAbs.log2 < 1920 ∧ Q (.str (toString i)) H
def gStrI : OpN := fun ds st => match ds with
  | [.int i] => if -1000000000 ≤ i ∧ i ≤ 1000000000 then .ok (.str (toString i)) st else .bad
  | _ => .bad
theorem sem_strI : SemN kV K mg gStrI rStrI := by
  intro Γ W F L σ H ρ st ds vs Q rl kvs q
  unfold gStrI at q
  split at q
  · rename_i i
    split at q
    · rename_i hc
      obtain ⟨v, rfl, kv⟩ := kvs.one (Γ := Γ)
      cases kv.int rl
      exact ⟨i, rfl, log_small hc, q.here rl.sto _ (.inr rfl)⟩
    · exact q.elim
  · exact q.elim
end
end Gh
/-! Gh40: two except clauses, both with a name. -/
namespace Gh
open L2 PyProof.Rows PySem.Spec PySem
/-- what the first clause wishes, else the second's -/
def wTwo (K : PySem.W.Frag) (c1 : Value) (i1 : Nat) (t1 : Addr → Value → Option Addr → L2.TS) (Wn : WX) (D : Ends) : WX := wAs K c1 i1 t1 Wn D
section
variable {X : Cx} {x1 x2 n1 n2 : Str} {c1 c2 : Value} {i1 i2 : Nat} {body su1 su2 : List Stmt} {b1 b2 : Stmt} {q1 q2 r1 r2 pos : Pos} {tb : WX → L2.TS} {t1 t2 : Addr → Value → Option Addr → L2.TS} {Wo : WX}
theorem ps_try_two (hst : X.stack = X.env :: X.outer) (hfr : X.env.frame = some X.env.locals) (hN : X.N.Nodup) (hi1 : X.N[i1]? = some n1) (hk1 : X.env.kindOf n1 = some .local) (hc1 : Names X x1 c1) (hi2 : X.N[i2]? = some n2) (hk2 : X.env.kindOf n2 = some .local) (hc2 : Names X x2 c2) (tk : Takes X Wo)
    (hb : ∀ (W : WX) (pn : List (Addr × Obj)) (xe : Value → Shared → Prop), Takes (X.tr pn xe) W → PassesOwn (model X.prog X.w) X.A X.env xe → PSs (X.tr pn xe) body (tb W))
    (hs1 : ∀ (a : Addr) (oe : Obj) (cls : Value) (d : Option Addr) (pn : List (Addr × Obj)), Zc cls d oe → (∃ vs, oe.data = .fields vs) → PSs (X.suite a ((a, oe) :: pn)) (b1 :: su1) (t1 a cls d))
    (hs2 : ∀ (a : Addr) (oe : Obj) (cls : Value) (d : Option Addr) (pn : List (Addr × Obj)), Zc cls d oe → (∃ vs, oe.data = .fields vs) → PSs (X.suite a ((a, oe) :: pn)) (b2 :: su2) (t2 a cls d)) :
    PS X (.Try body [.ExceptHandler (some (.Name x1 q1)) (some n1) (b1 :: su1) r1, .ExceptHandler (some (.Name x2 q2)) (some n2) (b2 :: su2) r2] [] [] pos) (fun D σ H => tb (wAs X.K c1 i1 t1 (wAs X.K c2 i2 t2 Wo D) D) D σ H) := by
  refine ⟨fun pins s σ H D I0 wish => ?_⟩
  have okX := I0.ok
  have frA : X.A.frames = some (X.env :: X.outer) := by rw [okX.frames, hst]
  refine wpAny_Try_except ?_
  refine wpAny_mono ((hb (wAs X.K c1 i1 t1 (wAs X.K c2 i2 t2 Wo D) D) (X.pn ++ pins) (fun ev sa => wpAny (model X.prog X.w) X.A (noteFrame ev X.env) (fun _ sb => wpAny (model X.prog X.w) X.A (setFlight ev none) (fun _ sc =>
    wpAny (model X.prog X.w) X.A (handleBy ev X.env [.ExceptHandler (some (.Name x1 q1)) (some n1) (b1 :: su1) r1, .ExceptHandler (some (.Name x2 q2)) (some n2) (b2 :: su2) r2]) (SP X pins D) X.xe sc) X.xe sb) X.xe sa) (fun u s' xx => ?_) PassesOwn.looking).run [] s σ H D (I0.toTry _) wish)
    (fun fl sz out => ?_) (fun ev sz z => z)
  · obtain ⟨xa, G, sI, pz, σz, Hz, cls, d, rfl, Jz, nb, up, sky, na, os, ag, b, hb1, yes1, no1⟩ := xx
    have V : Inv X pins σz Hz sI := Jz.ofTry okX
    have skyX : Sky G (X.env :: X.outer) xa (Zc cls d) X.env.locals s'.heap := by rw [← hst]; exact sky
    show wpAny (model X.prog X.w) X.A (noteFrame (.ref xa) X.env) _ _ _
    refine Sky.land Zc.steady frA hfr skyX fun h3 f3 u3 => ?_
    have V3 : Inv X pins σz Hz { s' with heap := h3 } := V.landed nb f3.1 (up.trans u3) os ag
    obtain ⟨oA, vA, gA, zA, dA⟩ := f3.there
    have offStack : ∀ {hp : Heap} {o : Obj} {vs : Array Value}, hp.FunFrames G (X.env :: X.outer) → hp.get? xa = some o → o.data = .fields vs → xa ∉ frs (X.env :: X.outer) := fun {hp o vs} ff e dd hm => by
      obtain ⟨_, o2, e2, nd⟩ := ff.mem hm
      rw [e] at e2; cases e2
      exact nd _ dd
    have offA := offStack f3.2.2.1 gA dA
    have offL : xa ≠ X.env.locals := fun z => offA (List.mem_filterMap.mpr ⟨X.env, List.mem_cons_self, by rw [hfr, z]⟩)
    have offF : xa ∉ X.fs := fun hm => by
      obtain ⟨e9, m9, z9⟩ := List.mem_filterMap.mp hm
      exact offA (List.mem_filterMap.mpr ⟨e9, List.mem_cons_of_mem _ m9, z9⟩)
    have T3 := V3.suite gA dA na offL offF
    have lookT : PySem.W.Looks (model X.prog X.w) h3 (typeOf (.ref xa)) cls := fun A Q E sq kq qq => wpAny_typeOf_ref (kq _ _ gA) (by rw [zA.1]; exact qq)
    have nameAt : ∀ {x : Str} {np : Pos} {cv : Value}, Names X x cv → ∀ {Q : Value → Shared → Prop} {E : Value → Shared → Prop}, Q cv { s' with heap := h3 } → wpAny (model X.prog X.w) (X.A.mark (some (.ref xa))) (eval (.Name x np) X.env) Q E { s' with heap := h3 } := fun {x np cv} nm {Q E} qq => by
      obtain ⟨hg, hdb, hm | ⟨hm, hv, hn⟩⟩ := nm
      · exact ld_glob (X := X.suite xa ((xa, oA) :: (X.pn ++ pins))) T3 hg hm qq hdb
      · exact ld_blt (X := X.suite xa ((xa, oA) :: (X.pn ++ pins))) T3 hg hm hv qq hn hdb
    have suiteAt : ∀ {i : Nat} {n : Str} {b0 : Stmt} {su : List Stmt} {rp : Pos} {tt : Addr → Value → Option Addr → L2.TS}, X.N[i]? = some n → X.env.kindOf n = some .local →
        (∀ (a : Addr) (oe : Obj) (cls : Value) (d : Option Addr) (pn : List (Addr × Obj)), Zc cls d oe → (∃ vs, oe.data = .fields vs) → PSs (X.suite a ((a, oe) :: pn)) (b0 :: su) (tt a cls d)) →
        tt xa cls d { nx := fun τ G => D.nx (τ.set i none) G, rt := D.rt, bk := fun τ G => D.bk (τ.set i none) G, ct := fun τ G => D.ct (τ.set i none) G } (σz.set i (some (.ref xa))) Hz →
        ∀ {E1 E2 : Value → Shared → Prop}, wpAny (model X.prog X.w) (X.A.mark (some (.ref xa))) (setFlight (.ref xa) none) (fun _ sa => wpAny (model X.prog X.w) (X.A.mark (some (.ref xa))) (storeName X.env n (.ref xa))
          (fun _ sb => wpAny (model X.prog X.w) (X.A.mark (some (.ref xa))) (execs (b0 :: su) X.env) (fun fl sc => wpAny (model X.prog X.w) X.A (do bindName X.env n .none; unbindBehindTheSuite X.env n rp) (fun _ sd => SP X pins D fl sd) X.xe sc) E2 sb) E1 sa) E1 { s' with heap := h3 } := fun {i n b0 su rp tt} hi hk hsu yes {E1 E2} => by
      refine HandSPX.lands_againZ f3 fun h4 f4 u4 => ?_
      have V4 : Inv X pins σz Hz { s' with heap := h4 } := V.landed nb f4.1 ((up.trans u3).trans u4) os ag
      obtain ⟨oB, vB, gB, zB, dB⟩ := f4.there
      have T4 := V4.suite gB dB na offL offF
      refine store_ok (X := X.suite xa ((xa, oB) :: (X.pn ++ pins))) (v := .ref xa) T4 hN hi (.inl hk) rfl (fun s5 T5 => ?_) (.inr hk)
      refine wpAny_mono ((hsu xa oB cls d (X.pn ++ pins) zB ⟨_, dB⟩).run [] s5 _ Hz _ T5 yes) (fun fl s6 out => ?_) (fun _ _ z => False.elim z)
      have behind : ∀ {τ : L2.St} {H6 : Hp} {Q : Shared → Prop}, Inv (X.suite xa ((xa, oB) :: (X.pn ++ pins))) [] τ H6 s6 → (∀ s7, Inv X pins (τ.set i none) H6 s7 → Q s7) →
          wpAny (model X.prog X.w) X.A (do bindName X.env n .none; unbindBehindTheSuite X.env n rp) (fun _ s7 => Q s7) X.xe s6 := fun {τ H6 Q} T6 hq => gone_ok (T6.unsuite okX) hN hi hk hq
      cases fl with
      | next =>
        obtain ⟨τ, H6, T6, q6⟩ := out
        exact behind T6 fun s7 V7 => ⟨_, _, V7, q6⟩
      | brk =>
        obtain ⟨τ, H6, T6, q6⟩ := out
        exact behind T6 fun s7 V7 => ⟨_, _, V7, q6⟩
      | cont =>
        obtain ⟨τ, H6, T6, q6⟩ := out
        exact behind T6 fun s7 V7 => ⟨_, _, V7, q6⟩
      | ret u =>
        obtain ⟨v6, τ, H6, T6, r6, q6⟩ := out
        exact behind T6 fun s7 V7 => ⟨_, _, _, V7, r6, q6⟩
    -- no clause serves
    have noneAt : Wo cls d σz Hz → wpAny (model X.prog X.w) X.A (handleBy (.ref xa) X.env []) (SP X pins D) X.xe { s' with heap := h3 } := fun no => by
      refine wpAny_handleBy_nil ?_
      obtain ⟨k1, k2, k3, oe, vs, T, oT, ts', he, hz, hd, h1, hr⟩ := id f3
      unfold PySem.passOn
      refine wpAny_bind (wpAny_field he hd h1 ?_)
      rw [if_neg (show ¬ ((Value.ref T == Value.none) = true) from by simp)]
      have fin : wpAny (model X.prog X.w) X.A (setFlight (.ref xa) X.env.frame) (fun _ s4 => wpAny (model X.prog X.w) X.A (throw (.ref xa) : Sem Flow) (SP X pins D) X.xe s4) X.xe { s' with heap := h3 } := by
        rw [hfr]
        refine HandSPX.setFlight_upZ f3 fun h4 hh4 u4 => wpAny_throw (tk _ _ ?_)
        exact ⟨xa, G, sI, pins, σz, Hz, cls, d, rfl, V, nb, (up.trans u3).trans u4, .inr (.inr (by rw [hst]; exact hh4)), na, os, ag, no⟩
      first
        | exact wpAny_bind (wpAny_pure (wpAny_bind fin))
        | exact wpAny_bind fin
    refine wpAny_handleBy_cons (codeAny_handlers_test ?_) (by intro q; cases q)
    refine nameAt hc1 ((PySem.W.exm_one (M := model X.prog X.w) (V3.kIn) lookT hb1).here ?_)
    cases b with
    | true =>
      exact codeAny_handlers_suite_as (suiteAt hi1 hk1 hs1 (yes1 rfl xa na))
    | false =>
      show wpAny _ X.A (handleBy (.ref xa) X.env [_]) _ _ _
      obtain ⟨b', hb2, yes2, no2⟩ := no1 rfl
      refine wpAny_handleBy_cons (codeAny_handlers_test ?_) (by intro q; cases q)
      refine nameAt hc2 ((PySem.W.exm_one (M := model X.prog X.w) (V3.kIn) lookT hb2).here ?_)
      cases b' with
      | true => exact codeAny_handlers_suite_as (suiteAt hi2 hk2 hs2 (yes2 rfl xa na))
      | false => exact noneAt (no2 rfl)
  · cases fl with
    | next =>
      obtain ⟨τ, H6, V6, q6⟩ := out
      exact wpAny_execs_nil ⟨τ, H6, V6.ofTry okX, q6⟩
    | brk =>
      obtain ⟨τ, H6, V6, q6⟩ := out
      exact ⟨τ, H6, V6.ofTry okX, q6⟩
    | cont =>
      obtain ⟨τ, H6, V6, q6⟩ := out
      exact ⟨τ, H6, V6.ofTry okX, q6⟩
    | ret u =>
      obtain ⟨v6, τ, H6, V6, r6, q6⟩ := out
      exact ⟨v6, τ, H6, V6.ofTry okX, r6, q6⟩
end
end Gh
/-! Gh41: two except clauses with names, in the frame. -/
namespace Gh
open L2 PyProof.Rows PySem.Spec PySem
section
variable {X : Cx} {Γ : Ent} {W : WX} {x y n m : Str} {all cs ds : List Str} {mb mh mk : SDen} {i j : Nat} {body suite suite2 : List Stmt} {b1 b2 : Stmt} {q1 q2 r1 r2 pos : Pos}
theorem f_tryTwo (T : TEm X.K X.mg x all cs) (U : TEm X.K X.mg y all ds) (hx0 : Γ.x = none) (hN : X.N.Nodup) (tk : Takes X W)
    (hb : ∀ (W : WX) (pn : List (Addr × Obj)) (xe : Value → Shared → Prop), Takes (X.tr pn xe) W → PassesOwn (model X.prog X.w) X.A X.env xe → PSs (X.tr pn xe) body (tsG X.K X.mg Γ W mb))
    (hs1 : ∀ (a : Addr) (oe : Obj) (cls : Value) (d : Option Addr) (pn : List (Addr × Obj)), Zc cls d oe → (∃ vs, oe.data = .fields vs) → PSs (X.suite a ((a, oe) :: pn)) (b1 :: suite) (tsG X.K X.mg { Γ with x := some (i, a, cls, d) } W0 mh))
    (hs2 : ∀ (a : Addr) (oe : Obj) (cls : Value) (d : Option Addr) (pn : List (Addr × Obj)), Zc cls d oe → (∃ vs, oe.data = .fields vs) → PSs (X.suite a ((a, oe) :: pn)) (b2 :: suite2) (tsG X.K X.mg { Γ with x := some (j, a, cls, d) } W0 mk))
    (hs : X.stack = X.env :: X.outer := by rfl) (hf : X.env.frame = some X.env.locals := by rfl) (hg : Gl X x := by rfl) (hdb : (x == ("__debug__" : Str)) = false := by decide) (hg2 : Gl X y := by rfl) (hdb2 : (y == ("__debug__" : Str)) = false := by decide)
    (hi : X.N[i]? = some n := by rfl) (hln : X.env.kindOf n = some .local := by rfl) (hi2 : X.N[j]? = some m := by rfl) (hln2 : X.env.kindOf m = some .local := by rfl) :
    PS X (.Try body [.ExceptHandler (some (.Name x q1)) (some n) (b1 :: suite) r1, .ExceptHandler (some (.Name y q2)) (some m) (b2 :: suite2) r2] [] [] pos) (tsG X.K X.mg Γ W (sTryAs j all ds (sTryAs i all cs mb mh) mk)) := by
  obtain ⟨C, h1, h2⟩ := T
  obtain ⟨C2, g1, g2⟩ := U
  refine ps_imp (ps_try_two (t1 := fun a cls d => tsG X.K X.mg { Γ with x := some (i, a, cls, d) } W0 mh) (t2 := fun a cls d => tsG X.K X.mg { Γ with x := some (j, a, cls, d) } W0 mk) (tb := fun W => tsG X.K X.mg Γ W mb)
    hs hf hN hi hln ⟨hg, hdb, .inl h1⟩ hi2 hln2 ⟨hg2, hdb2, .inl g1⟩ tk hb hs1 hs2) fun D' σ H ⟨F, L, ρ, st, rl, q⟩ => ⟨F, L, ρ, st, rl, try_post (x := x) hx0 h2 (try_post (x := y) hx0 g2 q)⟩
end
end Gh
/-! Gh42: a conditional expression as a test. -/
namespace Gh
open L2 PyProof.Rows PySem.Spec PySem
section
variable {X : Cx} {K : PySem.W.Frag} {mg : Glob} {Γ : Ent} {W : WX} {a b c : Expr} {pos : Pos} {t u v : TDen} {ta tb tc : TT}
theorem pt_ifT (hc : PT X c tc) (ha : PT X a ta) (hb : PT X b tb) : PT X (.IfExp c a b pos) (fun σ H Q => tc σ H fun d H1 => if d = true then ta σ H1 Q else tb σ H1 Q) := by
  refine ⟨fun pins s σ H Q I h => ?_⟩
  refine PyProof.Rows.isTrue_IfExp (wpAny_mono (hc.run pins s σ H _ I h) (fun d s1 z => ?_) fun _ _ z => z)
  obtain ⟨H1, I1, q⟩ := z
  cases d with
  | true =>
    rw [if_pos rfl] at q ⊢
    exact ha.run pins s1 σ H1 Q I1 q
  | false =>
    rw [if_neg Bool.false_ne_true] at q ⊢
    exact hb.run pins s1 σ H1 Q I1 q
def tIf (t u v : TDen) : TDen := fun ρ st => (t ρ st).bind fun d st1 => if d then u ρ st1 else v ρ st1
theorem g_tif (hc : PT X c (ttG K mg Γ W t)) (ha : PT X a (ttG K mg Γ W u)) (hb : PT X b (ttG K mg Γ W v)) : PT X (.IfExp c a b pos) (ttG K mg Γ W (tIf t u v)) := by
  refine pt_imp (pt_ifT hc ha hb) fun σ H Q ⟨F, L, ρ, st, rl, p⟩ => ⟨F, L, ρ, st, rl, p.bind.imp fun F1 L1 H1 st1 d s o p1 => ?_⟩
  cases d with
  | true => exact iteT ⟨F1, L1, ρ, st1, rl.step s o, p1⟩
  | false => exact iteF ⟨F1, L1, ρ, st1, rl.step s o, p1⟩
variable {ρ : REnv} {st : Store}
@[simp] theorem r_tIf (t u v : TDen) : tIf t u v ρ st = (t ρ st).bind fun d st1 => if d then u ρ st1 else v ρ st1 := rfl
end
theorem hu_ofA {k : Nat} {A B : Around} (hr : Room k A) (e : B.units = A.units := by rfl) : B.units + 1 < cLine := by
  rw [e]
  have := hr.units
  omega
section
variable {X : Cx} {K : PySem.W.Frag} {mg : Glob}
def bothDct (x y : D) : Bool := match x, y with
  | .dct _, .dct _ => true
  | _, _ => false
def gEqX : Op2 := fun x y st => if bothDct x y = true then gEqDct x y st else gEq x y st
def gNeX : Op2 := fun x y st => if bothDct x y = true then gNeDct x y st else gNe x y st
theorem op_eqX (hu : X.A.units + 64 < cLine) : OpR X (compareOp .Eq) (fun x y H Q => (rEq x y H Q ∨ rEqD X.K x y H Q) ∨ rDictEq X.K mg id x y H Q) := OpR.or (op_eqU hu) (op_eqDict hu)
theorem op_neX (hu : X.A.units + 64 < cLine) : OpR X (compareOp .NotEq) (fun x y H Q => (rNe x y H Q ∨ rNeD X.K x y H Q) ∨ rDictEq X.K mg not x y H Q) := OpR.or (op_neU hu) (op_neDict hu)
theorem sem_eqX : Sem2 kV K mg gEqX (fun x y H Q => (rEq x y H Q ∨ rEqD K x y H Q) ∨ rDictEq K mg id x y H Q) := by
  intro Γ W F L σ H ρ st x y v u Q rl kx ky q
  unfold gEqX at q
  split at q
  · exact .inr (sem_eqDct Γ W F L σ H ρ st x y v u Q rl kx ky q)
  · exact .inl (sem_eq Γ W F L σ H ρ st x y v u Q rl kx ky q)
theorem sem_neX : Sem2 kV K mg gNeX (fun x y H Q => (rNe x y H Q ∨ rNeD K x y H Q) ∨ rDictEq K mg not x y H Q) := by
  intro Γ W F L σ H ρ st x y v u Q rl kx ky q
  unfold gNeX at q
  split at q
  · exact .inr (sem_neDct Γ W F L σ H ρ st x y v u Q rl kx ky q)
  · exact .inl (sem_ne Γ W F L σ H ρ st x y v u Q rl kx ky q)
end
end Gh
/-! Gh43: sorted(d), d a dict of text keys or of int keys. -/
namespace Gh
open L2 PyProof.Rows PySem.Spec PySem
def keyS : List (Key × D) → Option (List Str)
  | [] => some []
  | (.inr k, _) :: r => (keyS r).map (k :: ·)
  | _ => none
def keyI : List (Key × D) → Option (List Int)
  | [] => some []
  | (.inl k, _) :: r => (keyI r).map (k :: ·)
  | _ => none
section
variable {X : Cx} {K : PySem.W.Frag} {mg : Glob}
theorem keyS_rep {F : Hp} : ∀ {ds : List (Key × D)} {vs : List (Key × V)} {ks : List Str}, RepK K mg F ds vs → keyS ds = some ks → vs.map (·.1) = ks.map Sum.inr
  | [], vs, ks, h, e => by
    have h : vs = [] := h
    subst h
    cases e
    rfl
  | (.inr k, d) :: r, vs, ks, h, e => by
    obtain ⟨v, us, rfl, _, h3⟩ := h
    unfold keyS at e
    cases q : keyS r with
    | none => rw [q] at e; cases e
    | some l =>
      rw [q] at e
      cases e
      rw [List.map_cons, List.map_cons, keyS_rep h3 q]
  | (.inl k, d) :: r, vs, ks, h, e => by cases e
theorem keyI_rep {F : Hp} : ∀ {ds : List (Key × D)} {vs : List (Key × V)} {ks : List Int}, RepK K mg F ds vs → keyI ds = some ks → vs.map (·.1) = ks.map Sum.inl
  | [], vs, ks, h, e => by
    have h : vs = [] := h
    subst h
    cases e
    rfl
  | (.inl k, d) :: r, vs, ks, h, e => by
    obtain ⟨v, us, rfl, _, h3⟩ := h
    unfold keyI at e
    cases q : keyI r with
    | none => rw [q] at e; cases e
    | some l =>
      rw [q] at e
      cases e
      rw [List.map_cons, List.map_cons, keyI_rep h3 q]
  | (.inr k, d) :: r, vs, ks, h, e => by cases e
abbrev rSortKS : List V → Hp → VK → Prop := fun xs H Q => ∃ (a : Addr) (kvs : List (Key × V)) (ks : List Str), xs = [.ref a] ∧ Rd H a (.dK kvs) ∧ kvs.map (·.1) = ks.map Sum.inr ∧ ks.length < 64 ∧ ∀ ys p, ys.Perm ks → sortedS ys = true → H p = none → Q (.ref p) (upd H p (.lst (ys.map V.str)))
def gSortKS : OpN := fun ds st => match ds with
  | [.dct kvs] => (match keyS kvs with
    | some ks => if ks.length < 64 then .ok (.lst ((sortS ks).map D.str)) st else .bad
    | none => .bad)
  | _ => .bad
theorem sem_sortKS : SemN kO K mg gSortKS rSortKS := by
  intro Γ W F L σ H ρ st ds vs Q rl kvs q
  unfold gSortKS at q
  split at q
  · rename_i es
    obtain ⟨v, rfl, kv⟩ := kvs.one (Γ := Γ)
    split at q
    · rename_i ks hb
      split at q
      · rename_i hl
        obtain ⟨a, us, rfl, h1, h2⟩ := kv.dct rl
        refine ⟨a, us, ks, rfl, h1, keyS_rep h2 hb, hl, fun ms p hp hs np => ?_⟩
        rw [sortS_is hp hs]
        exact q F L (upd H p (.lst ((sortS ks).map V.str))) (Stp.fresh np) (rl.sto.fresh np) _ ⟨p, rfl, np, rl.newF np, rl.newL np, _, upd_same, repl_S _⟩
      · exact q.elim
    · exact q.elim
  · exact q.elim
abbrev rSortKI : List V → Hp → VK → Prop := fun xs H Q => ∃ (a : Addr) (kvs : List (Key × V)) (ks : List Int), xs = [.ref a] ∧ Rd H a (.dK kvs) ∧ kvs.map (·.1) = ks.map Sum.inl ∧ ks.length < 64 ∧ ∀ (ys : List Int) (p : Addr), ys.Perm ks → ys.Pairwise (· ≤ ·) → H p = none → Q (.ref p) (upd H p (.lst (ys.map V.int)))
def gSortKI : OpN := fun ds st => match ds with
  | [.dct kvs] => (match keyI kvs with
    | some ks => if ks.length < 64 then .ok (.lst ((sortI ks).map D.int)) st else .bad
    | none => .bad)
  | _ => .bad
theorem sem_sortKI : SemN kO K mg gSortKI rSortKI := by
  intro Γ W F L σ H ρ st ds vs Q rl kvs q
  unfold gSortKI at q
  split at q
  · rename_i es
    obtain ⟨v, rfl, kv⟩ := kvs.one (Γ := Γ)
    split at q
    · rename_i ks hb
      split at q
      · rename_i hl
        obtain ⟨a, us, rfl, h1, h2⟩ := kv.dct rl
        refine ⟨a, us, ks, rfl, h1, keyI_rep h2 hb, hl, fun ms p hp hs np => ?_⟩
        rw [sortI_is hp hs]
        exact q F L (upd H p (.lst ((sortI ks).map V.int))) (Stp.fresh np) (rl.sto.fresh np) _ ⟨p, rfl, np, rl.newF np, rl.newL np, _, upd_same, repl_ints _⟩
      · exact q.elim
    · exact q.elim
  · exact q.elim
theorem keyS_map {α : Type} (fk : α → Str) (f : α → D) : ∀ l : List α, keyS (l.map fun a => (Sum.inr (fk a), f a)) = some (l.map fk)
  | [] => rfl
  | a :: l => by
    rw [List.map_cons, List.map_cons]
    unfold keyS
    rw [keyS_map fk f l]
    rfl
end
end Gh
namespace Lw
open Gh L2 PyProof.Rows PySem.Spec PySem
def top (i : Nat) : Stmt := PySem.Challenge.pw_watchedhands_k92_names_and_crews.main.body.getD i (.Pass ⟨0, 0, 0, 0⟩)
abbrev s_Crew_counts : Stmt := inClass (top 13) 8
abbrev s_Crew_idle : Stmt := inClass (top 13) 7
abbrev s_Registry___init__ : Stmt := inClass (top 21) 0
abbrev s_is_name : Stmt := top 9
abbrev s_check_name : Stmt := top 22
abbrev s_Registry_check_up : Stmt := inClass (top 21) 3
abbrev s_Registry_name_of : Stmt := inClass (top 21) 4
abbrev s_Registry_end : Stmt := inClass (top 21) 2
abbrev s_Registry_find : Stmt := inClass (top 21) 6
abbrev s_is_integer : Stmt := top 6
abbrev s_is_number : Stmt := top 8
abbrev s_check_pair : Stmt := top 23
abbrev s_Registry_is_there : Stmt := inClass (top 21) 7
abbrev s_Registry_start : Stmt := inClass (top 21) 1
abbrev s_Registry_take : Stmt := inClass (top 21) 5
abbrev s_Registry_told : Stmt := inClass (top 21) 8
abbrev s__law_flat : Stmt := top 27
abbrev s__law_number : Stmt := top 25
abbrev s__law_take : Stmt := top 26
abbrev s_check_number : Stmt := top 10
abbrev s_most_taken : Stmt := top 18
abbrev s_rounds : Stmt := top 17
abbrev s_Crew___init__ : Stmt := inClass (top 13) 0
abbrev s_is_row : Stmt := top 7
abbrev s_check_deeds : Stmt := top 14
abbrev s_Crew_check_hand : Stmt := inClass (top 13) 1
abbrev s_Crew_let_go : Stmt := inClass (top 13) 6
abbrev s_Crew_fall : Stmt := inClass (top 13) 5
abbrev s_Crew_finish : Stmt := inClass (top 13) 4
abbrev s_Crew_give : Stmt := inClass (top 13) 2
abbrev s_Crew_take : Stmt := inClass (top 13) 3
abbrev s_do : Stmt := top 16
abbrev s_run_crew : Stmt := top 15
abbrev s_law : Stmt := top 28
abbrev s_BadPart___init__ : Stmt := inClass (top 2) 0
abbrev s_Taken___init__ : Stmt := inClass (top 20) 0
/-- what the top has written -/
structure Txt (K : PySem.W.Frag) (mg : Glob) : Prop where
  m_Crew_counts : TM K mg "Crew" "counts" "Crew.counts" s_Crew_counts
  m_Crew_idle : TM K mg "Crew" "idle" "Crew.idle" s_Crew_idle
  m_Registry___init__ : TM K mg "Registry" "__init__" "Registry.__init__" s_Registry___init__
  g_is_name : TG K mg "is_name" "is_name" s_is_name
  g_check_name : TG K mg "check_name" "check_name" s_check_name
  m_Registry_check_up : TM K mg "Registry" "check_up" "Registry.check_up" s_Registry_check_up
  m_Registry_name_of : TM K mg "Registry" "name_of" "Registry.name_of" s_Registry_name_of
  m_Registry_end : TM K mg "Registry" "end" "Registry.end" s_Registry_end
  m_Registry_find : TM K mg "Registry" "find" "Registry.find" s_Registry_find
  g_is_integer : TG K mg "is_integer" "is_integer" s_is_integer
  g_is_number : TG K mg "is_number" "is_number" s_is_number
  g_check_pair : TG K mg "check_pair" "check_pair" s_check_pair
  m_Registry_is_there : TM K mg "Registry" "is_there" "Registry.is_there" s_Registry_is_there
  m_Registry_start : TM K mg "Registry" "start" "Registry.start" s_Registry_start
  m_Registry_take : TM K mg "Registry" "take" "Registry.take" s_Registry_take
  m_Registry_told : TM K mg "Registry" "told" "Registry.told" s_Registry_told
  g__law_flat : TG K mg "_law_flat" "_law_flat" s__law_flat
  g__law_number : TG K mg "_law_number" "_law_number" s__law_number
  g__law_take : TG K mg "_law_take" "_law_take" s__law_take
  g_check_number : TG K mg "check_number" "check_number" s_check_number
  g_most_taken : TG K mg "most_taken" "most_taken" s_most_taken
  g_rounds : TG K mg "rounds" "rounds" s_rounds
  m_Crew___init__ : TM K mg "Crew" "__init__" "Crew.__init__" s_Crew___init__
  g_is_row : TG K mg "is_row" "is_row" s_is_row
  g_check_deeds : TG K mg "check_deeds" "check_deeds" s_check_deeds
  m_Crew_check_hand : TM K mg "Crew" "check_hand" "Crew.check_hand" s_Crew_check_hand
  m_Crew_let_go : TM K mg "Crew" "let_go" "Crew.let_go" s_Crew_let_go
  m_Crew_fall : TM K mg "Crew" "fall" "Crew.fall" s_Crew_fall
  m_Crew_finish : TM K mg "Crew" "finish" "Crew.finish" s_Crew_finish
  m_Crew_give : TM K mg "Crew" "give" "Crew.give" s_Crew_give
  m_Crew_take : TM K mg "Crew" "take" "Crew.take" s_Crew_take
  g_do : TG K mg "do" "do" s_do
  g_run_crew : TG K mg "run_crew" "run_crew" s_run_crew
  g_law : TG K mg "law" "law" s_law
  c_Crew : TC K mg "Crew"
  c_Registry : TC K mg "Registry"
  a_aside_Crew : AttOk K mg "aside" ["Crew"]
  a_done_Crew : AttOk K mg "done" ["Crew"]
  a_held_Crew : AttOk K mg "held" ["Crew"]
  a_lives_Registry : AttOk K mg "lives" ["Registry"]
  a_many_Crew : AttOk K mg "many" ["Crew"]
  a_most_Crew : AttOk K mg "most" ["Crew"]
  a_names_Registry : AttOk K mg "names" ["Registry"]
  a_taken_Crew : AttOk K mg "taken" ["Crew"]
  a_up_Registry : AttOk K mg "up" ["Registry"]
  a_waiting_Crew : AttOk K mg "waiting" ["Crew"]
  i_bool : TIb K mg "bool" []
  i_int : TIb K mg "int" []
  i_str : TIb K mg "str" []
  i_tuple : TIb K mg "tuple" []
  i_list_tuple : TIb2 K mg "list" "tuple" []
  k_FIGURES : TS mg "FIGURES" "0123456789"
  k_SMALL : TS mg "SMALL" "abcdefghijklmnopqrstuvwxyz"
  k_MOST_HANDS : TN mg "MOST_HANDS" 9
  x_BadPart : TX K mg "BadPart" "BadPart.__init__" ["part", "place"] s_BadPart___init__
  x_Taken : TX K mg "Taken" "Taken.__init__" ["name"] s_Taken___init__
  x_BadPart__BadPart_Taken__BadPart : TEm K mg "BadPart" ["BadPart", "Taken"] ["BadPart"]
  x_Taken__BadPart_Taken__Taken : TEm K mg "Taken" ["BadPart", "Taken"] ["Taken"]
  z_all : mg "all" = none
  z_any : mg "any" = none
  z_bool : mg "bool" = none
  z_dict : mg "dict" = none
  z_enumerate : mg "enumerate" = none
  z_int : mg "int" = none
  z_isinstance : mg "isinstance" = none
  z_len : mg "len" = none
  z_list : mg "list" = none
  z_min : mg "min" = none
  z_range : mg "range" = none
  z_sorted : mg "sorted" = none
  z_str : mg "str" = none
  z_sum : mg "sum" = none
  z_tuple : mg "tuple" = none
section
variable {P : Program} {w : World} {K : PySem.W.Frag} {mg : Glob} {base : Heap}
theorem okx_BadPart (T : Txt K mg) : OkX P w K mg base 1 "BadPart" ["part", "place"] :=
  okX2_of T.x_BadPart (⟨rfl, rfl, rfl, by decide +kernel, rfl, by decide +kernel, by decide +kernel⟩ : FnScope ["self", "part", "place"] ["self", "part", "place"] (defScope s_BadPart___init__)) (fun f fd F => F.binds fun _ _ _ _ _ _ us hl => match us, hl with | [_, _, _], _ => rfl) fun f cdv A outer s H E => (pss_cons (ps_ost (x_var 0) (x_var 1)) (pss_one (ps_ost (x_var 0) (x_var 2))))
theorem okx_Taken (T : Txt K mg) : OkX P w K mg base 1 "Taken" ["name"] :=
  okX1_of T.x_Taken (⟨rfl, rfl, rfl, by decide +kernel, rfl, by decide +kernel, by decide +kernel⟩ : FnScope ["self", "name"] ["self", "name"] (defScope s_Taken___init__)) (fun f fd F => F.binds fun _ _ _ _ _ _ us hl => match us, hl with | [_, _], _ => rfl) fun f cdv A outer s H E => (pss_one (ps_ost (x_var 0) (x_var 1)))
/-! Crew.counts -/
def ct_Crew_counts_0 : TDen :=
  (tB (e2 gIsNot (ePeek 2) (eC .non)))
theorem u_ct_Crew_counts_0 (ρ : REnv) (st : Store) : ct_Crew_counts_0 ρ st = (tB (e2 gIsNot (ePeek 2) (eC .non))) ρ st := rfl
def b_Crew_counts : SDen :=
  (sSeq (sAsg 1 (eN gLen (aCons (eComp (lSeq (e1 (eAttC "held" ["Crew"]) (eVar 0))) (bName 2) ct_Crew_counts_0 (eVar 2) [2]) aNil)))
  (sRet (eTup (aCons (eN gLen (aCons (e1 (eAttC "waiting" ["Crew"]) (eVar 0)) aNil)) (aCons (eVar 1) (aCons (eN gLen (aCons (e1 (eAttC "done" ["Crew"]) (eVar 0)) aNil)) (aCons (eN gLen (aCons (e1 (eAttC "aside" ["Crew"]) (eVar 0)) aNil)) aNil)))))))
def m_Crew_counts : CallF := callD 1 3 b_Crew_counts
theorem sc_Crew_counts : FnScope ["self", "held", "job"] ["self"] (defScope s_Crew_counts) := ⟨rfl, rfl, rfl, by decide +kernel, rfl, by decide +kernel, by decide +kernel⟩
theorem fn_Crew_counts (T : Txt K mg) {f : Addr} {fd : FuncData} (F : Fun K "counts" "Crew.counts" s_Crew_counts f fd) : FnOk P w K mg base (L2.CX P w) 1 f fd ["self"] (spG K mg m_Crew_counts) := by
  have nd := (sc_Crew_counts).nd
  refine Fun.den (m := b_Crew_counts) (N := ["self", "held", "job"]) (np := 1) (nl := 3) F sc_Crew_counts rfl rfl fun cdv A outer s H E hr Γ hx => ?_
  have tk := takes_body (P := P) (w := w) (K := K) (mg := mg) (base := base) (N := ["self", "held", "job"]) (qual := "Crew.counts") (sc := defScope s_Crew_counts) (f := f) (cdv := cdv) (A := A) (outer := outer) (s := s) (H := H) (E := E)
  have ow := own_body (P := P) (w := w) (K := K) (mg := mg) (base := base) (N := ["self", "held", "job"]) (qual := "Crew.counts") (sc := defScope s_Crew_counts) (f := f) (cdv := cdv) (A := A) (outer := outer) (s := s) (H := H) (E := E)
  exact (s_cons (s_asg nd (g_callB call_lenU kV_late sem_len T.z_len (by decide +kernel) (r_cons (g_vr (g_ov (g_lc (own := [("job", 2)]) rfl nd (i_gc (i_seq rfl (g_att (cs := ["Crew"]) rfl T.a_held_Crew (g_var 0)))) (blkOk_by (by kernel_rfl)) (fun _ _ _ _ _ => (b_name 2 nd)) (fun _ _ _ _ _ => (ts_one (g_tcmp op_notN sem_isNot (g_peek 2) (g_vr g_non) rfl))) (fun _ _ _ _ _ => (g_var 2))))) r_nil)))
    (s_one (s_ret (g_tup (g_cons (g_callB call_lenU kV_late sem_len T.z_len (by decide +kernel) (r_cons (g_vr (g_att (cs := ["Crew"]) rfl T.a_waiting_Crew (g_var 0))) r_nil)) (g_cons (g_var 1) (g_cons (g_callB call_lenU kV_late sem_len T.z_len (by decide +kernel) (r_cons (g_vr (g_att (cs := ["Crew"]) rfl T.a_done_Crew (g_var 0))) r_nil)) (g_cons (g_callB call_lenU kV_late sem_len T.z_len (by decide +kernel) (r_cons (g_vr (g_att (cs := ["Crew"]) rfl T.a_aside_Crew (g_var 0))) r_nil)) g_nil))))))))
theorem ok_Crew_counts (T : Txt K mg) : OkM P w K mg base 1 "Crew" "counts" ["self"] m_Crew_counts := okM_of T.c_Crew T.m_Crew_counts (fun f fd F => F.binds fun _ _ _ _ _ _ us hl => match us, hl with | [_], _ => rfl) fun f fd F => fn_Crew_counts T F
/-! Crew.idle -/
def ct_Crew_idle_0 : TDen :=
  (tB (e2 gIs (e2 gIx (e1 (eAttC "held" ["Crew"]) (eVar 0)) (ePeek 1)) (eC .non)))
theorem u_ct_Crew_idle_0 (ρ : REnv) (st : Store) : ct_Crew_idle_0 ρ st = (tB (e2 gIs (e2 gIx (e1 (eAttC "held" ["Crew"]) (eVar 0)) (ePeek 1)) (eC .non))) ρ st := rfl
def b_Crew_idle : SDen :=
  (sRet (eComp (lRange1 (aCons (e1 (eAttC "many" ["Crew"]) (eVar 0)) aNil)) (bName 1) ct_Crew_idle_0 (eVar 1) [1]))
def m_Crew_idle : CallF := callD 1 2 b_Crew_idle
theorem sc_Crew_idle : FnScope ["self", "hand"] ["self"] (defScope s_Crew_idle) := ⟨rfl, rfl, rfl, by decide +kernel, rfl, by decide +kernel, by decide +kernel⟩
theorem fn_Crew_idle (T : Txt K mg) {f : Addr} {fd : FuncData} (F : Fun K "idle" "Crew.idle" s_Crew_idle f fd) : FnOk P w K mg base (L2.CX P w) 1 f fd ["self"] (spG K mg m_Crew_idle) := by
  have nd := (sc_Crew_idle).nd
  refine Fun.den (m := b_Crew_idle) (N := ["self", "hand"]) (np := 1) (nl := 2) F sc_Crew_idle rfl rfl fun cdv A outer s H E hr Γ hx => ?_
  have tk := takes_body (P := P) (w := w) (K := K) (mg := mg) (base := base) (N := ["self", "hand"]) (qual := "Crew.idle") (sc := defScope s_Crew_idle) (f := f) (cdv := cdv) (A := A) (outer := outer) (s := s) (H := H) (E := E)
  have ow := own_body (P := P) (w := w) (K := K) (mg := mg) (base := base) (N := ["self", "hand"]) (qual := "Crew.idle") (sc := defScope s_Crew_idle) (f := f) (cdv := cdv) (A := A) (outer := outer) (s := s) (H := H) (E := E)
  exact (s_one (s_ret (g_ov (g_lc (own := [("hand", 1)]) rfl nd (i_gc (i_range1 T.z_range (g_cons (g_att (cs := ["Crew"]) rfl T.a_many_Crew (g_var 0)) g_nil))) (blkOk_by (by kernel_rfl)) (fun _ _ _ _ _ => (b_name 1 nd)) (fun _ _ _ _ _ => (ts_one (g_tcmp op_isN sem_is (g_vr (g_sub rfl (hu_ofA hr) (g_vr (g_att (cs := ["Crew"]) rfl T.a_held_Crew (g_var 0))) (g_peek 1))) (g_vr g_non) rfl))) (fun _ _ _ _ _ => (g_var 1))))))
theorem ok_Crew_idle (T : Txt K mg) : OkM P w K mg base 1 "Crew" "idle" ["self"] m_Crew_idle := okM_of T.c_Crew T.m_Crew_idle (fun f fd F => F.binds fun _ _ _ _ _ _ us hl => match us, hl with | [_], _ => rfl) fun f fd F => fn_Crew_idle T F
/-! Registry.__init__ -/
def b_Registry___init__ : SDen :=
  (sSeq (sAtt "lives" ["Registry"] (eVar 0) (eDict pNil))
  (sSeq (sAtt "up" ["Registry"] (eVar 0) (eDict pNil))
  (sAtt "names" ["Registry"] (eVar 0) (eDict pNil))))
def m_Registry___init__ : CallF := callD 1 1 b_Registry___init__
theorem sc_Registry___init__ : FnScope ["self"] ["self"] (defScope s_Registry___init__) := ⟨rfl, rfl, rfl, by decide +kernel, rfl, by decide +kernel, by decide +kernel⟩
theorem fn_Registry___init__ (T : Txt K mg) {f : Addr} {fd : FuncData} (F : Fun K "__init__" "Registry.__init__" s_Registry___init__ f fd) : FnOk P w K mg base (L2.CX P w) 1 f fd ["self"] (spG K mg m_Registry___init__) := by
  have nd := (sc_Registry___init__).nd
  refine Fun.den (m := b_Registry___init__) (N := ["self"]) (np := 1) (nl := 1) F sc_Registry___init__ rfl rfl fun cdv A outer s H E hr Γ hx => ?_
  have tk := takes_body (P := P) (w := w) (K := K) (mg := mg) (base := base) (N := ["self"]) (qual := "Registry.__init__") (sc := defScope s_Registry___init__) (f := f) (cdv := cdv) (A := A) (outer := outer) (s := s) (H := H) (E := E)
  have ow := own_body (P := P) (w := w) (K := K) (mg := mg) (base := base) (N := ["self"]) (qual := "Registry.__init__") (sc := defScope s_Registry___init__) (f := f) (cdv := cdv) (A := A) (outer := outer) (s := s) (H := H) (E := E)
  exact (s_cons (s_att (cs := ["Registry"]) rfl T.a_lives_Registry (g_var 0) (g_ov g_dict0))
    (s_cons (s_att (cs := ["Registry"]) rfl T.a_up_Registry (g_var 0) (g_ov g_dict0))
    (s_one (s_att (cs := ["Registry"]) rfl T.a_names_Registry (g_var 0) (g_ov g_dict0)))))
theorem ok_Registry___init__ (T : Txt K mg) : OkM P w K mg base 1 "Registry" "__init__" ["self"] m_Registry___init__ := okM_of T.c_Registry T.m_Registry___init__ (fun f fd F => F.binds fun _ _ _ _ _ _ us hl => match us, hl with | [_], _ => rfl) fun f fd F => fn_Registry___init__ T F
/-! is_name -/
def ce_is_name_0 : EDen :=
  (e2 gIn (ePeek 1) (e2 gAdd (eC (.str "abcdefghijklmnopqrstuvwxyz")) (eC (.str "0123456789"))))
theorem u_ce_is_name_0 (ρ : REnv) (st : Store) : ce_is_name_0 ρ st = (e2 gIn (ePeek 1) (e2 gAdd (eC (.str "abcdefghijklmnopqrstuvwxyz")) (eC (.str "0123456789")))) ρ st := rfl
def b_is_name : SDen :=
  (sSeq (sIf (tOr (tNot (tTr (e1 (gIsi ["str"] [] []) (ePeek 0)))) (tOr (tNot (tB (eChain gLe gLe (eC (.int 1)) (eN gLen (aCons (ePeek 0) aNil)) (eC (.int 8))))) (tB (e2 gNotIn (e2 gIx (ePeek 0) (eC (.int 0))) (eC (.str "abcdefghijklmnopqrstuvwxyz")))))) (sRet (eC (.bl false))) sNil)
  (sRet (eN gAll (aCons (eComp (lStr (eVar 0)) (bName 1) tYes ce_is_name_0 [1]) aNil))))
def m_is_name : CallF := callD 1 2 b_is_name
theorem sc_is_name : FnScope ["thing", "sign"] ["thing"] (defScope s_is_name) := ⟨rfl, rfl, rfl, by decide +kernel, rfl, by decide +kernel, by decide +kernel⟩
theorem fn_is_name (T : Txt K mg) {f : Addr} {fd : FuncData} (F : Fun K "is_name" "is_name" s_is_name f fd) : FnOk P w K mg base (L2.CX P w) 1 f fd ["thing"] (spG K mg m_is_name) := by
  have nd := (sc_is_name).nd
  refine Fun.den (m := b_is_name) (N := ["thing", "sign"]) (np := 1) (nl := 2) F sc_is_name rfl rfl fun cdv A outer s H E hr Γ hx => ?_
  have tk := takes_body (P := P) (w := w) (K := K) (mg := mg) (base := base) (N := ["thing", "sign"]) (qual := "is_name") (sc := defScope s_is_name) (f := f) (cdv := cdv) (A := A) (outer := outer) (s := s) (H := H) (E := E)
  have ow := own_body (P := P) (w := w) (K := K) (mg := mg) (base := base) (N := ["thing", "sign"]) (qual := "is_name") (sc := defScope s_is_name) (f := f) (cdv := cdv) (A := A) (outer := outer) (s := s) (H := H) (E := E)
  exact (s_cons (s_if (PW.pt (g_or (g_not (g_tr rfl (g_vr (f_isiB T.i_str T.z_isinstance T.z_str (by decide +kernel) (g_peek 0))))) (g_or (g_not (g_tchain op_le op_le sem_le sem_le (g_vr g_int) (g_vr (g_callB call_lenU kV_late sem_len T.z_len (by decide +kernel) (r_cons (g_peek 0) r_nil))) (g_vr g_int))) (pw_or1 (g_tnotIn hr.units (g_vr (g_sub rfl (hu_ofA hr) (g_peek 0) (g_vr g_int))) (g_vr (f_gs T.k_SMALL))))))) (s_one (s_ret g_bl)) s_nil)
    (s_one (s_ret (g_callB (cr_all rfl) kV_late sem_all T.z_all (by decide +kernel) (r_cons (g_vr (g_ov (g_lc (own := [("sign", 1)]) rfl nd (i_gc (i_str (g_var 0))) (blkOk_by (by kernel_rfl)) (fun _ _ _ _ _ => (b_name 1 nd)) (fun _ _ _ _ _ => ts_nil) (fun _ _ _ _ _ => (g_in rfl hr.units (g_peek 1) (g_vr (g_bin op_addU kV_late sem_add (g_vr (f_gs T.k_SMALL)) (g_vr (f_gs T.k_FIGURES))))))))) r_nil)))))
theorem ok_is_name (T : Txt K mg) : OkG P w K mg base 1 "is_name" ["thing"] m_is_name := okG_of T.g_is_name (fun f fd F => F.binds fun _ _ _ _ _ _ us hl => match us, hl with | [_], _ => rfl) fun f fd F => fn_is_name T F
/-! check_name -/
def b_check_name : SDen :=
  (sIf (tNot (tTr (eCall m_is_name (aCons (eVar 1) aNil)))) (sRaise "BadPart" ["part", "place"] (aCons (eVar 0) (aCons (eC .non) aNil))) sNil)
def m_check_name : CallF := callD 2 2 b_check_name
theorem sc_check_name : FnScope ["part", "name"] ["part", "name"] (defScope s_check_name) := ⟨rfl, rfl, rfl, by decide +kernel, rfl, by decide +kernel, by decide +kernel⟩
theorem fn_check_name (T : Txt K mg) {f : Addr} {fd : FuncData} (F : Fun K "check_name" "check_name" s_check_name f fd) : FnOk P w K mg base (L2.CX P w) 3 f fd ["part", "name"] (spG K mg m_check_name) := by
  have nd := (sc_check_name).nd
  refine Fun.den (m := b_check_name) (N := ["part", "name"]) (np := 2) (nl := 2) F sc_check_name rfl rfl fun cdv A outer s H E hr Γ hx => ?_
  have tk := takes_body (P := P) (w := w) (K := K) (mg := mg) (base := base) (N := ["part", "name"]) (qual := "check_name") (sc := defScope s_check_name) (f := f) (cdv := cdv) (A := A) (outer := outer) (s := s) (H := H) (E := E)
  have ow := own_body (P := P) (w := w) (K := K) (mg := mg) (base := base) (N := ["part", "name"]) (qual := "check_name") (sc := defScope s_check_name) (f := f) (cdv := cdv) (A := A) (outer := outer) (s := s) (H := H) (E := E)
  exact (s_one (s_if (g_not (g_tr rfl (g_vr (f_call (ok_is_name T) (hr.mono (by decide)) tk (g_cons (g_var 1) g_nil))))) (s_one (f_raise2 (okx_BadPart T) (hr.mono (by decide)) rfl tk (g_cons (g_var 0) (g_cons g_non g_nil)))) s_nil))
theorem ok_check_name (T : Txt K mg) : OkG P w K mg base 3 "check_name" ["part", "name"] m_check_name := okG_of T.g_check_name (fun f fd F => F.binds fun _ _ _ _ _ _ us hl => match us, hl with | [_, _], _ => rfl) fun f fd F => fn_check_name T F
/-! Registry.check_up -/
def b_Registry_check_up : SDen :=
  (sSeq (sDrop (eCall m_check_name (aCons (eC (.str "hand")) (aCons (eVar 1) aNil))))
  (sIf (tB (e2 gNotIn (ePeek 1) (e1 (eAttC "up" ["Registry"]) (eVar 0)))) (sRaise "BadPart" ["part", "place"] (aCons (eC (.str "hand")) (aCons (eC .non) aNil))) sNil))
def m_Registry_check_up : CallF := callD 2 2 b_Registry_check_up
theorem sc_Registry_check_up : FnScope ["self", "hand"] ["self", "hand"] (defScope s_Registry_check_up) := ⟨rfl, rfl, rfl, by decide +kernel, rfl, by decide +kernel, by decide +kernel⟩
theorem fn_Registry_check_up (T : Txt K mg) {f : Addr} {fd : FuncData} (F : Fun K "check_up" "Registry.check_up" s_Registry_check_up f fd) : FnOk P w K mg base (L2.CX P w) 4 f fd ["self", "hand"] (spG K mg m_Registry_check_up) := by
  have nd := (sc_Registry_check_up).nd
  refine Fun.den (m := b_Registry_check_up) (N := ["self", "hand"]) (np := 2) (nl := 2) F sc_Registry_check_up rfl rfl fun cdv A outer s H E hr Γ hx => ?_
  have tk := takes_body (P := P) (w := w) (K := K) (mg := mg) (base := base) (N := ["self", "hand"]) (qual := "Registry.check_up") (sc := defScope s_Registry_check_up) (f := f) (cdv := cdv) (A := A) (outer := outer) (s := s) (H := H) (E := E)
  have ow := own_body (P := P) (w := w) (K := K) (mg := mg) (base := base) (N := ["self", "hand"]) (qual := "Registry.check_up") (sc := defScope s_Registry_check_up) (f := f) (cdv := cdv) (A := A) (outer := outer) (s := s) (H := H) (E := E)
  exact (s_cons (s_drop (f_call (ok_check_name T) (hr.mono (by decide)) tk (g_cons g_str (g_cons (g_var 1) g_nil))))
    (s_one (s_if (g_tnotIn hr.units (g_peek 1) (g_vr (g_att (cs := ["Registry"]) rfl T.a_up_Registry (g_var 0)))) (s_one (f_raise2 (okx_BadPart T) (hr.mono (by decide)) rfl tk (g_cons g_str (g_cons g_non g_nil)))) s_nil)))
theorem ok_Registry_check_up (T : Txt K mg) : OkM P w K mg base 4 "Registry" "check_up" ["self", "hand"] m_Registry_check_up := okM_of T.c_Registry T.m_Registry_check_up (fun f fd F => F.binds fun _ _ _ _ _ _ us hl => match us, hl with | [_, _], _ => rfl) fun f fd F => fn_Registry_check_up T F
/-! Registry.name_of -/
def ct_Registry_name_of_0 : TDen :=
  (tB (e2 gEq (e2 gIx (e1 (eAttC "names" ["Registry"]) (eVar 0)) (ePeek 3)) (eTup (aCons (eVar 1) (aCons (e2 gIx (e1 (eAttC "up" ["Registry"]) (eVar 0)) (ePeek 1)) aNil)))))
theorem u_ct_Registry_name_of_0 (ρ : REnv) (st : Store) : ct_Registry_name_of_0 ρ st = (tB (e2 gEq (e2 gIx (e1 (eAttC "names" ["Registry"]) (eVar 0)) (ePeek 3)) (eTup (aCons (eVar 1) (aCons (e2 gIx (e1 (eAttC "up" ["Registry"]) (eVar 0)) (ePeek 1)) aNil))))) ρ st := rfl
def b_Registry_name_of : SDen :=
  (sSeq (sDrop (eMethU [("Registry", m_Registry_check_up)] "check_up" (eVar 0) (aCons (eVar 1) aNil)))
  (sSeq (sVal 2 (sAsgO 2 (eComp (lD (e1 (eAttC "names" ["Registry"]) (eVar 0)) (fun p => keyD p.1)) (bName 3) ct_Registry_name_of_0 (eVar 3) [3])))
  (sRet (eIf (tB (e2 gNe (ePeek 2) (eLst aNil))) (e2 gIx (ePeek 2) (eC (.int 0))) (eC .non)))))
def m_Registry_name_of : CallF := callD 2 4 b_Registry_name_of
theorem sc_Registry_name_of : FnScope ["self", "hand", "some", "name"] ["self", "hand"] (defScope s_Registry_name_of) := ⟨rfl, rfl, rfl, by decide +kernel, rfl, by decide +kernel, by decide +kernel⟩
theorem fn_Registry_name_of (T : Txt K mg) {f : Addr} {fd : FuncData} (F : Fun K "name_of" "Registry.name_of" s_Registry_name_of f fd) : FnOk P w K mg base (L2.CX P w) 5 f fd ["self", "hand"] (spG K mg m_Registry_name_of) := by
  have nd := (sc_Registry_name_of).nd
  refine Fun.den (m := b_Registry_name_of) (N := ["self", "hand", "some", "name"]) (np := 2) (nl := 4) F sc_Registry_name_of rfl rfl fun cdv A outer s H E hr Γ hx => ?_
  have tk := takes_body (P := P) (w := w) (K := K) (mg := mg) (base := base) (N := ["self", "hand", "some", "name"]) (qual := "Registry.name_of") (sc := defScope s_Registry_name_of) (f := f) (cdv := cdv) (A := A) (outer := outer) (s := s) (H := H) (E := E)
  have ow := own_body (P := P) (w := w) (K := K) (mg := mg) (base := base) (N := ["self", "hand", "some", "name"]) (qual := "Registry.name_of") (sc := defScope s_Registry_name_of) (f := f) (cdv := cdv) (A := A) (outer := outer) (s := s) (H := H) (E := E)
  exact (s_cons (s_drop (f_meth (l := [("Registry", m_Registry_check_up)]) (.cons ((ok_Registry_check_up T).mono (k := 4) (by decide)) .nil) (hr.mono (by decide)) tk (g_var 0) (g_cons (g_var 1) g_nil)))
    (s_cons (s_val 2 (s_asgLcD (own := [("name", 3)]) rfl nd (by rfl) (wp_keys (kn_att (cs := ["Registry"]) rfl T.a_names_Registry (kn_var 0))) (blkOk_by (by kernel_rfl)) (fun _ _ _ _ _ _ => (b_name 3 nd)) (fun _ _ _ _ _ _ => (ts_one (g_tcmp (op_eqU hr.units) sem_eq (g_vr (g_sub rfl (hu_ofA hr) (g_vr (g_att (cs := ["Registry"]) rfl T.a_names_Registry (g_var 0))) (g_peek 3))) (g_vr (g_tup (g_cons (g_var 1) (g_cons (g_sub rfl (hu_ofA hr) (g_vr (g_att (cs := ["Registry"]) rfl T.a_up_Registry (g_var 0))) (g_peek 1)) g_nil)))) rfl))) (fun _ _ _ _ _ _ => (g_var 3))))
    (s_one (s_ret (g_if kV_late (g_tcmp (op_neU hr.units) sem_ne (g_peek 2) (g_vr (g_ov (g_lst g_nil))) rfl) (g_sub rfl (hu_ofA hr) (g_peek 2) (g_vr g_int)) g_non)))))
theorem ok_Registry_name_of (T : Txt K mg) : OkM P w K mg base 5 "Registry" "name_of" ["self", "hand"] m_Registry_name_of := okM_of T.c_Registry T.m_Registry_name_of (fun f fd F => F.binds fun _ _ _ _ _ _ us hl => match us, hl with | [_, _], _ => rfl) fun f fd F => fn_Registry_name_of T F
/-! Registry.end -/
def ce_Registry_end_0 : EDen :=
  (e2 gIx (e1 (eAttC "names" ["Registry"]) (eVar 0)) (ePeek 3))
theorem u_ce_Registry_end_0 (ρ : REnv) (st : Store) : ce_Registry_end_0 ρ st = (e2 gIx (e1 (eAttC "names" ["Registry"]) (eVar 0)) (ePeek 3)) ρ st := rfl
def ct_Registry_end_1 : TDen :=
  (tB (e2 gNe (ePeek 3) (ePeek 2)))
theorem u_ct_Registry_end_1 (ρ : REnv) (st : Store) : ct_Registry_end_1 ρ st = (tB (e2 gNe (ePeek 3) (ePeek 2))) ρ st := rfl
def ce_Registry_end_2 : EDen :=
  (e2 gIx (e1 (eAttC "up" ["Registry"]) (eVar 0)) (ePeek 4))
theorem u_ce_Registry_end_2 (ρ : REnv) (st : Store) : ce_Registry_end_2 ρ st = (e2 gIx (e1 (eAttC "up" ["Registry"]) (eVar 0)) (ePeek 4)) ρ st := rfl
def ct_Registry_end_3 : TDen :=
  (tB (e2 gNe (ePeek 4) (ePeek 1)))
theorem u_ct_Registry_end_3 (ρ : REnv) (st : Store) : ct_Registry_end_3 ρ st = (tB (e2 gNe (ePeek 4) (ePeek 1))) ρ st := rfl
def b_Registry_end : SDen :=
  (sSeq (sDrop (eMethU [("Registry", m_Registry_check_up)] "check_up" (eVar 0) (aCons (eVar 1) aNil)))
  (sSeq (sAsg 2 (eMethU [("Registry", m_Registry_name_of)] "name_of" (eVar 0) (aCons (eVar 1) aNil)))
  (sSeq (sAtt "names" ["Registry"] (eVar 0) (eDComp (lD (e1 (eAttC "names" ["Registry"]) (eVar 0)) (fun p => keyD p.1)) (bName 3) ct_Registry_end_1 (eVar 3) ce_Registry_end_0 [3]))
  (sSeq (sAtt "up" ["Registry"] (eVar 0) (eDComp (lD (e1 (eAttC "up" ["Registry"]) (eVar 0)) (fun p => keyD p.1)) (bName 4) ct_Registry_end_3 (eVar 4) ce_Registry_end_2 [4]))
  (sRet (eVar 2))))))
def m_Registry_end : CallF := callD 2 5 b_Registry_end
theorem sc_Registry_end : FnScope ["self", "hand", "mine", "name", "one"] ["self", "hand"] (defScope s_Registry_end) := ⟨rfl, rfl, rfl, by decide +kernel, rfl, by decide +kernel, by decide +kernel⟩
theorem fn_Registry_end (T : Txt K mg) {f : Addr} {fd : FuncData} (F : Fun K "end" "Registry.end" s_Registry_end f fd) : FnOk P w K mg base (L2.CX P w) 6 f fd ["self", "hand"] (spG K mg m_Registry_end) := by
  have nd := (sc_Registry_end).nd
  refine Fun.den (m := b_Registry_end) (N := ["self", "hand", "mine", "name", "one"]) (np := 2) (nl := 5) F sc_Registry_end rfl rfl fun cdv A outer s H E hr Γ hx => ?_
  have tk := takes_body (P := P) (w := w) (K := K) (mg := mg) (base := base) (N := ["self", "hand", "mine", "name", "one"]) (qual := "Registry.end") (sc := defScope s_Registry_end) (f := f) (cdv := cdv) (A := A) (outer := outer) (s := s) (H := H) (E := E)
  have ow := own_body (P := P) (w := w) (K := K) (mg := mg) (base := base) (N := ["self", "hand", "mine", "name", "one"]) (qual := "Registry.end") (sc := defScope s_Registry_end) (f := f) (cdv := cdv) (A := A) (outer := outer) (s := s) (H := H) (E := E)
  exact (s_cons (s_drop (f_meth (l := [("Registry", m_Registry_check_up)]) (.cons ((ok_Registry_check_up T).mono (k := 4) (by decide)) .nil) (hr.mono (by decide)) tk (g_var 0) (g_cons (g_var 1) g_nil)))
    (s_cons (s_asg nd (f_meth (l := [("Registry", m_Registry_name_of)]) (.cons ((ok_Registry_name_of T).mono (k := 5) (by decide)) .nil) (hr.mono (by decide)) tk (g_var 0) (g_cons (g_var 1) g_nil)))
    (s_cons (s_att (cs := ["Registry"]) rfl T.a_names_Registry (g_var 0) (g_ov (g_dcD (own := [("name", 3)]) rfl nd (wp_keys (kn_att (cs := ["Registry"]) rfl T.a_names_Registry (kn_var 0))) (blkOk_by (by kernel_rfl)) (fun _ _ _ _ _ _ => (b_name 3 nd)) (fun _ _ _ _ _ _ => (ts_one (g_tcmp (op_neU hr.units) sem_ne (g_peek 3) (g_peek 2) rfl))) (fun _ _ _ _ _ _ => (g_var 3)) (fun _ _ _ _ _ _ => (g_sub rfl (hu_ofA hr) (g_vr (g_att (cs := ["Registry"]) rfl T.a_names_Registry (g_var 0))) (g_peek 3))))))
    (s_cons (s_att (cs := ["Registry"]) rfl T.a_up_Registry (g_var 0) (g_ov (g_dcD (own := [("one", 4)]) rfl nd (wp_keys (kn_att (cs := ["Registry"]) rfl T.a_up_Registry (kn_var 0))) (blkOk_by (by kernel_rfl)) (fun _ _ _ _ _ _ => (b_name 4 nd)) (fun _ _ _ _ _ _ => (ts_one (g_tcmp (op_neU hr.units) sem_ne (g_peek 4) (g_peek 1) rfl))) (fun _ _ _ _ _ _ => (g_var 4)) (fun _ _ _ _ _ _ => (g_sub rfl (hu_ofA hr) (g_vr (g_att (cs := ["Registry"]) rfl T.a_up_Registry (g_var 0))) (g_peek 4))))))
    (s_one (s_ret (g_var 2)))))))
theorem ok_Registry_end (T : Txt K mg) : OkM P w K mg base 6 "Registry" "end" ["self", "hand"] m_Registry_end := okM_of T.c_Registry T.m_Registry_end (fun f fd F => F.binds fun _ _ _ _ _ _ us hl => match us, hl with | [_, _], _ => rfl) fun f fd F => fn_Registry_end T F
/-! Registry.find -/
def b_Registry_find : SDen :=
  (sSeq (sDrop (eCall m_check_name (aCons (eC (.str "name")) (aCons (eVar 1) aNil))))
  (sRet (eGet1 (e1 (eAttC "names" ["Registry"]) (eVar 0)) (ePeek 1))))
def m_Registry_find : CallF := callD 2 2 b_Registry_find
theorem sc_Registry_find : FnScope ["self", "name"] ["self", "name"] (defScope s_Registry_find) := ⟨rfl, rfl, rfl, by decide +kernel, rfl, by decide +kernel, by decide +kernel⟩
theorem fn_Registry_find (T : Txt K mg) {f : Addr} {fd : FuncData} (F : Fun K "find" "Registry.find" s_Registry_find f fd) : FnOk P w K mg base (L2.CX P w) 4 f fd ["self", "name"] (spG K mg m_Registry_find) := by
  have nd := (sc_Registry_find).nd
  refine Fun.den (m := b_Registry_find) (N := ["self", "name"]) (np := 2) (nl := 2) F sc_Registry_find rfl rfl fun cdv A outer s H E hr Γ hx => ?_
  have tk := takes_body (P := P) (w := w) (K := K) (mg := mg) (base := base) (N := ["self", "name"]) (qual := "Registry.find") (sc := defScope s_Registry_find) (f := f) (cdv := cdv) (A := A) (outer := outer) (s := s) (H := H) (E := E)
  have ow := own_body (P := P) (w := w) (K := K) (mg := mg) (base := base) (N := ["self", "name"]) (qual := "Registry.find") (sc := defScope s_Registry_find) (f := f) (cdv := cdv) (A := A) (outer := outer) (s := s) (H := H) (E := E)
  exact (s_cons (s_drop (f_call (ok_check_name T) (hr.mono (by decide)) tk (g_cons g_str (g_cons (g_var 1) g_nil))))
    (s_one (s_ret (g_get1 (hu_ofA hr) (g_vr (g_att (cs := ["Registry"]) rfl T.a_names_Registry (g_var 0))) (g_peek 1) ⟨rfl, rfl, rfl, rfl⟩))))
theorem ok_Registry_find (T : Txt K mg) : OkM P w K mg base 4 "Registry" "find" ["self", "name"] m_Registry_find := okM_of T.c_Registry T.m_Registry_find (fun f fd F => F.binds fun _ _ _ _ _ _ us hl => match us, hl with | [_, _], _ => rfl) fun f fd F => fn_Registry_find T F
/-! is_integer -/
def b_is_integer : SDen :=
  (sRet (eAnd (e1 (gIsi ["int"] [] []) (ePeek 0)) (eNot (e1 (gIsi ["bool"] [] []) (ePeek 0)))))
def m_is_integer : CallF := callD 1 1 b_is_integer
theorem sc_is_integer : FnScope ["thing"] ["thing"] (defScope s_is_integer) := ⟨rfl, rfl, rfl, by decide +kernel, rfl, by decide +kernel, by decide +kernel⟩
theorem fn_is_integer (T : Txt K mg) {f : Addr} {fd : FuncData} (F : Fun K "is_integer" "is_integer" s_is_integer f fd) : FnOk P w K mg base (L2.CX P w) 1 f fd ["thing"] (spG K mg m_is_integer) := by
  have nd := (sc_is_integer).nd
  refine Fun.den (m := b_is_integer) (N := ["thing"]) (np := 1) (nl := 1) F sc_is_integer rfl rfl fun cdv A outer s H E hr Γ hx => ?_
  have tk := takes_body (P := P) (w := w) (K := K) (mg := mg) (base := base) (N := ["thing"]) (qual := "is_integer") (sc := defScope s_is_integer) (f := f) (cdv := cdv) (A := A) (outer := outer) (s := s) (H := H) (E := E)
  have ow := own_body (P := P) (w := w) (K := K) (mg := mg) (base := base) (N := ["thing"]) (qual := "is_integer") (sc := defScope s_is_integer) (f := f) (cdv := cdv) (A := A) (outer := outer) (s := s) (H := H) (E := E)
  exact (s_one (s_ret (g_andV rfl (f_isiB T.i_int T.z_isinstance T.z_int (by decide +kernel) (g_peek 0)) (g_one (g_notV rfl (g_vr (f_isiB T.i_bool T.z_isinstance T.z_bool (by decide +kernel) (g_peek 0))))))))
theorem ok_is_integer (T : Txt K mg) : OkG P w K mg base 1 "is_integer" ["thing"] m_is_integer := okG_of T.g_is_integer (fun f fd F => F.binds fun _ _ _ _ _ _ us hl => match us, hl with | [_], _ => rfl) fun f fd F => fn_is_integer T F
/-! is_number -/
def b_is_number : SDen :=
  (sRet (eAnd (eCall m_is_integer (aCons (eVar 0) aNil)) (eChain gLe gLe (ePeek 1) (ePeek 0) (ePeek 2))))
def m_is_number : CallF := callD 3 3 b_is_number
theorem sc_is_number : FnScope ["thing", "low", "high"] ["thing", "low", "high"] (defScope s_is_number) := ⟨rfl, rfl, rfl, by decide +kernel, rfl, by decide +kernel, by decide +kernel⟩
theorem fn_is_number (T : Txt K mg) {f : Addr} {fd : FuncData} (F : Fun K "is_number" "is_number" s_is_number f fd) : FnOk P w K mg base (L2.CX P w) 2 f fd ["thing", "low", "high"] (spG K mg m_is_number) := by
  have nd := (sc_is_number).nd
  refine Fun.den (m := b_is_number) (N := ["thing", "low", "high"]) (np := 3) (nl := 3) F sc_is_number rfl rfl fun cdv A outer s H E hr Γ hx => ?_
  have tk := takes_body (P := P) (w := w) (K := K) (mg := mg) (base := base) (N := ["thing", "low", "high"]) (qual := "is_number") (sc := defScope s_is_number) (f := f) (cdv := cdv) (A := A) (outer := outer) (s := s) (H := H) (E := E)
  have ow := own_body (P := P) (w := w) (K := K) (mg := mg) (base := base) (N := ["thing", "low", "high"]) (qual := "is_number") (sc := defScope s_is_number) (f := f) (cdv := cdv) (A := A) (outer := outer) (s := s) (H := H) (E := E)
  exact (s_one (s_ret (g_andV rfl (f_call (ok_is_integer T) (hr.mono (by decide)) tk (g_cons (g_var 0) g_nil)) (g_one (g_chain op_le op_le sem_le sem_le (g_peek 1) (g_peek 0) (g_peek 2))))))
theorem ok_is_number (T : Txt K mg) : OkG P w K mg base 2 "is_number" ["thing", "low", "high"] m_is_number := okG_of T.g_is_number (fun f fd F => F.binds fun _ _ _ _ _ _ us hl => match us, hl with | [_, _, _], _ => rfl) fun f fd F => fn_is_number T F
/-! check_pair -/
def b_check_pair : SDen :=
  (sIf (tOr (tNot (tTr (e1 (gIsi ["tuple"] [] []) (ePeek 0)))) (tOr (tB (e2 gNe (eN gLen (aCons (ePeek 0) aNil)) (eC (.int 2)))) (tOr (tNot (tTr (eCall m_is_name (aCons (e2 gIx (ePeek 0) (eC (.int 0))) aNil)))) (tNot (tTr (eCall m_is_number (aCons (e2 gIx (ePeek 0) (eC (.int 1))) (aCons (eC (.int 1)) (aCons (eC (.int 9999)) aNil))))))))) (sRaise "BadPart" ["part", "place"] (aCons (eC (.str "pair")) (aCons (eC .non) aNil))) sNil)
def m_check_pair : CallF := callD 1 1 b_check_pair
theorem sc_check_pair : FnScope ["pair"] ["pair"] (defScope s_check_pair) := ⟨rfl, rfl, rfl, by decide +kernel, rfl, by decide +kernel, by decide +kernel⟩
theorem fn_check_pair (T : Txt K mg) {f : Addr} {fd : FuncData} (F : Fun K "check_pair" "check_pair" s_check_pair f fd) : FnOk P w K mg base (L2.CX P w) 3 f fd ["pair"] (spG K mg m_check_pair) := by
  have nd := (sc_check_pair).nd
  refine Fun.den (m := b_check_pair) (N := ["pair"]) (np := 1) (nl := 1) F sc_check_pair rfl rfl fun cdv A outer s H E hr Γ hx => ?_
  have tk := takes_body (P := P) (w := w) (K := K) (mg := mg) (base := base) (N := ["pair"]) (qual := "check_pair") (sc := defScope s_check_pair) (f := f) (cdv := cdv) (A := A) (outer := outer) (s := s) (H := H) (E := E)
  have ow := own_body (P := P) (w := w) (K := K) (mg := mg) (base := base) (N := ["pair"]) (qual := "check_pair") (sc := defScope s_check_pair) (f := f) (cdv := cdv) (A := A) (outer := outer) (s := s) (H := H) (E := E)
  exact (s_one (s_if (PW.pt (g_or (g_not (g_tr rfl (g_vr (f_isiB T.i_tuple T.z_isinstance T.z_tuple (by decide +kernel) (g_peek 0))))) (g_or (g_tcmp (op_neU hr.units) sem_ne (g_vr (g_callB call_lenU kV_late sem_len T.z_len (by decide +kernel) (r_cons (g_peek 0) r_nil))) (g_vr g_int) rfl) (g_or (g_not (g_tr rfl (g_vr (f_call (ok_is_name T) (hr.mono (by decide)) tk (g_cons (g_sub rfl (hu_ofA hr) (g_peek 0) (g_vr g_int)) g_nil))))) (pw_or1 (g_not (g_tr rfl (g_vr (f_call (ok_is_number T) (hr.mono (by decide)) tk (g_cons (g_sub rfl (hu_ofA hr) (g_peek 0) (g_vr g_int)) (g_cons g_int (g_cons g_int g_nil)))))))))))) (s_one (f_raise2 (okx_BadPart T) (hr.mono (by decide)) rfl tk (g_cons g_str (g_cons g_non g_nil)))) s_nil))
theorem ok_check_pair (T : Txt K mg) : OkG P w K mg base 3 "check_pair" ["pair"] m_check_pair := okG_of T.g_check_pair (fun f fd F => F.binds fun _ _ _ _ _ _ us hl => match us, hl with | [_], _ => rfl) fun f fd F => fn_check_pair T F
/-! Registry.is_there -/
def b_Registry_is_there : SDen :=
  (sSeq (sDrop (eCall m_check_pair (aCons (eVar 1) aNil)))
  (sRet (e2 gEq (eGet1 (e1 (eAttC "up" ["Registry"]) (eVar 0)) (e2 gIx (ePeek 1) (eC (.int 0)))) (e2 gIx (ePeek 1) (eC (.int 1))))))
def m_Registry_is_there : CallF := callD 2 2 b_Registry_is_there
theorem sc_Registry_is_there : FnScope ["self", "pair"] ["self", "pair"] (defScope s_Registry_is_there) := ⟨rfl, rfl, rfl, by decide +kernel, rfl, by decide +kernel, by decide +kernel⟩
theorem fn_Registry_is_there (T : Txt K mg) {f : Addr} {fd : FuncData} (F : Fun K "is_there" "Registry.is_there" s_Registry_is_there f fd) : FnOk P w K mg base (L2.CX P w) 4 f fd ["self", "pair"] (spG K mg m_Registry_is_there) := by
  have nd := (sc_Registry_is_there).nd
  refine Fun.den (m := b_Registry_is_there) (N := ["self", "pair"]) (np := 2) (nl := 2) F sc_Registry_is_there rfl rfl fun cdv A outer s H E hr Γ hx => ?_
  have tk := takes_body (P := P) (w := w) (K := K) (mg := mg) (base := base) (N := ["self", "pair"]) (qual := "Registry.is_there") (sc := defScope s_Registry_is_there) (f := f) (cdv := cdv) (A := A) (outer := outer) (s := s) (H := H) (E := E)
  have ow := own_body (P := P) (w := w) (K := K) (mg := mg) (base := base) (N := ["self", "pair"]) (qual := "Registry.is_there") (sc := defScope s_Registry_is_there) (f := f) (cdv := cdv) (A := A) (outer := outer) (s := s) (H := H) (E := E)
  exact (s_cons (s_drop (f_call (ok_check_pair T) (hr.mono (by decide)) tk (g_cons (g_var 1) g_nil)))
    (s_one (s_ret (g_cmp (op_eqU hr.units) sem_eq (g_vr (g_get1 (hu_ofA hr) (g_vr (g_att (cs := ["Registry"]) rfl T.a_up_Registry (g_var 0))) (g_vr (g_sub rfl (hu_ofA hr) (g_peek 1) (g_vr g_int))) ⟨rfl, rfl, rfl, rfl⟩)) (g_vr (g_sub rfl (hu_ofA hr) (g_peek 1) (g_vr g_int))) rfl))))
theorem ok_Registry_is_there (T : Txt K mg) : OkM P w K mg base 4 "Registry" "is_there" ["self", "pair"] m_Registry_is_there := okM_of T.c_Registry T.m_Registry_is_there (fun f fd F => F.binds fun _ _ _ _ _ _ us hl => match us, hl with | [_, _], _ => rfl) fun f fd F => fn_Registry_is_there T F
/-! Registry.start -/
def b_Registry_start : SDen :=
  (sSeq (sDrop (eCall m_check_name (aCons (eC (.str "hand")) (aCons (eVar 1) aNil))))
  (sSeq (sIf (tB (e2 gIn (ePeek 1) (e1 (eAttC "up" ["Registry"]) (eVar 0)))) (sRaise "BadPart" ["part", "place"] (aCons (eC (.str "hand")) (aCons (eC .non) aNil))) sNil)
  (sSeq (sAtt "lives" ["Registry"] (eVar 0) (eDStar (e1 (eAttC "lives" ["Registry"]) (eVar 0)) (eVar 1) (e2 gAdd (eGet2 (e1 (eAttC "lives" ["Registry"]) (eVar 0)) (ePeek 1) (eC (.int 0))) (eC (.int 1)))))
  (sSeq (sAtt "up" ["Registry"] (eVar 0) (eDStar (e1 (eAttC "up" ["Registry"]) (eVar 0)) (eVar 1) (e2 gIx (e1 (eAttC "lives" ["Registry"]) (eVar 0)) (ePeek 1))))
  (sRet (eTup (aCons (eVar 1) (aCons (e2 gIx (e1 (eAttC "lives" ["Registry"]) (eVar 0)) (ePeek 1)) aNil))))))))
def m_Registry_start : CallF := callD 2 2 b_Registry_start
theorem sc_Registry_start : FnScope ["self", "hand"] ["self", "hand"] (defScope s_Registry_start) := ⟨rfl, rfl, rfl, by decide +kernel, rfl, by decide +kernel, by decide +kernel⟩
theorem fn_Registry_start (T : Txt K mg) {f : Addr} {fd : FuncData} (F : Fun K "start" "Registry.start" s_Registry_start f fd) : FnOk P w K mg base (L2.CX P w) 4 f fd ["self", "hand"] (spG K mg m_Registry_start) := by
  have nd := (sc_Registry_start).nd
  refine Fun.den (m := b_Registry_start) (N := ["self", "hand"]) (np := 2) (nl := 2) F sc_Registry_start rfl rfl fun cdv A outer s H E hr Γ hx => ?_
  have tk := takes_body (P := P) (w := w) (K := K) (mg := mg) (base := base) (N := ["self", "hand"]) (qual := "Registry.start") (sc := defScope s_Registry_start) (f := f) (cdv := cdv) (A := A) (outer := outer) (s := s) (H := H) (E := E)
  have ow := own_body (P := P) (w := w) (K := K) (mg := mg) (base := base) (N := ["self", "hand"]) (qual := "Registry.start") (sc := defScope s_Registry_start) (f := f) (cdv := cdv) (A := A) (outer := outer) (s := s) (H := H) (E := E)
  exact (s_cons (s_drop (f_call (ok_check_name T) (hr.mono (by decide)) tk (g_cons g_str (g_cons (g_var 1) g_nil))))
    (s_cons (s_if (g_tin hr.units (g_peek 1) (g_vr (g_att (cs := ["Registry"]) rfl T.a_up_Registry (g_var 0)))) (s_one (f_raise2 (okx_BadPart T) (hr.mono (by decide)) rfl tk (g_cons g_str (g_cons g_non g_nil)))) s_nil)
    (s_cons (s_att (cs := ["Registry"]) rfl T.a_lives_Registry (g_var 0) (g_ov (g_dstar (g_vr (g_att (cs := ["Registry"]) rfl T.a_lives_Registry (g_var 0))) (g_var 1) (g_bin op_addU kV_late sem_add (g_vr (g_get2 rfl (hu_ofA hr) (g_vr (g_att (cs := ["Registry"]) rfl T.a_lives_Registry (g_var 0))) (g_peek 1) g_int ⟨rfl, rfl, rfl, rfl⟩)) (g_vr g_int)))))
    (s_cons (s_att (cs := ["Registry"]) rfl T.a_up_Registry (g_var 0) (g_ov (g_dstar (g_vr (g_att (cs := ["Registry"]) rfl T.a_up_Registry (g_var 0))) (g_var 1) (g_sub rfl (hu_ofA hr) (g_vr (g_att (cs := ["Registry"]) rfl T.a_lives_Registry (g_var 0))) (g_peek 1)))))
    (s_one (s_ret (g_tup (g_cons (g_var 1) (g_cons (g_sub rfl (hu_ofA hr) (g_vr (g_att (cs := ["Registry"]) rfl T.a_lives_Registry (g_var 0))) (g_peek 1)) g_nil)))))))))
theorem ok_Registry_start (T : Txt K mg) : OkM P w K mg base 4 "Registry" "start" ["self", "hand"] m_Registry_start := okM_of T.c_Registry T.m_Registry_start (fun f fd F => F.binds fun _ _ _ _ _ _ us hl => match us, hl with | [_, _], _ => rfl) fun f fd F => fn_Registry_start T F
/-! Registry.take -/
def ce_Registry_take_0 : EDen :=
  (e2 gIx (e1 (eAttC "names" ["Registry"]) (eVar 0)) (ePeek 4))
theorem u_ce_Registry_take_0 (ρ : REnv) (st : Store) : ce_Registry_take_0 ρ st = (e2 gIx (e1 (eAttC "names" ["Registry"]) (eVar 0)) (ePeek 4)) ρ st := rfl
def ct_Registry_take_1 : TDen :=
  (tB (e2 gNe (ePeek 4) (ePeek 3)))
theorem u_ct_Registry_take_1 (ρ : REnv) (st : Store) : ct_Registry_take_1 ρ st = (tB (e2 gNe (ePeek 4) (ePeek 3))) ρ st := rfl
def b_Registry_take : SDen :=
  (sSeq (sDrop (eCall m_check_name (aCons (eC (.str "name")) (aCons (eVar 1) aNil))))
  (sSeq (sAsg 3 (eMethU [("Registry", m_Registry_name_of)] "name_of" (eVar 0) (aCons (eVar 2) aNil)))
  (sSeq (sIf (tAnd (tB (e2 gIn (ePeek 1) (e1 (eAttC "names" ["Registry"]) (eVar 0)))) (tB (e2 gNe (e2 gIx (e2 gIx (e1 (eAttC "names" ["Registry"]) (eVar 0)) (ePeek 1)) (eC (.int 0))) (ePeek 2)))) (sRaise "Taken" ["name"] (aCons (eVar 1) aNil)) sNil)
  (sSeq (sAtt "names" ["Registry"] (eVar 0) (eDComp (lD (e1 (eAttC "names" ["Registry"]) (eVar 0)) (fun p => keyD p.1)) (bName 4) ct_Registry_take_1 (eVar 4) ce_Registry_take_0 [4]))
  (sSeq (sAtt "names" ["Registry"] (eVar 0) (eDStar (e1 (eAttC "names" ["Registry"]) (eVar 0)) (eVar 1) (eTup (aCons (eVar 2) (aCons (e2 gIx (e1 (eAttC "up" ["Registry"]) (eVar 0)) (ePeek 2)) aNil)))))
  (sRet (eVar 3)))))))
def m_Registry_take : CallF := callD 3 5 b_Registry_take
theorem sc_Registry_take : FnScope ["self", "name", "hand", "mine", "one"] ["self", "name", "hand"] (defScope s_Registry_take) := ⟨rfl, rfl, rfl, by decide +kernel, rfl, by decide +kernel, by decide +kernel⟩
theorem fn_Registry_take (T : Txt K mg) {f : Addr} {fd : FuncData} (F : Fun K "take" "Registry.take" s_Registry_take f fd) : FnOk P w K mg base (L2.CX P w) 6 f fd ["self", "name", "hand"] (spG K mg m_Registry_take) := by
  have nd := (sc_Registry_take).nd
  refine Fun.den (m := b_Registry_take) (N := ["self", "name", "hand", "mine", "one"]) (np := 3) (nl := 5) F sc_Registry_take rfl rfl fun cdv A outer s H E hr Γ hx => ?_
  have tk := takes_body (P := P) (w := w) (K := K) (mg := mg) (base := base) (N := ["self", "name", "hand", "mine", "one"]) (qual := "Registry.take") (sc := defScope s_Registry_take) (f := f) (cdv := cdv) (A := A) (outer := outer) (s := s) (H := H) (E := E)
  have ow := own_body (P := P) (w := w) (K := K) (mg := mg) (base := base) (N := ["self", "name", "hand", "mine", "one"]) (qual := "Registry.take") (sc := defScope s_Registry_take) (f := f) (cdv := cdv) (A := A) (outer := outer) (s := s) (H := H) (E := E)
  exact (s_cons (s_drop (f_call (ok_check_name T) (hr.mono (by decide)) tk (g_cons g_str (g_cons (g_var 1) g_nil))))
    (s_cons (s_asg nd (f_meth (l := [("Registry", m_Registry_name_of)]) (.cons ((ok_Registry_name_of T).mono (k := 5) (by decide)) .nil) (hr.mono (by decide)) tk (g_var 0) (g_cons (g_var 2) g_nil)))
    (s_cons (s_if (PW.pt (g_and (g_tin hr.units (g_peek 1) (g_vr (g_att (cs := ["Registry"]) rfl T.a_names_Registry (g_var 0)))) (pw_and1 (g_tcmp (op_neU hr.units) sem_ne (g_vr (g_sub rfl (hu_ofA hr) (g_vr (g_sub rfl (hu_ofA hr) (g_vr (g_att (cs := ["Registry"]) rfl T.a_names_Registry (g_var 0))) (g_peek 1))) (g_vr g_int))) (g_peek 2) rfl)))) (s_one (f_raise1 (okx_Taken T) (hr.mono (by decide)) rfl tk (g_cons (g_var 1) g_nil))) s_nil)
    (s_cons (s_att (cs := ["Registry"]) rfl T.a_names_Registry (g_var 0) (g_ov (g_dcD (own := [("one", 4)]) rfl nd (wp_keys (kn_att (cs := ["Registry"]) rfl T.a_names_Registry (kn_var 0))) (blkOk_by (by kernel_rfl)) (fun _ _ _ _ _ _ => (b_name 4 nd)) (fun _ _ _ _ _ _ => (ts_one (g_tcmp (op_neU hr.units) sem_ne (g_peek 4) (g_peek 3) rfl))) (fun _ _ _ _ _ _ => (g_var 4)) (fun _ _ _ _ _ _ => (g_sub rfl (hu_ofA hr) (g_vr (g_att (cs := ["Registry"]) rfl T.a_names_Registry (g_var 0))) (g_peek 4))))))
    (s_cons (s_att (cs := ["Registry"]) rfl T.a_names_Registry (g_var 0) (g_ov (g_dstar (g_vr (g_att (cs := ["Registry"]) rfl T.a_names_Registry (g_var 0))) (g_var 1) (g_tup (g_cons (g_var 2) (g_cons (g_sub rfl (hu_ofA hr) (g_vr (g_att (cs := ["Registry"]) rfl T.a_up_Registry (g_var 0))) (g_peek 2)) g_nil))))))
    (s_one (s_ret (g_var 3))))))))
theorem ok_Registry_take (T : Txt K mg) : OkM P w K mg base 6 "Registry" "take" ["self", "name", "hand"] m_Registry_take := okM_of T.c_Registry T.m_Registry_take (fun f fd F => F.binds fun _ _ _ _ _ _ us hl => match us, hl with | [_, _, _], _ => rfl) fun f fd F => fn_Registry_take T F
/-! Registry.told -/
def ce_Registry_told_0 : EDen :=
  (e2 gIx (e1 (eAttC "names" ["Registry"]) (eVar 0)) (ePeek 1))
theorem u_ce_Registry_told_0 (ρ : REnv) (st : Store) : ce_Registry_told_0 ρ st = (e2 gIx (e1 (eAttC "names" ["Registry"]) (eVar 0)) (ePeek 1)) ρ st := rfl
def b_Registry_told : SDen :=
  (sRet (eDComp (lSeq (eN gSortKS (aCons (e1 (eAttC "names" ["Registry"]) (eVar 0)) aNil))) (bName 1) tYes (eVar 1) ce_Registry_told_0 [1]))
def m_Registry_told : CallF := callD 1 2 b_Registry_told
theorem sc_Registry_told : FnScope ["self", "name"] ["self"] (defScope s_Registry_told) := ⟨rfl, rfl, rfl, by decide +kernel, rfl, by decide +kernel, by decide +kernel⟩
theorem fn_Registry_told (T : Txt K mg) {f : Addr} {fd : FuncData} (F : Fun K "told" "Registry.told" s_Registry_told f fd) : FnOk P w K mg base (L2.CX P w) 1 f fd ["self"] (spG K mg m_Registry_told) := by
  have nd := (sc_Registry_told).nd
  refine Fun.den (m := b_Registry_told) (N := ["self", "name"]) (np := 1) (nl := 2) F sc_Registry_told rfl rfl fun cdv A outer s H E hr Γ hx => ?_
  have tk := takes_body (P := P) (w := w) (K := K) (mg := mg) (base := base) (N := ["self", "name"]) (qual := "Registry.told") (sc := defScope s_Registry_told) (f := f) (cdv := cdv) (A := A) (outer := outer) (s := s) (H := H) (E := E)
  have ow := own_body (P := P) (w := w) (K := K) (mg := mg) (base := base) (N := ["self", "name"]) (qual := "Registry.told") (sc := defScope s_Registry_told) (f := f) (cdv := cdv) (A := A) (outer := outer) (s := s) (H := H) (E := E)
  exact (s_one (s_ret (g_ov (g_dc (own := [("name", 1)]) rfl nd (i_gc (i_seq rfl (g_ov (g_callB (call_sortedD rfl) kO_late sem_sortKS T.z_sorted (by decide +kernel) (r_cons (g_vr (g_att (cs := ["Registry"]) rfl T.a_names_Registry (g_var 0))) r_nil))))) (blkOk_by (by kernel_rfl)) (fun _ _ _ _ _ => (b_name 1 nd)) (fun _ _ _ _ _ => ts_nil) (fun _ _ _ _ _ => (g_var 1)) (fun _ _ _ _ _ => (g_sub rfl (hu_ofA hr) (g_vr (g_att (cs := ["Registry"]) rfl T.a_names_Registry (g_var 0))) (g_peek 1)))))))
theorem ok_Registry_told (T : Txt K mg) : OkM P w K mg base 1 "Registry" "told" ["self"] m_Registry_told := okM_of T.c_Registry T.m_Registry_told (fun f fd F => F.binds fun _ _ _ _ _ _ us hl => match us, hl with | [_], _ => rfl) fun f fd F => fn_Registry_told T F
/-! _law_flat -/
def lb__law_flat_0 : SDen :=
  (sExt 1 (eVar 2))
theorem u_lb__law_flat_0 (ρ : REnv) (st : Store) : lb__law_flat_0 ρ st = (sExt 1 (eVar 2)) ρ st := rfl
def b__law_flat : SDen :=
  (sSeq (sAsgO 1 (eLst aNil))
  (sSeq (sFor (lSeq (eVar 0)) (bName 2) lb__law_flat_0)
  (sFrz [1] (sRet (eVar 1)))))
def m__law_flat : CallF := callD 1 3 b__law_flat
theorem sc__law_flat : FnScope ["lots", "found", "lot"] ["lots"] (defScope s__law_flat) := ⟨rfl, rfl, rfl, by decide +kernel, rfl, by decide +kernel, by decide +kernel⟩
theorem fn__law_flat (T : Txt K mg) {f : Addr} {fd : FuncData} (F : Fun K "_law_flat" "_law_flat" s__law_flat f fd) : FnOk P w K mg base (L2.CX P w) 1 f fd ["lots"] (spG K mg m__law_flat) := by
  have nd := (sc__law_flat).nd
  refine Fun.den (m := b__law_flat) (N := ["lots", "found", "lot"]) (np := 1) (nl := 3) F sc__law_flat rfl rfl fun cdv A outer s H E hr Γ hx => ?_
  have tk := takes_body (P := P) (w := w) (K := K) (mg := mg) (base := base) (N := ["lots", "found", "lot"]) (qual := "_law_flat") (sc := defScope s__law_flat) (f := f) (cdv := cdv) (A := A) (outer := outer) (s := s) (H := H) (E := E)
  have ow := own_body (P := P) (w := w) (K := K) (mg := mg) (base := base) (N := ["lots", "found", "lot"]) (qual := "_law_flat") (sc := defScope s__law_flat) (f := f) (cdv := cdv) (A := A) (outer := outer) (s := s) (H := H) (E := E)
  exact (s_cons (s_asgO nd (g_lst g_nil))
    (s_cons (s_for ow rfl (i_seq rfl (g_var 0)) (fun Γ => (b_name 2 nd)) (fun Γ q0 => (s_one (s_ext 1 nd (g_var 2)))))
    (s_one (s_frz [1] (s_ret (g_var 1))))))
theorem ok__law_flat (T : Txt K mg) : OkG P w K mg base 1 "_law_flat" ["lots"] m__law_flat := okG_of T.g__law_flat (fun f fd F => F.binds fun _ _ _ _ _ _ us hl => match us, hl with | [_], _ => rfl) fun f fd F => fn__law_flat T F
/-! _law_number -/
def lb__law_number_0 : SDen :=
  (sAsg 4 (e2 gFdiv (ePeek 4) (eC (.int 1009))))
theorem u_lb__law_number_0 (ρ : REnv) (st : Store) : lb__law_number_0 ρ st = (sAsg 4 (e2 gFdiv (ePeek 4) (eC (.int 1009)))) ρ st := rfl
def b__law_number : SDen :=
  (sSeq (sAsgT (bTup 2 (bCons (bName 2) (bCons (bName 3) bNil))) (eIf (tB (e2 gNe (ePeek 0) (eLst aNil))) (eTup (aCons (e2 gIx (ePeek 0) (e2 gMod (ePeek 1) (eN gLen (aCons (ePeek 0) aNil)))) (aCons (e2 gFdiv (ePeek 1) (eN gLen (aCons (ePeek 0) aNil))) aNil))) (eTup (aCons (eC (.int 12345)) (aCons (eC (.int 0)) aNil)))))
  (sSeq (sAsg 4 (eIf (tB (e2 gLt (ePeek 3) (eC (.int 60)))) (e2 gSub (ePeek 2) (e2 gPow (eC (.int 10)) (eC (.int 18)))) (eC (.int 0))))
  (sSeq (sFor (lRange1 (aCons (e2 gMod (eN gInt (aCons (ePeek 3) aNil)) (eC (.int 60))) aNil)) (bName 5) lb__law_number_0)
  (sSeq (sIf (tB (e2 gGt (ePeek 4) (eC (.int 0)))) (sRet (e2 gMod (eN gInt (aCons (ePeek 4) aNil)) (eC (.int 1009)))) sNil)
  (sSeq (sAsg 6 (e2 gMod (e2 gAddI (e2 gMul (eN gInt (aCons (e2 gAddI (ePeek 2) (e2 gMul (eC (.int 977)) (ePeek 1))) aNil)) (eC (.int 48271))) (e2 gMul (eC (.int 31)) (eN gLen (aCons (ePeek 0) aNil)))) (eC (.int 2147483647))))
  (sSeq (sAsg 6 (e2 gMod (e2 gAddI (e2 gMul (ePeek 6) (ePeek 6)) (e2 gMul (eC (.int 40503)) (ePeek 1))) (eC (.int 2147483629))))
  (sRet (eN gInt (aCons (e2 gMod (e2 gAddI (e2 gMul (ePeek 6) (eC (.int 69621))) (e2 gFdiv (ePeek 6) (eC (.int 977)))) (eC (.int 2147483587))) aNil)))))))))
def m__law_number : CallF := callD 2 7 b__law_number
theorem sc__law_number : FnScope ["script", "index", "cell", "turn", "rest", "step", "blend"] ["script", "index"] (defScope s__law_number) := ⟨rfl, rfl, rfl, by decide +kernel, rfl, by decide +kernel, by decide +kernel⟩
theorem fn__law_number (T : Txt K mg) {f : Addr} {fd : FuncData} (F : Fun K "_law_number" "_law_number" s__law_number f fd) : FnOk P w K mg base (L2.CX P w) 1 f fd ["script", "index"] (spG K mg m__law_number) := by
  have nd := (sc__law_number).nd
  refine Fun.den (m := b__law_number) (N := ["script", "index", "cell", "turn", "rest", "step", "blend"]) (np := 2) (nl := 7) F sc__law_number rfl rfl fun cdv A outer s H E hr Γ hx => ?_
  have tk := takes_body (P := P) (w := w) (K := K) (mg := mg) (base := base) (N := ["script", "index", "cell", "turn", "rest", "step", "blend"]) (qual := "_law_number") (sc := defScope s__law_number) (f := f) (cdv := cdv) (A := A) (outer := outer) (s := s) (H := H) (E := E)
  have ow := own_body (P := P) (w := w) (K := K) (mg := mg) (base := base) (N := ["script", "index", "cell", "turn", "rest", "step", "blend"]) (qual := "_law_number") (sc := defScope s__law_number) (f := f) (cdv := cdv) (A := A) (outer := outer) (s := s) (H := H) (E := E)
  exact (s_cons (s_asgT (g_if kV_late (g_tcmp (op_neU hr.units) sem_ne (g_peek 0) (g_vr (g_ov (g_lst g_nil))) rfl) (g_tup (g_cons (g_sub rfl (hu_ofA hr) (g_peek 0) (g_vr (g_bin op_mod kV_late sem_mod (g_peek 1) (g_vr (g_callB call_lenU kV_late sem_len T.z_len (by decide +kernel) (r_cons (g_peek 0) r_nil)))))) (g_cons (g_bin op_fdiv kV_late sem_fdiv (g_peek 1) (g_vr (g_callB call_lenU kV_late sem_len T.z_len (by decide +kernel) (r_cons (g_peek 0) r_nil)))) g_nil))) (g_tup (g_cons g_int (g_cons g_int g_nil)))) (b_tup rfl rfl (b_cons (b_name 2 nd) (b_cons (b_name 3 nd) b_nil))))
    (s_cons (s_asg nd (g_if kV_late (g_tcmp op_lt sem_lt (g_peek 3) (g_vr g_int) rfl) (g_bin op_sub kV_late sem_sub (g_peek 2) (g_vr (g_bin op_pow kV_late sem_pow (g_vr g_int) (g_vr g_int)))) g_int))
    (s_cons (s_for ow rfl (i_range1 T.z_range (g_cons (g_bin op_mod kV_late sem_mod (g_vr (g_callTy call_int1 kV_late sem_int T.z_int (by decide +kernel) (r_cons (g_peek 3) r_nil))) (g_vr g_int)) g_nil)) (fun Γ => (b_name 5 nd)) (fun Γ q0 => (s_one (s_asg nd (g_bin op_fdiv kV_late sem_fdiv (g_peek 4) (g_vr g_int))))))
    (s_cons (s_if (g_tcmp op_gt sem_gt (g_peek 4) (g_vr g_int) rfl) (s_one (s_ret (g_bin op_mod kV_late sem_mod (g_vr (g_callTy call_int1 kV_late sem_int T.z_int (by decide +kernel) (r_cons (g_peek 4) r_nil))) (g_vr g_int)))) s_nil)
    (s_cons (s_asg nd (g_bin op_mod kV_late sem_mod (g_vr (g_bin op_add kV_late sem_addI (g_vr (g_bin op_mul kV_late sem_mul (g_vr (g_callTy call_int1 kV_late sem_int T.z_int (by decide +kernel) (r_cons (g_vr (g_bin op_add kV_late sem_addI (g_peek 2) (g_vr (g_bin op_mul kV_late sem_mul (g_vr g_int) (g_peek 1))))) r_nil))) (g_vr g_int))) (g_vr (g_bin op_mul kV_late sem_mul (g_vr g_int) (g_vr (g_callB call_lenU kV_late sem_len T.z_len (by decide +kernel) (r_cons (g_peek 0) r_nil))))))) (g_vr g_int)))
    (s_cons (s_asg nd (g_bin op_mod kV_late sem_mod (g_vr (g_bin op_add kV_late sem_addI (g_vr (g_bin op_mul kV_late sem_mul (g_peek 6) (g_peek 6))) (g_vr (g_bin op_mul kV_late sem_mul (g_vr g_int) (g_peek 1))))) (g_vr g_int)))
    (s_one (s_ret (g_callTy call_int1 kV_late sem_int T.z_int (by decide +kernel) (r_cons (g_vr (g_bin op_mod kV_late sem_mod (g_vr (g_bin op_add kV_late sem_addI (g_vr (g_bin op_mul kV_late sem_mul (g_peek 6) (g_vr g_int))) (g_vr (g_bin op_fdiv kV_late sem_fdiv (g_peek 6) (g_vr g_int))))) (g_vr g_int))) r_nil))))))))))
theorem ok__law_number (T : Txt K mg) : OkG P w K mg base 1 "_law_number" ["script", "index"] m__law_number := okG_of T.g__law_number (fun f fd F => F.binds fun _ _ _ _ _ _ us hl => match us, hl with | [_, _], _ => rfl) fun f fd F => fn__law_number T F
/-! _law_take -/
def b__law_take : SDen :=
  (sSeq (sAugI (eVar 0) (eC (.int 1)) gAddI (eC (.int 1)))
  (sRet (e2 gMod (eN gInt (aCons (eCall m__law_number (aCons (e2 gIx (ePeek 0) (eC (.int 0))) (aCons (eN gInt (aCons (e2 gIx (ePeek 0) (eC (.int 1))) aNil)) aNil))) aNil)) (ePeek 1))))
def m__law_take : CallF := callD 2 2 b__law_take
theorem sc__law_take : FnScope ["draw", "many"] ["draw", "many"] (defScope s__law_take) := ⟨rfl, rfl, rfl, by decide +kernel, rfl, by decide +kernel, by decide +kernel⟩
theorem fn__law_take (T : Txt K mg) {f : Addr} {fd : FuncData} (F : Fun K "_law_take" "_law_take" s__law_take f fd) : FnOk P w K mg base (L2.CX P w) 2 f fd ["draw", "many"] (spG K mg m__law_take) := by
  have nd := (sc__law_take).nd
  refine Fun.den (m := b__law_take) (N := ["draw", "many"]) (np := 2) (nl := 2) F sc__law_take rfl rfl fun cdv A outer s H E hr Γ hx => ?_
  have tk := takes_body (P := P) (w := w) (K := K) (mg := mg) (base := base) (N := ["draw", "many"]) (qual := "_law_take") (sc := defScope s__law_take) (f := f) (cdv := cdv) (A := A) (outer := outer) (s := s) (H := H) (E := E)
  have ow := own_body (P := P) (w := w) (K := K) (mg := mg) (base := base) (N := ["draw", "many"]) (qual := "_law_take") (sc := defScope s__law_take) (f := f) (cdv := cdv) (A := A) (outer := outer) (s := s) (H := H) (E := E)
  exact (s_cons (s_augI rfl (g_var 0) g_int g_int iop_add sem_addI)
    (s_one (s_ret (g_bin op_mod kV_late sem_mod (g_vr (g_callTy call_int1 kV_late sem_int T.z_int (by decide +kernel) (r_cons (g_vr (f_call (ok__law_number T) (hr.mono (by decide)) tk (g_cons (g_sub rfl (hu_ofA hr) (g_peek 0) (g_vr g_int)) (g_cons (g_callTy call_int1 kV_late sem_int T.z_int (by decide +kernel) (r_cons (g_vr (g_sub rfl (hu_ofA hr) (g_peek 0) (g_vr g_int))) r_nil)) g_nil)))) r_nil))) (g_peek 1)))))
theorem ok__law_take (T : Txt K mg) : OkG P w K mg base 2 "_law_take" ["draw", "many"] m__law_take := okG_of T.g__law_take (fun f fd F => F.binds fun _ _ _ _ _ _ us hl => match us, hl with | [_, _], _ => rfl) fun f fd F => fn__law_take T F
/-! check_number -/
def b_check_number : SDen :=
  (sIf (tNot (tTr (eCall m_is_number (aCons (eVar 1) (aCons (eVar 2) (aCons (eVar 3) aNil)))))) (sRaise "BadPart" ["part", "place"] (aCons (eVar 0) (aCons (eC .non) aNil))) sNil)
def m_check_number : CallF := callD 4 4 b_check_number
theorem sc_check_number : FnScope ["part", "thing", "low", "high"] ["part", "thing", "low", "high"] (defScope s_check_number) := ⟨rfl, rfl, rfl, by decide +kernel, rfl, by decide +kernel, by decide +kernel⟩
theorem fn_check_number (T : Txt K mg) {f : Addr} {fd : FuncData} (F : Fun K "check_number" "check_number" s_check_number f fd) : FnOk P w K mg base (L2.CX P w) 3 f fd ["part", "thing", "low", "high"] (spG K mg m_check_number) := by
  have nd := (sc_check_number).nd
  refine Fun.den (m := b_check_number) (N := ["part", "thing", "low", "high"]) (np := 4) (nl := 4) F sc_check_number rfl rfl fun cdv A outer s H E hr Γ hx => ?_
  have tk := takes_body (P := P) (w := w) (K := K) (mg := mg) (base := base) (N := ["part", "thing", "low", "high"]) (qual := "check_number") (sc := defScope s_check_number) (f := f) (cdv := cdv) (A := A) (outer := outer) (s := s) (H := H) (E := E)
  have ow := own_body (P := P) (w := w) (K := K) (mg := mg) (base := base) (N := ["part", "thing", "low", "high"]) (qual := "check_number") (sc := defScope s_check_number) (f := f) (cdv := cdv) (A := A) (outer := outer) (s := s) (H := H) (E := E)
  exact (s_one (s_if (g_not (g_tr rfl (g_vr (f_call (ok_is_number T) (hr.mono (by decide)) tk (g_cons (g_var 1) (g_cons (g_var 2) (g_cons (g_var 3) g_nil))))))) (s_one (f_raise2 (okx_BadPart T) (hr.mono (by decide)) rfl tk (g_cons (g_var 0) (g_cons g_non g_nil)))) s_nil))
theorem ok_check_number (T : Txt K mg) : OkG P w K mg base 3 "check_number" ["part", "thing", "low", "high"] m_check_number := okG_of T.g_check_number (fun f fd F => F.binds fun _ _ _ _ _ _ us hl => match us, hl with | [_, _, _, _], _ => rfl) fun f fd F => fn_check_number T F
/-! most_taken -/
def b_most_taken : SDen :=
  (sSeq (sDrop (eCall m_check_number (aCons (eC (.str "jobs")) (aCons (eVar 0) (aCons (eC (.int 0)) (aCons (eC (.int 9999)) aNil))))))
  (sSeq (sDrop (eCall m_check_number (aCons (eC (.str "falls")) (aCons (eVar 1) (aCons (eC (.int 0)) (aCons (eC (.int 9999)) aNil))))))
  (sSeq (sDrop (eCall m_check_number (aCons (eC (.str "most")) (aCons (eVar 2) (aCons (eC (.int 1)) (aCons (eC (.int 9)) aNil))))))
  (sRet (eN gMin2 (aCons (e2 gAddI (ePeek 0) (ePeek 1)) (aCons (e2 gMul (ePeek 0) (ePeek 2)) aNil)))))))
def m_most_taken : CallF := callD 3 3 b_most_taken
theorem sc_most_taken : FnScope ["jobs", "falls", "most"] ["jobs", "falls", "most"] (defScope s_most_taken) := ⟨rfl, rfl, rfl, by decide +kernel, rfl, by decide +kernel, by decide +kernel⟩
theorem fn_most_taken (T : Txt K mg) {f : Addr} {fd : FuncData} (F : Fun K "most_taken" "most_taken" s_most_taken f fd) : FnOk P w K mg base (L2.CX P w) 4 f fd ["jobs", "falls", "most"] (spG K mg m_most_taken) := by
  have nd := (sc_most_taken).nd
  refine Fun.den (m := b_most_taken) (N := ["jobs", "falls", "most"]) (np := 3) (nl := 3) F sc_most_taken rfl rfl fun cdv A outer s H E hr Γ hx => ?_
  have tk := takes_body (P := P) (w := w) (K := K) (mg := mg) (base := base) (N := ["jobs", "falls", "most"]) (qual := "most_taken") (sc := defScope s_most_taken) (f := f) (cdv := cdv) (A := A) (outer := outer) (s := s) (H := H) (E := E)
  have ow := own_body (P := P) (w := w) (K := K) (mg := mg) (base := base) (N := ["jobs", "falls", "most"]) (qual := "most_taken") (sc := defScope s_most_taken) (f := f) (cdv := cdv) (A := A) (outer := outer) (s := s) (H := H) (E := E)
  exact (s_cons (s_drop (f_call (ok_check_number T) (hr.mono (by decide)) tk (g_cons g_str (g_cons (g_var 0) (g_cons g_int (g_cons g_int g_nil))))))
    (s_cons (s_drop (f_call (ok_check_number T) (hr.mono (by decide)) tk (g_cons g_str (g_cons (g_var 1) (g_cons g_int (g_cons g_int g_nil))))))
    (s_cons (s_drop (f_call (ok_check_number T) (hr.mono (by decide)) tk (g_cons g_str (g_cons (g_var 2) (g_cons g_int (g_cons g_int g_nil))))))
    (s_one (s_ret (g_callB (call_min2 rfl) kV_late sem_min2 T.z_min (by decide +kernel) (r_cons (g_vr (g_bin op_add kV_late sem_addI (g_peek 0) (g_peek 1))) (r_cons (g_vr (g_bin op_mul kV_late sem_mul (g_peek 0) (g_peek 2))) r_nil))))))))
theorem ok_most_taken (T : Txt K mg) : OkG P w K mg base 4 "most_taken" ["jobs", "falls", "most"] m_most_taken := okG_of T.g_most_taken (fun f fd F => F.binds fun _ _ _ _ _ _ us hl => match us, hl with | [_, _, _], _ => rfl) fun f fd F => fn_most_taken T F
/-! rounds -/
def b_rounds : SDen :=
  (sSeq (sDrop (eCall m_check_number (aCons (eC (.str "jobs")) (aCons (eVar 0) (aCons (eC (.int 0)) (aCons (eC (.int 9999)) aNil))))))
  (sSeq (sDrop (eCall m_check_number (aCons (eC (.str "many")) (aCons (eVar 1) (aCons (eC (.int 1)) (aCons (eC (.int 9)) aNil))))))
  (sRet (e2 gFdiv (e2 gSub (e2 gAddI (ePeek 0) (ePeek 1)) (eC (.int 1))) (ePeek 1)))))
def m_rounds : CallF := callD 2 2 b_rounds
theorem sc_rounds : FnScope ["jobs", "many"] ["jobs", "many"] (defScope s_rounds) := ⟨rfl, rfl, rfl, by decide +kernel, rfl, by decide +kernel, by decide +kernel⟩
theorem fn_rounds (T : Txt K mg) {f : Addr} {fd : FuncData} (F : Fun K "rounds" "rounds" s_rounds f fd) : FnOk P w K mg base (L2.CX P w) 4 f fd ["jobs", "many"] (spG K mg m_rounds) := by
  have nd := (sc_rounds).nd
  refine Fun.den (m := b_rounds) (N := ["jobs", "many"]) (np := 2) (nl := 2) F sc_rounds rfl rfl fun cdv A outer s H E hr Γ hx => ?_
  have tk := takes_body (P := P) (w := w) (K := K) (mg := mg) (base := base) (N := ["jobs", "many"]) (qual := "rounds") (sc := defScope s_rounds) (f := f) (cdv := cdv) (A := A) (outer := outer) (s := s) (H := H) (E := E)
  have ow := own_body (P := P) (w := w) (K := K) (mg := mg) (base := base) (N := ["jobs", "many"]) (qual := "rounds") (sc := defScope s_rounds) (f := f) (cdv := cdv) (A := A) (outer := outer) (s := s) (H := H) (E := E)
  exact (s_cons (s_drop (f_call (ok_check_number T) (hr.mono (by decide)) tk (g_cons g_str (g_cons (g_var 0) (g_cons g_int (g_cons g_int g_nil))))))
    (s_cons (s_drop (f_call (ok_check_number T) (hr.mono (by decide)) tk (g_cons g_str (g_cons (g_var 1) (g_cons g_int (g_cons (f_gn T.k_MOST_HANDS) g_nil))))))
    (s_one (s_ret (g_bin op_fdiv kV_late sem_fdiv (g_vr (g_bin op_sub kV_late sem_sub (g_vr (g_bin op_add kV_late sem_addI (g_peek 0) (g_peek 1))) (g_vr g_int))) (g_peek 1))))))
theorem ok_rounds (T : Txt K mg) : OkG P w K mg base 4 "rounds" ["jobs", "many"] m_rounds := okG_of T.g_rounds (fun f fd F => F.binds fun _ _ _ _ _ _ us hl => match us, hl with | [_, _], _ => rfl) fun f fd F => fn_rounds T F
/-! Crew.__init__ -/
def b_Crew___init__ : SDen :=
  (sSeq (sDrop (eCall m_check_number (aCons (eC (.str "many")) (aCons (eVar 1) (aCons (eC (.int 1)) (aCons (eC (.int 9)) aNil))))))
  (sSeq (sDrop (eCall m_check_number (aCons (eC (.str "most")) (aCons (eVar 2) (aCons (eC (.int 1)) (aCons (eC (.int 9)) aNil))))))
  (sSeq (sAtt "many" ["Crew"] (eVar 0) (eVar 1))
  (sSeq (sAtt "most" ["Crew"] (eVar 0) (eVar 2))
  (sSeq (sAtt "waiting" ["Crew"] (eVar 0) (eTup aNil))
  (sSeq (sAtt "held" ["Crew"] (eVar 0) (e2 gRepT (eTup (aCons (eC .non) aNil)) (ePeek 1)))
  (sSeq (sAtt "done" ["Crew"] (eVar 0) (eTup aNil))
  (sSeq (sAtt "aside" ["Crew"] (eVar 0) (eTup aNil))
  (sAtt "taken" ["Crew"] (eVar 0) (eDict pNil))))))))))
def m_Crew___init__ : CallF := callD 3 3 b_Crew___init__
theorem sc_Crew___init__ : FnScope ["self", "many", "most"] ["self", "many", "most"] (defScope s_Crew___init__) := ⟨rfl, rfl, rfl, by decide +kernel, rfl, by decide +kernel, by decide +kernel⟩
theorem fn_Crew___init__ (T : Txt K mg) {f : Addr} {fd : FuncData} (F : Fun K "__init__" "Crew.__init__" s_Crew___init__ f fd) : FnOk P w K mg base (L2.CX P w) 4 f fd ["self", "many", "most"] (spG K mg m_Crew___init__) := by
  have nd := (sc_Crew___init__).nd
  refine Fun.den (m := b_Crew___init__) (N := ["self", "many", "most"]) (np := 3) (nl := 3) F sc_Crew___init__ rfl rfl fun cdv A outer s H E hr Γ hx => ?_
  have tk := takes_body (P := P) (w := w) (K := K) (mg := mg) (base := base) (N := ["self", "many", "most"]) (qual := "Crew.__init__") (sc := defScope s_Crew___init__) (f := f) (cdv := cdv) (A := A) (outer := outer) (s := s) (H := H) (E := E)
  have ow := own_body (P := P) (w := w) (K := K) (mg := mg) (base := base) (N := ["self", "many", "most"]) (qual := "Crew.__init__") (sc := defScope s_Crew___init__) (f := f) (cdv := cdv) (A := A) (outer := outer) (s := s) (H := H) (E := E)
  exact (s_cons (s_drop (f_call (ok_check_number T) (hr.mono (by decide)) tk (g_cons g_str (g_cons (g_var 1) (g_cons g_int (g_cons (f_gn T.k_MOST_HANDS) g_nil))))))
    (s_cons (s_drop (f_call (ok_check_number T) (hr.mono (by decide)) tk (g_cons g_str (g_cons (g_var 2) (g_cons g_int (g_cons g_int g_nil))))))
    (s_cons (s_att (cs := ["Crew"]) rfl T.a_many_Crew (g_var 0) (g_var 1))
    (s_cons (s_att (cs := ["Crew"]) rfl T.a_most_Crew (g_var 0) (g_var 2))
    (s_cons (s_att (cs := ["Crew"]) rfl T.a_waiting_Crew (g_var 0) (g_tup g_nil))
    (s_cons (s_att (cs := ["Crew"]) rfl T.a_held_Crew (g_var 0) (g_bin op_repU kV_late sem_repT (g_vr (g_tup (g_cons g_non g_nil))) (g_peek 1)))
    (s_cons (s_att (cs := ["Crew"]) rfl T.a_done_Crew (g_var 0) (g_tup g_nil))
    (s_cons (s_att (cs := ["Crew"]) rfl T.a_aside_Crew (g_var 0) (g_tup g_nil))
    (s_one (s_att (cs := ["Crew"]) rfl T.a_taken_Crew (g_var 0) (g_ov g_dict0)))))))))))
theorem ok_Crew___init__ (T : Txt K mg) : OkM P w K mg base 4 "Crew" "__init__" ["self", "many", "most"] m_Crew___init__ := okM_of T.c_Crew T.m_Crew___init__ (fun f fd F => F.binds fun _ _ _ _ _ _ us hl => match us, hl with | [_, _, _], _ => rfl) fun f fd F => fn_Crew___init__ T F
/-! is_row -/
def b_is_row : SDen :=
  (sRet (e1 (gIsi ["list", "tuple"] [] []) (ePeek 0)))
def m_is_row : CallF := callD 1 1 b_is_row
theorem sc_is_row : FnScope ["thing"] ["thing"] (defScope s_is_row) := ⟨rfl, rfl, rfl, by decide +kernel, rfl, by decide +kernel, by decide +kernel⟩
theorem fn_is_row (T : Txt K mg) {f : Addr} {fd : FuncData} (F : Fun K "is_row" "is_row" s_is_row f fd) : FnOk P w K mg base (L2.CX P w) 1 f fd ["thing"] (spG K mg m_is_row) := by
  have nd := (sc_is_row).nd
  refine Fun.den (m := b_is_row) (N := ["thing"]) (np := 1) (nl := 1) F sc_is_row rfl rfl fun cdv A outer s H E hr Γ hx => ?_
  have tk := takes_body (P := P) (w := w) (K := K) (mg := mg) (base := base) (N := ["thing"]) (qual := "is_row") (sc := defScope s_is_row) (f := f) (cdv := cdv) (A := A) (outer := outer) (s := s) (H := H) (E := E)
  have ow := own_body (P := P) (w := w) (K := K) (mg := mg) (base := base) (N := ["thing"]) (qual := "is_row") (sc := defScope s_is_row) (f := f) (cdv := cdv) (A := A) (outer := outer) (s := s) (H := H) (E := E)
  exact (s_one (s_ret (f_isiB2 T.i_list_tuple T.z_isinstance T.z_list (by decide +kernel) T.z_tuple (by decide +kernel) (g_peek 0))))
theorem ok_is_row (T : Txt K mg) : OkG P w K mg base 1 "is_row" ["thing"] m_is_row := okG_of T.g_is_row (fun f fd F => F.binds fun _ _ _ _ _ _ us hl => match us, hl with | [_], _ => rfl) fun f fd F => fn_is_row T F
/-! check_deeds -/
def lb_check_deeds_0 : SDen :=
  (sSeq (sIf (tOr (tNot (tTr (e1 (gIsi ["tuple"] [] []) (ePeek 3)))) (tOr (tB (e2 gNe (eN gLen (aCons (ePeek 3) aNil)) (eC (.int 2)))) (tB (e2 gNotIn (e2 gIx (ePeek 3) (eC (.int 0))) (eTup (aCons (eC (.str "give")) (aCons (eC (.str "take")) (aCons (eC (.str "finish")) (aCons (eC (.str "fall")) aNil))))))))) (sRaise "BadPart" ["part", "place"] (aCons (eC (.str "deeds")) (aCons (eVar 2) aNil))) sNil)
  (sIf (tNot (tIf (tB (e2 gEq (e2 gIx (ePeek 3) (eC (.int 0))) (eC (.str "give")))) (tTr (eCall m_is_name (aCons (e2 gIx (ePeek 3) (eC (.int 1))) aNil))) (tTr (eCall m_is_number (aCons (e2 gIx (ePeek 3) (eC (.int 1))) (aCons (eC (.int 0)) (aCons (e2 gSub (ePeek 0) (eC (.int 1))) aNil))))))) (sRaise "BadPart" ["part", "place"] (aCons (eC (.str "deeds")) (aCons (eVar 2) aNil))) sNil))
theorem u_lb_check_deeds_0 (ρ : REnv) (st : Store) : lb_check_deeds_0 ρ st = (sSeq (sIf (tOr (tNot (tTr (e1 (gIsi ["tuple"] [] []) (ePeek 3)))) (tOr (tB (e2 gNe (eN gLen (aCons (ePeek 3) aNil)) (eC (.int 2)))) (tB (e2 gNotIn (e2 gIx (ePeek 3) (eC (.int 0))) (eTup (aCons (eC (.str "give")) (aCons (eC (.str "take")) (aCons (eC (.str "finish")) (aCons (eC (.str "fall")) aNil))))))))) (sRaise "BadPart" ["part", "place"] (aCons (eC (.str "deeds")) (aCons (eVar 2) aNil))) sNil)
  (sIf (tNot (tIf (tB (e2 gEq (e2 gIx (ePeek 3) (eC (.int 0))) (eC (.str "give")))) (tTr (eCall m_is_name (aCons (e2 gIx (ePeek 3) (eC (.int 1))) aNil))) (tTr (eCall m_is_number (aCons (e2 gIx (ePeek 3) (eC (.int 1))) (aCons (eC (.int 0)) (aCons (e2 gSub (ePeek 0) (eC (.int 1))) aNil))))))) (sRaise "BadPart" ["part", "place"] (aCons (eC (.str "deeds")) (aCons (eVar 2) aNil))) sNil)) ρ st := rfl
def b_check_deeds : SDen :=
  (sSeq (sIf (tNot (tTr (eCall m_is_row (aCons (eVar 1) aNil)))) (sRaise "BadPart" ["part", "place"] (aCons (eC (.str "deeds")) (aCons (eC .non) aNil))) sNil)
  (sFor (lEnumU (aCons (eVar 1) aNil)) (bTup 2 (bCons (bName 2) (bCons (bName 3) bNil))) lb_check_deeds_0))
def m_check_deeds : CallF := callD 2 4 b_check_deeds
theorem sc_check_deeds : FnScope ["many", "deeds", "place", "deed"] ["many", "deeds"] (defScope s_check_deeds) := ⟨rfl, rfl, rfl, by decide +kernel, rfl, by decide +kernel, by decide +kernel⟩
theorem fn_check_deeds (T : Txt K mg) {f : Addr} {fd : FuncData} (F : Fun K "check_deeds" "check_deeds" s_check_deeds f fd) : FnOk P w K mg base (L2.CX P w) 3 f fd ["many", "deeds"] (spG K mg m_check_deeds) := by
  have nd := (sc_check_deeds).nd
  refine Fun.den (m := b_check_deeds) (N := ["many", "deeds", "place", "deed"]) (np := 2) (nl := 4) F sc_check_deeds rfl rfl fun cdv A outer s H E hr Γ hx => ?_
  have tk := takes_body (P := P) (w := w) (K := K) (mg := mg) (base := base) (N := ["many", "deeds", "place", "deed"]) (qual := "check_deeds") (sc := defScope s_check_deeds) (f := f) (cdv := cdv) (A := A) (outer := outer) (s := s) (H := H) (E := E)
  have ow := own_body (P := P) (w := w) (K := K) (mg := mg) (base := base) (N := ["many", "deeds", "place", "deed"]) (qual := "check_deeds") (sc := defScope s_check_deeds) (f := f) (cdv := cdv) (A := A) (outer := outer) (s := s) (H := H) (E := E)
  exact (s_cons (s_if (g_not (g_tr rfl (g_vr (f_call (ok_is_row T) (hr.mono (by decide)) tk (g_cons (g_var 1) g_nil))))) (s_one (f_raise2 (okx_BadPart T) (hr.mono (by decide)) rfl tk (g_cons g_str (g_cons g_non g_nil)))) s_nil)
    (s_one (s_for ow rfl (i_enumU rfl T.z_enumerate (g_cons (g_var 1) g_nil)) (fun Γ => (b_tup rfl rfl (b_cons (b_name 2 nd) (b_cons (b_name 3 nd) b_nil)))) (fun Γ q0 => (s_cons (s_if (PW.pt (g_or (g_not (g_tr rfl (g_vr (f_isiB T.i_tuple T.z_isinstance T.z_tuple (by decide +kernel) (g_peek 3))))) (g_or (g_tcmp (op_neU hr.units) sem_ne (g_vr (g_callB call_lenU kV_late sem_len T.z_len (by decide +kernel) (r_cons (g_peek 3) r_nil))) (g_vr g_int) rfl) (pw_or1 (g_tnotIn hr.units (g_vr (g_sub rfl (hu_ofA hr) (g_peek 3) (g_vr g_int))) (g_vr (g_tup (g_cons g_str (g_cons g_str (g_cons g_str (g_cons g_str g_nil))))))))))) (s_one (f_raise2 (okx_BadPart T) (hr.mono (by decide)) rfl tk (g_cons g_str (g_cons (g_var 2) g_nil)))) s_nil)
    (s_one (s_if (g_not (g_tif (g_tcmp (op_eqU hr.units) sem_eq (g_vr (g_sub rfl (hu_ofA hr) (g_peek 3) (g_vr g_int))) (g_vr g_str) rfl) (g_tr rfl (g_vr (f_call (ok_is_name T) (hr.mono (by decide)) tk (g_cons (g_sub rfl (hu_ofA hr) (g_peek 3) (g_vr g_int)) g_nil)))) (g_tr rfl (g_vr (f_call (ok_is_number T) (hr.mono (by decide)) tk (g_cons (g_sub rfl (hu_ofA hr) (g_peek 3) (g_vr g_int)) (g_cons g_int (g_cons (g_bin op_sub kV_late sem_sub (g_peek 0) (g_vr g_int)) g_nil)))))))) (s_one (f_raise2 (okx_BadPart T) (hr.mono (by decide)) rfl tk (g_cons g_str (g_cons (g_var 2) g_nil)))) s_nil)))))))
theorem ok_check_deeds (T : Txt K mg) : OkG P w K mg base 3 "check_deeds" ["many", "deeds"] m_check_deeds := okG_of T.g_check_deeds (fun f fd F => F.binds fun _ _ _ _ _ _ us hl => match us, hl with | [_, _], _ => rfl) fun f fd F => fn_check_deeds T F
/-! Crew.check_hand -/
def b_Crew_check_hand : SDen :=
  (sIf (tNot (tTr (eCall m_is_number (aCons (eVar 1) (aCons (eC (.int 0)) (aCons (e2 gSub (e1 (eAttC "many" ["Crew"]) (eVar 0)) (eC (.int 1))) aNil)))))) (sRaise "BadPart" ["part", "place"] (aCons (eC (.str "hand")) (aCons (eC .non) aNil))) sNil)
def m_Crew_check_hand : CallF := callD 2 2 b_Crew_check_hand
theorem sc_Crew_check_hand : FnScope ["self", "hand"] ["self", "hand"] (defScope s_Crew_check_hand) := ⟨rfl, rfl, rfl, by decide +kernel, rfl, by decide +kernel, by decide +kernel⟩
theorem fn_Crew_check_hand (T : Txt K mg) {f : Addr} {fd : FuncData} (F : Fun K "check_hand" "Crew.check_hand" s_Crew_check_hand f fd) : FnOk P w K mg base (L2.CX P w) 3 f fd ["self", "hand"] (spG K mg m_Crew_check_hand) := by
  have nd := (sc_Crew_check_hand).nd
  refine Fun.den (m := b_Crew_check_hand) (N := ["self", "hand"]) (np := 2) (nl := 2) F sc_Crew_check_hand rfl rfl fun cdv A outer s H E hr Γ hx => ?_
  have tk := takes_body (P := P) (w := w) (K := K) (mg := mg) (base := base) (N := ["self", "hand"]) (qual := "Crew.check_hand") (sc := defScope s_Crew_check_hand) (f := f) (cdv := cdv) (A := A) (outer := outer) (s := s) (H := H) (E := E)
  have ow := own_body (P := P) (w := w) (K := K) (mg := mg) (base := base) (N := ["self", "hand"]) (qual := "Crew.check_hand") (sc := defScope s_Crew_check_hand) (f := f) (cdv := cdv) (A := A) (outer := outer) (s := s) (H := H) (E := E)
  exact (s_one (s_if (g_not (g_tr rfl (g_vr (f_call (ok_is_number T) (hr.mono (by decide)) tk (g_cons (g_var 1) (g_cons g_int (g_cons (g_bin op_sub kV_late sem_sub (g_vr (g_att (cs := ["Crew"]) rfl T.a_many_Crew (g_var 0))) (g_vr g_int)) g_nil))))))) (s_one (f_raise2 (okx_BadPart T) (hr.mono (by decide)) rfl tk (g_cons g_str (g_cons g_non g_nil)))) s_nil))
theorem ok_Crew_check_hand (T : Txt K mg) : OkM P w K mg base 3 "Crew" "check_hand" ["self", "hand"] m_Crew_check_hand := okM_of T.c_Crew T.m_Crew_check_hand (fun f fd F => F.binds fun _ _ _ _ _ _ us hl => match us, hl with | [_, _], _ => rfl) fun f fd F => fn_Crew_check_hand T F
/-! Crew.let_go -/
def b_Crew_let_go : SDen :=
  (sSeq (sDrop (eMethU [("Crew", m_Crew_check_hand)] "check_hand" (eVar 0) (aCons (eVar 1) aNil)))
  (sSeq (sAsg 2 (e2 gIx (e1 (eAttC "held" ["Crew"]) (eVar 0)) (ePeek 1)))
  (sSeq (sAtt "held" ["Crew"] (eVar 0) (eTup (aStar (eCut (e1 (eAttC "held" ["Crew"]) (eVar 0)) oNone (oSome (ePeek 1))) (aCons (eC .non) (aStar (eCut (e1 (eAttC "held" ["Crew"]) (eVar 0)) (oSome (e2 gAdd (ePeek 1) (eC (.int 1)))) oNone) aNil)))))
  (sRet (eVar 2)))))
def m_Crew_let_go : CallF := callD 2 3 b_Crew_let_go
theorem sc_Crew_let_go : FnScope ["self", "hand", "job"] ["self", "hand"] (defScope s_Crew_let_go) := ⟨rfl, rfl, rfl, by decide +kernel, rfl, by decide +kernel, by decide +kernel⟩
theorem fn_Crew_let_go (T : Txt K mg) {f : Addr} {fd : FuncData} (F : Fun K "let_go" "Crew.let_go" s_Crew_let_go f fd) : FnOk P w K mg base (L2.CX P w) 4 f fd ["self", "hand"] (spG K mg m_Crew_let_go) := by
  have nd := (sc_Crew_let_go).nd
  refine Fun.den (m := b_Crew_let_go) (N := ["self", "hand", "job"]) (np := 2) (nl := 3) F sc_Crew_let_go rfl rfl fun cdv A outer s H E hr Γ hx => ?_
  have tk := takes_body (P := P) (w := w) (K := K) (mg := mg) (base := base) (N := ["self", "hand", "job"]) (qual := "Crew.let_go") (sc := defScope s_Crew_let_go) (f := f) (cdv := cdv) (A := A) (outer := outer) (s := s) (H := H) (E := E)
  have ow := own_body (P := P) (w := w) (K := K) (mg := mg) (base := base) (N := ["self", "hand", "job"]) (qual := "Crew.let_go") (sc := defScope s_Crew_let_go) (f := f) (cdv := cdv) (A := A) (outer := outer) (s := s) (H := H) (E := E)
  exact (s_cons (s_drop (f_meth (l := [("Crew", m_Crew_check_hand)]) (.cons ((ok_Crew_check_hand T).mono (k := 3) (by decide)) .nil) (hr.mono (by decide)) tk (g_var 0) (g_cons (g_var 1) g_nil)))
    (s_cons (s_asg nd (g_sub rfl (hu_ofA hr) (g_vr (g_att (cs := ["Crew"]) rfl T.a_held_Crew (g_var 0))) (g_peek 1)))
    (s_cons (s_att (cs := ["Crew"]) rfl T.a_held_Crew (g_var 0) (g_tup (g_star rfl (g_vr (g_cut rfl (g_vr (g_att (cs := ["Crew"]) rfl T.a_held_Crew (g_var 0))) o_none (o_some (g_peek 1)))) (g_cons g_non (g_star rfl (g_vr (g_cut rfl (g_vr (g_att (cs := ["Crew"]) rfl T.a_held_Crew (g_var 0))) (o_some (g_vr (g_bin op_addU kV_late sem_add (g_peek 1) (g_vr g_int)))) o_none)) g_nil)))))
    (s_one (s_ret (g_var 2))))))
theorem ok_Crew_let_go (T : Txt K mg) : OkM P w K mg base 4 "Crew" "let_go" ["self", "hand"] m_Crew_let_go := okM_of T.c_Crew T.m_Crew_let_go (fun f fd F => F.binds fun _ _ _ _ _ _ us hl => match us, hl with | [_, _], _ => rfl) fun f fd F => fn_Crew_let_go T F
/-! Crew.fall -/
def b_Crew_fall : SDen :=
  (sSeq (sAsg 2 (eMethU [("Crew", m_Crew_let_go)] "let_go" (eVar 0) (aCons (eVar 1) aNil)))
  (sSeq (sIf (tAnd (tB (e2 gIsNot (ePeek 2) (eC .non))) (tB (e2 gLt (e2 gIx (e1 (eAttC "taken" ["Crew"]) (eVar 0)) (ePeek 2)) (e1 (eAttC "most" ["Crew"]) (eVar 0))))) (sAtt "waiting" ["Crew"] (eVar 0) (eTup (aCons (eVar 2) (aStar (e1 (eAttC "waiting" ["Crew"]) (eVar 0)) aNil)))) (sIf (tB (e2 gIsNot (ePeek 2) (eC .non))) (sAtt "aside" ["Crew"] (eVar 0) (eTup (aStar (e1 (eAttC "aside" ["Crew"]) (eVar 0)) (aCons (eVar 2) aNil)))) sNil))
  (sRet (eVar 2))))
def m_Crew_fall : CallF := callD 2 3 b_Crew_fall
theorem sc_Crew_fall : FnScope ["self", "hand", "job"] ["self", "hand"] (defScope s_Crew_fall) := ⟨rfl, rfl, rfl, by decide +kernel, rfl, by decide +kernel, by decide +kernel⟩
theorem fn_Crew_fall (T : Txt K mg) {f : Addr} {fd : FuncData} (F : Fun K "fall" "Crew.fall" s_Crew_fall f fd) : FnOk P w K mg base (L2.CX P w) 5 f fd ["self", "hand"] (spG K mg m_Crew_fall) := by
  have nd := (sc_Crew_fall).nd
  refine Fun.den (m := b_Crew_fall) (N := ["self", "hand", "job"]) (np := 2) (nl := 3) F sc_Crew_fall rfl rfl fun cdv A outer s H E hr Γ hx => ?_
  have tk := takes_body (P := P) (w := w) (K := K) (mg := mg) (base := base) (N := ["self", "hand", "job"]) (qual := "Crew.fall") (sc := defScope s_Crew_fall) (f := f) (cdv := cdv) (A := A) (outer := outer) (s := s) (H := H) (E := E)
  have ow := own_body (P := P) (w := w) (K := K) (mg := mg) (base := base) (N := ["self", "hand", "job"]) (qual := "Crew.fall") (sc := defScope s_Crew_fall) (f := f) (cdv := cdv) (A := A) (outer := outer) (s := s) (H := H) (E := E)
  exact (s_cons (s_asg nd (f_meth (l := [("Crew", m_Crew_let_go)]) (.cons ((ok_Crew_let_go T).mono (k := 4) (by decide)) .nil) (hr.mono (by decide)) tk (g_var 0) (g_cons (g_var 1) g_nil)))
    (s_cons (s_if (PW.pt (g_and (g_tcmp op_notN sem_isNot (g_peek 2) (g_vr g_non) rfl) (pw_and1 (g_tcmp op_lt sem_lt (g_vr (g_sub rfl (hu_ofA hr) (g_vr (g_att (cs := ["Crew"]) rfl T.a_taken_Crew (g_var 0))) (g_peek 2))) (g_vr (g_att (cs := ["Crew"]) rfl T.a_most_Crew (g_var 0))) rfl)))) (s_one (s_att (cs := ["Crew"]) rfl T.a_waiting_Crew (g_var 0) (g_tup (g_cons (g_var 2) (g_star rfl (g_vr (g_att (cs := ["Crew"]) rfl T.a_waiting_Crew (g_var 0))) g_nil))))) (s_one (s_if (g_tcmp op_notN sem_isNot (g_peek 2) (g_vr g_non) rfl) (s_one (s_att (cs := ["Crew"]) rfl T.a_aside_Crew (g_var 0) (g_tup (g_star rfl (g_vr (g_att (cs := ["Crew"]) rfl T.a_aside_Crew (g_var 0))) (g_cons (g_var 2) g_nil))))) s_nil)))
    (s_one (s_ret (g_var 2)))))
theorem ok_Crew_fall (T : Txt K mg) : OkM P w K mg base 5 "Crew" "fall" ["self", "hand"] m_Crew_fall := okM_of T.c_Crew T.m_Crew_fall (fun f fd F => F.binds fun _ _ _ _ _ _ us hl => match us, hl with | [_, _], _ => rfl) fun f fd F => fn_Crew_fall T F
/-! Crew.finish -/
def b_Crew_finish : SDen :=
  (sSeq (sAsg 2 (eMethU [("Crew", m_Crew_let_go)] "let_go" (eVar 0) (aCons (eVar 1) aNil)))
  (sSeq (sIf (tB (e2 gIs (ePeek 2) (eC .non))) (sRaise "BadPart" ["part", "place"] (aCons (eC (.str "hand")) (aCons (eC .non) aNil))) sNil)
  (sSeq (sAtt "done" ["Crew"] (eVar 0) (eTup (aStar (e1 (eAttC "done" ["Crew"]) (eVar 0)) (aCons (eVar 2) aNil))))
  (sRet (eVar 2)))))
def m_Crew_finish : CallF := callD 2 3 b_Crew_finish
theorem sc_Crew_finish : FnScope ["self", "hand", "job"] ["self", "hand"] (defScope s_Crew_finish) := ⟨rfl, rfl, rfl, by decide +kernel, rfl, by decide +kernel, by decide +kernel⟩
theorem fn_Crew_finish (T : Txt K mg) {f : Addr} {fd : FuncData} (F : Fun K "finish" "Crew.finish" s_Crew_finish f fd) : FnOk P w K mg base (L2.CX P w) 5 f fd ["self", "hand"] (spG K mg m_Crew_finish) := by
  have nd := (sc_Crew_finish).nd
  refine Fun.den (m := b_Crew_finish) (N := ["self", "hand", "job"]) (np := 2) (nl := 3) F sc_Crew_finish rfl rfl fun cdv A outer s H E hr Γ hx => ?_
  have tk := takes_body (P := P) (w := w) (K := K) (mg := mg) (base := base) (N := ["self", "hand", "job"]) (qual := "Crew.finish") (sc := defScope s_Crew_finish) (f := f) (cdv := cdv) (A := A) (outer := outer) (s := s) (H := H) (E := E)
  have ow := own_body (P := P) (w := w) (K := K) (mg := mg) (base := base) (N := ["self", "hand", "job"]) (qual := "Crew.finish") (sc := defScope s_Crew_finish) (f := f) (cdv := cdv) (A := A) (outer := outer) (s := s) (H := H) (E := E)
  exact (s_cons (s_asg nd (f_meth (l := [("Crew", m_Crew_let_go)]) (.cons ((ok_Crew_let_go T).mono (k := 4) (by decide)) .nil) (hr.mono (by decide)) tk (g_var 0) (g_cons (g_var 1) g_nil)))
    (s_cons (s_if (g_tcmp op_isN sem_is (g_peek 2) (g_vr g_non) rfl) (s_one (f_raise2 (okx_BadPart T) (hr.mono (by decide)) rfl tk (g_cons g_str (g_cons g_non g_nil)))) s_nil)
    (s_cons (s_att (cs := ["Crew"]) rfl T.a_done_Crew (g_var 0) (g_tup (g_star rfl (g_vr (g_att (cs := ["Crew"]) rfl T.a_done_Crew (g_var 0))) (g_cons (g_var 2) g_nil))))
    (s_one (s_ret (g_var 2))))))
theorem ok_Crew_finish (T : Txt K mg) : OkM P w K mg base 5 "Crew" "finish" ["self", "hand"] m_Crew_finish := okM_of T.c_Crew T.m_Crew_finish (fun f fd F => F.binds fun _ _ _ _ _ _ us hl => match us, hl with | [_, _], _ => rfl) fun f fd F => fn_Crew_finish T F
/-! Crew.give -/
def b_Crew_give : SDen :=
  (sSeq (sIf (tOr (tNot (tTr (eCall m_is_name (aCons (eVar 1) aNil)))) (tB (e2 gIn (ePeek 1) (e1 (eAttC "taken" ["Crew"]) (eVar 0))))) (sRaise "BadPart" ["part", "place"] (aCons (eC (.str "job")) (aCons (eC .non) aNil))) sNil)
  (sSeq (sAtt "taken" ["Crew"] (eVar 0) (eDStar (e1 (eAttC "taken" ["Crew"]) (eVar 0)) (eVar 1) (eC (.int 0))))
  (sSeq (sAtt "waiting" ["Crew"] (eVar 0) (eTup (aStar (e1 (eAttC "waiting" ["Crew"]) (eVar 0)) (aCons (eVar 1) aNil))))
  (sRet (eN gLen (aCons (e1 (eAttC "waiting" ["Crew"]) (eVar 0)) aNil))))))
def m_Crew_give : CallF := callD 2 2 b_Crew_give
theorem sc_Crew_give : FnScope ["self", "job"] ["self", "job"] (defScope s_Crew_give) := ⟨rfl, rfl, rfl, by decide +kernel, rfl, by decide +kernel, by decide +kernel⟩
theorem fn_Crew_give (T : Txt K mg) {f : Addr} {fd : FuncData} (F : Fun K "give" "Crew.give" s_Crew_give f fd) : FnOk P w K mg base (L2.CX P w) 3 f fd ["self", "job"] (spG K mg m_Crew_give) := by
  have nd := (sc_Crew_give).nd
  refine Fun.den (m := b_Crew_give) (N := ["self", "job"]) (np := 2) (nl := 2) F sc_Crew_give rfl rfl fun cdv A outer s H E hr Γ hx => ?_
  have tk := takes_body (P := P) (w := w) (K := K) (mg := mg) (base := base) (N := ["self", "job"]) (qual := "Crew.give") (sc := defScope s_Crew_give) (f := f) (cdv := cdv) (A := A) (outer := outer) (s := s) (H := H) (E := E)
  have ow := own_body (P := P) (w := w) (K := K) (mg := mg) (base := base) (N := ["self", "job"]) (qual := "Crew.give") (sc := defScope s_Crew_give) (f := f) (cdv := cdv) (A := A) (outer := outer) (s := s) (H := H) (E := E)
  exact (s_cons (s_if (PW.pt (g_or (g_not (g_tr rfl (g_vr (f_call (ok_is_name T) (hr.mono (by decide)) tk (g_cons (g_var 1) g_nil))))) (pw_or1 (g_tin hr.units (g_peek 1) (g_vr (g_att (cs := ["Crew"]) rfl T.a_taken_Crew (g_var 0))))))) (s_one (f_raise2 (okx_BadPart T) (hr.mono (by decide)) rfl tk (g_cons g_str (g_cons g_non g_nil)))) s_nil)
    (s_cons (s_att (cs := ["Crew"]) rfl T.a_taken_Crew (g_var 0) (g_ov (g_dstar (g_vr (g_att (cs := ["Crew"]) rfl T.a_taken_Crew (g_var 0))) (g_var 1) g_int)))
    (s_cons (s_att (cs := ["Crew"]) rfl T.a_waiting_Crew (g_var 0) (g_tup (g_star rfl (g_vr (g_att (cs := ["Crew"]) rfl T.a_waiting_Crew (g_var 0))) (g_cons (g_var 1) g_nil))))
    (s_one (s_ret (g_callB call_lenU kV_late sem_len T.z_len (by decide +kernel) (r_cons (g_vr (g_att (cs := ["Crew"]) rfl T.a_waiting_Crew (g_var 0))) r_nil)))))))
theorem ok_Crew_give (T : Txt K mg) : OkM P w K mg base 3 "Crew" "give" ["self", "job"] m_Crew_give := okM_of T.c_Crew T.m_Crew_give (fun f fd F => F.binds fun _ _ _ _ _ _ us hl => match us, hl with | [_, _], _ => rfl) fun f fd F => fn_Crew_give T F
/-! Crew.take -/
def b_Crew_take : SDen :=
  (sSeq (sDrop (eMethU [("Crew", m_Crew_check_hand)] "check_hand" (eVar 0) (aCons (eVar 1) aNil)))
  (sSeq (sIf (tB (e2 gIsNot (e2 gIx (e1 (eAttC "held" ["Crew"]) (eVar 0)) (ePeek 1)) (eC .non))) (sRaise "BadPart" ["part", "place"] (aCons (eC (.str "hand")) (aCons (eC .non) aNil))) sNil)
  (sSeq (sIf (tB (e2 gEq (e1 (eAttC "waiting" ["Crew"]) (eVar 0)) (eTup aNil))) (sRet (eC .non)) sNil)
  (sSeq (sAsg 2 (e2 gIx (e1 (eAttC "waiting" ["Crew"]) (eVar 0)) (eC (.int 0))))
  (sSeq (sAtt "waiting" ["Crew"] (eVar 0) (eCut (e1 (eAttC "waiting" ["Crew"]) (eVar 0)) (oSome (eC (.int 1))) oNone))
  (sSeq (sAtt "held" ["Crew"] (eVar 0) (eTup (aStar (eCut (e1 (eAttC "held" ["Crew"]) (eVar 0)) oNone (oSome (ePeek 1))) (aCons (eVar 2) (aStar (eCut (e1 (eAttC "held" ["Crew"]) (eVar 0)) (oSome (e2 gAdd (ePeek 1) (eC (.int 1)))) oNone) aNil)))))
  (sSeq (sAtt "taken" ["Crew"] (eVar 0) (eDStar (e1 (eAttC "taken" ["Crew"]) (eVar 0)) (eVar 2) (e2 gAdd (e2 gIx (e1 (eAttC "taken" ["Crew"]) (eVar 0)) (ePeek 2)) (eC (.int 1)))))
  (sRet (eVar 2)))))))))
def m_Crew_take : CallF := callD 2 3 b_Crew_take
theorem sc_Crew_take : FnScope ["self", "hand", "job"] ["self", "hand"] (defScope s_Crew_take) := ⟨rfl, rfl, rfl, by decide +kernel, rfl, by decide +kernel, by decide +kernel⟩
theorem fn_Crew_take (T : Txt K mg) {f : Addr} {fd : FuncData} (F : Fun K "take" "Crew.take" s_Crew_take f fd) : FnOk P w K mg base (L2.CX P w) 4 f fd ["self", "hand"] (spG K mg m_Crew_take) := by
  have nd := (sc_Crew_take).nd
  refine Fun.den (m := b_Crew_take) (N := ["self", "hand", "job"]) (np := 2) (nl := 3) F sc_Crew_take rfl rfl fun cdv A outer s H E hr Γ hx => ?_
  have tk := takes_body (P := P) (w := w) (K := K) (mg := mg) (base := base) (N := ["self", "hand", "job"]) (qual := "Crew.take") (sc := defScope s_Crew_take) (f := f) (cdv := cdv) (A := A) (outer := outer) (s := s) (H := H) (E := E)
  have ow := own_body (P := P) (w := w) (K := K) (mg := mg) (base := base) (N := ["self", "hand", "job"]) (qual := "Crew.take") (sc := defScope s_Crew_take) (f := f) (cdv := cdv) (A := A) (outer := outer) (s := s) (H := H) (E := E)
  exact (s_cons (s_drop (f_meth (l := [("Crew", m_Crew_check_hand)]) (.cons ((ok_Crew_check_hand T).mono (k := 3) (by decide)) .nil) (hr.mono (by decide)) tk (g_var 0) (g_cons (g_var 1) g_nil)))
    (s_cons (s_if (g_tcmp op_notN sem_isNot (g_vr (g_sub rfl (hu_ofA hr) (g_vr (g_att (cs := ["Crew"]) rfl T.a_held_Crew (g_var 0))) (g_peek 1))) (g_vr g_non) rfl) (s_one (f_raise2 (okx_BadPart T) (hr.mono (by decide)) rfl tk (g_cons g_str (g_cons g_non g_nil)))) s_nil)
    (s_cons (s_if (g_tcmp (op_eqU hr.units) sem_eq (g_vr (g_att (cs := ["Crew"]) rfl T.a_waiting_Crew (g_var 0))) (g_vr (g_tup g_nil)) rfl) (s_one (s_ret g_non)) s_nil)
    (s_cons (s_asg nd (g_sub rfl (hu_ofA hr) (g_vr (g_att (cs := ["Crew"]) rfl T.a_waiting_Crew (g_var 0))) (g_vr g_int)))
    (s_cons (s_att (cs := ["Crew"]) rfl T.a_waiting_Crew (g_var 0) (g_cut rfl (g_vr (g_att (cs := ["Crew"]) rfl T.a_waiting_Crew (g_var 0))) (o_some (g_vr g_int)) o_none))
    (s_cons (s_att (cs := ["Crew"]) rfl T.a_held_Crew (g_var 0) (g_tup (g_star rfl (g_vr (g_cut rfl (g_vr (g_att (cs := ["Crew"]) rfl T.a_held_Crew (g_var 0))) o_none (o_some (g_peek 1)))) (g_cons (g_var 2) (g_star rfl (g_vr (g_cut rfl (g_vr (g_att (cs := ["Crew"]) rfl T.a_held_Crew (g_var 0))) (o_some (g_vr (g_bin op_addU kV_late sem_add (g_peek 1) (g_vr g_int)))) o_none)) g_nil)))))
    (s_cons (s_att (cs := ["Crew"]) rfl T.a_taken_Crew (g_var 0) (g_ov (g_dstar (g_vr (g_att (cs := ["Crew"]) rfl T.a_taken_Crew (g_var 0))) (g_var 2) (g_bin op_addU kV_late sem_add (g_vr (g_sub rfl (hu_ofA hr) (g_vr (g_att (cs := ["Crew"]) rfl T.a_taken_Crew (g_var 0))) (g_peek 2))) (g_vr g_int)))))
    (s_one (s_ret (g_var 2))))))))))
theorem ok_Crew_take (T : Txt K mg) : OkM P w K mg base 4 "Crew" "take" ["self", "hand"] m_Crew_take := okM_of T.c_Crew T.m_Crew_take (fun f fd F => F.binds fun _ _ _ _ _ _ us hl => match us, hl with | [_, _], _ => rfl) fun f fd F => fn_Crew_take T F
/-! do -/
def b_do : SDen :=
  (sSeq (sIf (tB (e2 gEq (ePeek 1) (eC (.str "give")))) (sRet (eMethU [("Crew", m_Crew_give)] "give" (eVar 0) (aCons (eVar 2) aNil))) sNil)
  (sSeq (sIf (tB (e2 gEq (ePeek 1) (eC (.str "take")))) (sRet (eMethU [("Crew", m_Crew_take)] "take" (eVar 0) (aCons (eVar 2) aNil))) sNil)
  (sRet (eIf (tB (e2 gEq (ePeek 1) (eC (.str "finish")))) (eMethU [("Crew", m_Crew_finish)] "finish" (eVar 0) (aCons (eVar 2) aNil)) (eMethU [("Crew", m_Crew_fall)] "fall" (eVar 0) (aCons (eVar 2) aNil))))))
def m_do : CallF := callD 3 3 b_do
theorem sc_do : FnScope ["crew", "word", "thing"] ["crew", "word", "thing"] (defScope s_do) := ⟨rfl, rfl, rfl, by decide +kernel, rfl, by decide +kernel, by decide +kernel⟩
theorem fn_do (T : Txt K mg) {f : Addr} {fd : FuncData} (F : Fun K "do" "do" s_do f fd) : FnOk P w K mg base (L2.CX P w) 6 f fd ["crew", "word", "thing"] (spG K mg m_do) := by
  have nd := (sc_do).nd
  refine Fun.den (m := b_do) (N := ["crew", "word", "thing"]) (np := 3) (nl := 3) F sc_do rfl rfl fun cdv A outer s H E hr Γ hx => ?_
  have tk := takes_body (P := P) (w := w) (K := K) (mg := mg) (base := base) (N := ["crew", "word", "thing"]) (qual := "do") (sc := defScope s_do) (f := f) (cdv := cdv) (A := A) (outer := outer) (s := s) (H := H) (E := E)
  have ow := own_body (P := P) (w := w) (K := K) (mg := mg) (base := base) (N := ["crew", "word", "thing"]) (qual := "do") (sc := defScope s_do) (f := f) (cdv := cdv) (A := A) (outer := outer) (s := s) (H := H) (E := E)
  exact (s_cons (s_if (g_tcmp (op_eqU hr.units) sem_eq (g_peek 1) (g_vr g_str) rfl) (s_one (s_ret (f_meth (l := [("Crew", m_Crew_give)]) (.cons ((ok_Crew_give T).mono (k := 3) (by decide)) .nil) (hr.mono (by decide)) tk (g_var 0) (g_cons (g_var 2) g_nil)))) s_nil)
    (s_cons (s_if (g_tcmp (op_eqU hr.units) sem_eq (g_peek 1) (g_vr g_str) rfl) (s_one (s_ret (f_meth (l := [("Crew", m_Crew_take)]) (.cons ((ok_Crew_take T).mono (k := 4) (by decide)) .nil) (hr.mono (by decide)) tk (g_var 0) (g_cons (g_var 2) g_nil)))) s_nil)
    (s_one (s_ret (g_if kV_late (g_tcmp (op_eqU hr.units) sem_eq (g_peek 1) (g_vr g_str) rfl) (f_meth (l := [("Crew", m_Crew_finish)]) (.cons ((ok_Crew_finish T).mono (k := 5) (by decide)) .nil) (hr.mono (by decide)) tk (g_var 0) (g_cons (g_var 2) g_nil)) (f_meth (l := [("Crew", m_Crew_fall)]) (.cons ((ok_Crew_fall T).mono (k := 5) (by decide)) .nil) (hr.mono (by decide)) tk (g_var 0) (g_cons (g_var 2) g_nil)))))))
theorem ok_do (T : Txt K mg) : OkG P w K mg base 6 "do" ["crew", "word", "thing"] m_do := okG_of T.g_do (fun f fd F => F.binds fun _ _ _ _ _ _ us hl => match us, hl with | [_, _, _], _ => rfl) fun f fd F => fn_do T F
/-! run_crew -/
def lb_run_crew_1 : SDen :=
  (sDrop (eCall m_do (aCons (eVar 3) (aCons (eVar 5) (aCons (eVar 6) aNil)))))
theorem u_lb_run_crew_1 (ρ : REnv) (st : Store) : lb_run_crew_1 ρ st = (sDrop (eCall m_do (aCons (eVar 3) (aCons (eVar 5) (aCons (eVar 6) aNil))))) ρ st := rfl
def lb_run_crew_2 : SDen :=
  sBad
theorem u_lb_run_crew_2 (ρ : REnv) (st : Store) : lb_run_crew_2 ρ st = sBad ρ st := rfl
def lb_run_crew_3 : SDen :=
  (sTry ["BadPart", "Taken"] ["BadPart"] lb_run_crew_1 lb_run_crew_2)
theorem u_lb_run_crew_3 (ρ : REnv) (st : Store) : lb_run_crew_3 ρ st = (sTry ["BadPart", "Taken"] ["BadPart"] lb_run_crew_1 lb_run_crew_2) ρ st := rfl
def b_run_crew : SDen :=
  (sSeq (sAsg 3 (eMakeM "Crew" m_Crew___init__ (aCons (eVar 0) (aCons (eVar 1) aNil))))
  (sSeq (sDrop (eCall m_check_deeds (aCons (eVar 0) (aCons (eVar 2) aNil))))
  (sSeq (sFor (lEnumU (aCons (eVar 2) aNil)) (bTup 2 (bCons (bName 4) (bCons (bTup 2 (bCons (bName 5) (bCons (bName 6) bNil))) bNil))) lb_run_crew_3)
  (sRet (eVar 3)))))
def m_run_crew : CallF := callD 3 7 b_run_crew
theorem sc_run_crew : FnScope ["many", "most", "deeds", "crew", "place", "word", "thing"] ["many", "most", "deeds"] (defScope s_run_crew) := ⟨rfl, rfl, rfl, by decide +kernel, rfl, by decide +kernel, by decide +kernel⟩
theorem fn_run_crew (T : Txt K mg) {f : Addr} {fd : FuncData} (F : Fun K "run_crew" "run_crew" s_run_crew f fd) : FnOk P w K mg base (L2.CX P w) 7 f fd ["many", "most", "deeds"] (spG K mg m_run_crew) := by
  have nd := (sc_run_crew).nd
  refine Fun.den (m := b_run_crew) (N := ["many", "most", "deeds", "crew", "place", "word", "thing"]) (np := 3) (nl := 7) F sc_run_crew rfl rfl fun cdv A outer s H E hr Γ hx => ?_
  have tk := takes_body (P := P) (w := w) (K := K) (mg := mg) (base := base) (N := ["many", "most", "deeds", "crew", "place", "word", "thing"]) (qual := "run_crew") (sc := defScope s_run_crew) (f := f) (cdv := cdv) (A := A) (outer := outer) (s := s) (H := H) (E := E)
  have ow := own_body (P := P) (w := w) (K := K) (mg := mg) (base := base) (N := ["many", "most", "deeds", "crew", "place", "word", "thing"]) (qual := "run_crew") (sc := defScope s_run_crew) (f := f) (cdv := cdv) (A := A) (outer := outer) (s := s) (H := H) (E := E)
  exact (s_cons (s_asg nd (f_makeM (okC_of T.c_Crew (ok_Crew___init__ T)) (hr.mono (by decide)) tk (g_cons (g_var 0) (g_cons (g_var 1) g_nil))))
    (s_cons (s_drop (f_call (ok_check_deeds T) (hr.mono (by decide)) tk (g_cons (g_var 0) (g_cons (g_var 2) g_nil))))
    (s_cons (s_for ow rfl (i_enumU rfl T.z_enumerate (g_cons (g_var 2) g_nil)) (fun Γ => (b_tup rfl rfl (b_cons (b_name 4 nd) (b_cons (b_tup rfl rfl (b_cons (b_name 5 nd) (b_cons (b_name 6 nd) b_nil))) b_nil)))) (fun Γ q0 => (s_one (f_try T.x_BadPart__BadPart_Taken__BadPart tk (fun W pn xe tk0 ow0 => (s_one (s_drop (f_call (ok_do T) (hr.mono (by decide)) tk0 (g_cons (g_var 3) (g_cons (g_var 5) (g_cons (g_var 6) g_nil))))))) (fun a oe cls dd pn hz hf => (s_one s_bad))))))
    (s_one (s_ret (g_var 3))))))
theorem ok_run_crew (T : Txt K mg) : OkG P w K mg base 7 "run_crew" ["many", "most", "deeds"] m_run_crew := okG_of T.g_run_crew (fun f fd F => F.binds fun _ _ _ _ _ _ us hl => match us, hl with | [_, _, _], _ => rfl) fun f fd F => fn_run_crew T F
/-! law -/
def x_law_0 : SDen :=
  (sAsg 1 (eAlloc (eLst (aCons (eVar 0) (aCons (eC (.int 0)) aNil)))))
def x_law_1 : SDen :=
  (sPar [2, 3, 4, 5] (mVal (eMakeM "Registry" m_Registry___init__ aNil) (mOwn (eDict pNil) (mVal (eLst aNil) (mVal (eDict pNil) mNil)))))
def x_law_2 : SDen :=
  (sPar [7, 8, 9] (mVal (eCall m__law_take (aCons (eVar 1) (aCons (eC (.int 5)) aNil))) (mVal (e2 gIx (eLst (aCons (eC (.str "a")) (aCons (eC (.str "b")) (aCons (eC (.str "c")) aNil)))) (eCall m__law_take (aCons (eVar 1) (aCons (eC (.int 3)) aNil)))) (mVal (e2 gIx (eLst (aCons (eC (.str "x")) (aCons (eC (.str "y")) aNil))) (eCall m__law_take (aCons (eVar 1) (aCons (eC (.int 2)) aNil)))) mNil))))
def ct_law_0 : TDen :=
  (tB (e2 gEq (ePeek 26) (ePeek 8)))
theorem u_ct_law_0 (ρ : REnv) (st : Store) : ct_law_0 ρ st = (tB (e2 gEq (ePeek 26) (ePeek 8))) ρ st := rfl
def x_law_4 : SDen :=
  (sVal 10 (sAsgO 10 (eComp (lD (eVar 5) (fun p => .tup [keyD p.1, p.2])) (bTup 2 (bCons (bName 30) (bCons (bName 26) bNil))) ct_law_0 (eVar 30) [30, 26])))
def x_law_5 : SDen :=
  (sAsg 11 (eMethU [("Registry", m_Registry_start)] "start" (eVar 2) (aCons (eVar 8) aNil)))
def x_law_6 : SDen :=
  (sRet (eC (.bl false)))
def x_law_7 : SDen :=
  (sIf (tOr (tB (e2 gIn (ePeek 8) (ePeek 4))) (tB (e2 gNe (eN gTuple (aCons (ePeek 11) aNil)) (eTup (aCons (eVar 8) (aCons (e2 gAdd (eGet2 (ePeek 3) (ePeek 8) (eC (.int 0))) (eC (.int 1))) aNil)))))) x_law_6 sNil)
def x_law_8 : SDen :=
  (sMany 2 (pdPut 3 (eVar 8) (pdName 4 pdNil)) (mVal (e2 gIx (ePeek 11) (eC (.int 1))) (mVal (e2 gAdd (ePeek 4) (eLst (aCons (eVar 8) aNil))) mNil)))
def x_law_9 : SDen :=
  (sAsg 12 (eMethU [("Registry", m_Registry_end)] "end" (eVar 2) (aCons (eVar 8) aNil)))
def x_law_10 : SDen :=
  (sRet (eC (.bl false)))
def x_law_11 : SDen :=
  (sIf (tOr (tB (e2 gNotIn (ePeek 8) (ePeek 4))) (tB (e2 gNe (ePeek 12) (eIf (tB (e2 gNe (ePeek 10) (eLst aNil))) (e2 gIx (ePeek 10) (eC (.int 0))) (eC .non))))) x_law_10 sNil)
def ce_law_2 : EDen :=
  (eTup (aCons (eVar 30) (aCons (eVar 26) aNil)))
theorem u_ce_law_2 (ρ : REnv) (st : Store) : ce_law_2 ρ st = (eTup (aCons (eVar 30) (aCons (eVar 26) aNil))) ρ st := rfl
def ct_law_3 : TDen :=
  (tB (e2 gNe (ePeek 26) (ePeek 8)))
theorem u_ct_law_3 (ρ : REnv) (st : Store) : ct_law_3 ρ st = (tB (e2 gNe (ePeek 26) (ePeek 8))) ρ st := rfl
def ct_law_4 : TDen :=
  (tB (e2 gNe (ePeek 30) (ePeek 8)))
theorem u_ct_law_4 (ρ : REnv) (st : Store) : ct_law_4 ρ st = (tB (e2 gNe (ePeek 30) (ePeek 8))) ρ st := rfl
def x_law_15 : SDen :=
  (sPar [4, 5] (mVal (eComp (lSeq (eVar 4)) (bName 30) ct_law_4 (eVar 30) [30]) (mVal (eN gDict (aCons (eComp (lD (eVar 5) (fun p => .tup [keyD p.1, p.2])) (bTup 2 (bCons (bName 30) (bCons (bName 26) bNil))) ct_law_3 ce_law_2 [30, 26]) aNil)) mNil)))
def x_law_16 : SDen :=
  (sAsg 12 (eMethU [("Registry", m_Registry_take)] "take" (eVar 2) (aCons (eVar 9) (aCons (eVar 8) aNil))))
def ct_law_5 : TDen :=
  (tB (e2 gNe (ePeek 30) (ePeek 9)))
theorem u_ct_law_5 (ρ : REnv) (st : Store) : ct_law_5 ρ st = (tB (e2 gNe (ePeek 30) (ePeek 9))) ρ st := rfl
def x_law_18 : SDen :=
  (sRet (eC (.bl false)))
def x_law_19 : SDen :=
  (sIf (tOr (tB (e2 gNotIn (ePeek 8) (ePeek 4))) (tOr (tB (e2 gNe (eGet2 (ePeek 5) (ePeek 9) (eVar 8)) (ePeek 8))) (tOr (tAnd (tB (e2 gIsNot (ePeek 12) (eC .non))) (tB (e2 gNotIn (ePeek 12) (ePeek 10)))) (tAnd (tB (e2 gIs (ePeek 12) (eC .non))) (tB (e2 gNe (eComp (lSeq (eVar 10)) (bName 30) ct_law_5 (eVar 30) [30]) (eLst aNil))))))) x_law_18 sNil)
def ce_law_6 : EDen :=
  (eTup (aCons (eVar 30) (aCons (eVar 26) aNil)))
theorem u_ce_law_6 (ρ : REnv) (st : Store) : ce_law_6 ρ st = (eTup (aCons (eVar 30) (aCons (eVar 26) aNil))) ρ st := rfl
def ct_law_7 : TDen :=
  (tB (e2 gNe (ePeek 26) (ePeek 8)))
theorem u_ct_law_7 (ρ : REnv) (st : Store) : ct_law_7 ρ st = (tB (e2 gNe (ePeek 26) (ePeek 8))) ρ st := rfl
def x_law_22 : SDen :=
  (sAsg 5 (eN gDict (aCons (e2 gAdd (eComp (lD (eVar 5) (fun p => .tup [keyD p.1, p.2])) (bTup 2 (bCons (bName 30) (bCons (bName 26) bNil))) ct_law_7 ce_law_6 [30, 26]) (eLst (aCons (eTup (aCons (eVar 9) (aCons (eVar 8) aNil))) aNil))) aNil)))
def x_law_23 : SDen :=
  (sIf (tB (e2 gEq (ePeek 7) (eC (.int 2)))) (sSeq x_law_9
  (sSeq x_law_11
  x_law_15)) (sSeq x_law_16
  (sSeq x_law_19
  x_law_22)))
def x_law_24 : SDen :=
  (sIf (tB (e2 gLt (ePeek 7) (eC (.int 2)))) (sSeq x_law_5
  (sSeq x_law_7
  x_law_8)) x_law_23)
def lb_law_8 : SDen :=
  x_law_24
theorem u_lb_law_8 (ρ : REnv) (st : Store) : lb_law_8 ρ st = x_law_24 ρ st := rfl
def x_law_26 : SDen :=
  (sRet (eC (.bl false)))
def x_law_27 : SDen :=
  (sIf (tOr (tB (e2 gLt (ePeek 7) (eC (.int 3)))) (tOr (tB (e2 gEq (eGet2 (ePeek 5) (ePeek 9) (eVar 8)) (ePeek 8))) (tB (e2 gNe (eXf 13 ["Taken"] "name") (ePeek 9))))) x_law_26 sNil)
def lb_law_9 : SDen :=
  x_law_27
theorem u_lb_law_9 (ρ : REnv) (st : Store) : lb_law_9 ρ st = x_law_27 ρ st := rfl
def x_law_29 : SDen :=
  (sAsg 14 (eIf (tB (e2 gLt (ePeek 7) (eC (.int 2)))) (e2 gNotIn (ePeek 8) (ePeek 4)) (e2 gIn (ePeek 8) (ePeek 4))))
def x_law_30 : SDen :=
  (sRet (eC (.bl false)))
def x_law_31 : SDen :=
  (sIf (tOr (tTr (ePeek 14)) (tB (e2 gNe (eXf 13 ["BadPart"] "part") (eC (.str "hand"))))) x_law_30 sNil)
def lb_law_10 : SDen :=
  (sSeq x_law_29
  x_law_31)
theorem u_lb_law_10 (ρ : REnv) (st : Store) : lb_law_10 ρ st = (sSeq x_law_29
  x_law_31) ρ st := rfl
def x_law_33 : SDen :=
  (sTryAs 13 ["BadPart", "Taken"] ["BadPart"] (sTryAs 13 ["BadPart", "Taken"] ["Taken"] lb_law_8 lb_law_9) lb_law_10)
def ce_law_11 : EDen :=
  (eTup (aCons (eVar 30) (aCons (eTup (aCons (e2 gIx (ePeek 5) (ePeek 30)) (aCons (e2 gIx (ePeek 3) (e2 gIx (ePeek 5) (ePeek 30))) aNil))) aNil)))
theorem u_ce_law_11 (ρ : REnv) (st : Store) : ce_law_11 ρ st = (eTup (aCons (eVar 30) (aCons (eTup (aCons (e2 gIx (ePeek 5) (ePeek 30)) (aCons (e2 gIx (ePeek 3) (e2 gIx (ePeek 5) (ePeek 30))) aNil))) aNil))) ρ st := rfl
def ce_law_12 : EDen :=
  (e2 gNe (eMethU [("Registry", m_Registry_find)] "find" (eVar 2) (aCons (eVar 30) aNil)) (eIf (tB (e2 gIn (ePeek 30) (ePeek 5))) (eTup (aCons (e2 gIx (ePeek 5) (ePeek 30)) (aCons (e2 gIx (ePeek 3) (e2 gIx (ePeek 5) (ePeek 30))) aNil))) (eC .non)))
theorem u_ce_law_12 (ρ : REnv) (st : Store) : ce_law_12 ρ st = (e2 gNe (eMethU [("Registry", m_Registry_find)] "find" (eVar 2) (aCons (eVar 30) aNil)) (eIf (tB (e2 gIn (ePeek 30) (ePeek 5))) (eTup (aCons (e2 gIx (ePeek 5) (ePeek 30)) (aCons (e2 gIx (ePeek 3) (e2 gIx (ePeek 5) (ePeek 30))) aNil))) (eC .non))) ρ st := rfl
def ct_law_13 : TDen :=
  (tB (e2 gEq (ePeek 31) (ePeek 30)))
theorem u_ct_law_13 (ρ : REnv) (st : Store) : ct_law_13 ρ st = (tB (e2 gEq (ePeek 31) (ePeek 30))) ρ st := rfl
def ce_law_14 : EDen :=
  (e2 gNe (eMethU [("Registry", m_Registry_name_of)] "name_of" (eVar 2) (aCons (eVar 30) aNil)) (e2 gIx (e2 gAdd (eComp (lD (eVar 5) (fun p => .tup [keyD p.1, p.2])) (bTup 2 (bCons (bName 26) (bCons (bName 31) bNil))) ct_law_13 (eVar 26) [26, 31]) (eLst (aCons (eC .non) aNil))) (eC (.int 0))))
theorem u_ce_law_14 (ρ : REnv) (st : Store) : ce_law_14 ρ st = (e2 gNe (eMethU [("Registry", m_Registry_name_of)] "name_of" (eVar 2) (aCons (eVar 30) aNil)) (e2 gIx (e2 gAdd (eComp (lD (eVar 5) (fun p => .tup [keyD p.1, p.2])) (bTup 2 (bCons (bName 26) (bCons (bName 31) bNil))) ct_law_13 (eVar 26) [26, 31]) (eLst (aCons (eC .non) aNil))) (eC (.int 0)))) ρ st := rfl
def x_law_38 : SDen :=
  (sRet (eC (.bl false)))
def x_law_39 : SDen :=
  (sIf (tOr (tB (e2 gNeDct (eN gDict (aCons (eMethU [("Registry", m_Registry_told)] "told" (eVar 2) aNil) aNil)) (eN gDict (aCons (eComp (lSeq (eN gSortKS (aCons (ePeek 5) aNil))) (bName 30) tYes ce_law_11 [30]) aNil)))) (tOr (tTr (eN gAny (aCons (eComp (lSeq (eTup (aCons (eC (.str "x")) (aCons (eC (.str "y")) aNil)))) (bName 30) tYes ce_law_12 [30]) aNil))) (tTr (eN gAny (aCons (eComp (lSeq (eVar 4)) (bName 30) tYes ce_law_14 [30]) aNil))))) x_law_38 sNil)
def ce_law_15 : EDen :=
  (e2 gNe (eMethU [("Registry", m_Registry_is_there)] "is_there" (eVar 2) (aCons (eTup (aCons (eVar 32) (aCons (eVar 33) aNil))) aNil)) (eAnd (e2 gIn (ePeek 32) (ePeek 4)) (e2 gEq (e2 gIx (ePeek 3) (ePeek 32)) (ePeek 33))))
theorem u_ce_law_15 (ρ : REnv) (st : Store) : ce_law_15 ρ st = (e2 gNe (eMethU [("Registry", m_Registry_is_there)] "is_there" (eVar 2) (aCons (eTup (aCons (eVar 32) (aCons (eVar 33) aNil))) aNil)) (eAnd (e2 gIn (ePeek 32) (ePeek 4)) (e2 gEq (e2 gIx (ePeek 3) (ePeek 32)) (ePeek 33)))) ρ st := rfl
def ce_law_16 : EDen :=
  (eComp (lSeq (eTup (aCons (eC (.int 1)) (aCons (eC (.int 2)) (aCons (eC (.int 3)) aNil))))) (bName 33) tYes ce_law_15 [33])
theorem u_ce_law_16 (ρ : REnv) (st : Store) : ce_law_16 ρ st = (eComp (lSeq (eTup (aCons (eC (.int 1)) (aCons (eC (.int 2)) (aCons (eC (.int 3)) aNil))))) (bName 33) tYes ce_law_15 [33]) ρ st := rfl
def x_law_42 : SDen :=
  (sRet (eC (.bl false)))
def x_law_43 : SDen :=
  (sIf (tTr (eN gAny (aCons (eCall m__law_flat (aCons (eComp (lSeq (eTup (aCons (eC (.str "a")) (aCons (eC (.str "b")) (aCons (eC (.str "c")) aNil))))) (bName 32) tYes ce_law_16 [32]) aNil)) aNil))) x_law_42 sNil)
def lb_law_17 : SDen :=
  (sSeq x_law_2
  (sSeq x_law_4
  (sSeq x_law_33
  (sSeq x_law_39
  x_law_43))))
theorem u_lb_law_17 (ρ : REnv) (st : Store) : lb_law_17 ρ st = (sSeq x_law_2
  (sSeq x_law_4
  (sSeq x_law_33
  (sSeq x_law_39
  x_law_43)))) ρ st := rfl
def x_law_45 : SDen :=
  (sFor (lRange1 (aCons (eC (.int 24)) aNil)) (bName 6) lb_law_17)
def x_law_46 : SDen :=
  (sPar [15, 16, 17] (mVal (e2 gAddI (eC (.int 1)) (eCall m__law_take (aCons (eVar 1) (aCons (eC (.int 3)) aNil)))) (mVal (e2 gAddI (eC (.int 1)) (eCall m__law_take (aCons (eVar 1) (aCons (eC (.int 3)) aNil)))) (mVal (eLst aNil) mNil))))
def x_law_47 : SDen :=
  (sPar [18, 19, 20, 21, 22, 23] (mVal (eLst aNil) (mOwn (e2 gRepL (eLst (aCons (eC .non) aNil)) (ePeek 15)) (mVal (eLst aNil) (mVal (eLst aNil) (mOwn (eDict pNil) (mVal (eLst aNil) mNil)))))))
def x_law_48 : SDen :=
  (sPar [7, 24, 8] (mVal (eCall m__law_take (aCons (eVar 1) (aCons (eC (.int 4)) aNil))) (mVal (e2 gAdd (eC (.str "j")) (eN gStrI (aCons (eCall m__law_take (aCons (eVar 1) (aCons (eC (.int 6)) aNil))) aNil))) (mVal (eCall m__law_take (aCons (eVar 1) (aCons (eVar 15) aNil))) mNil))))
def x_law_49 : SDen :=
  (sAsg 25 (eIf (tB (e2 gEq (ePeek 7) (eC (.int 0)))) (e2 gNotIn (ePeek 24) (ePeek 23)) (eIf (tB (e2 gEq (ePeek 7) (eC (.int 1)))) (e2 gIs (e2 gIx (ePeek 19) (ePeek 8)) (eC .non)) (eIf (tB (e2 gEq (ePeek 7) (eC (.int 2)))) (e2 gIsNot (e2 gIx (ePeek 19) (ePeek 8)) (eC .non)) (eC (.bl true))))))
def x_law_50 : SDen :=
  (sAsg 17 (e2 gAdd (ePeek 17) (eIf (tTr (ePeek 25)) (eLst (aCons (eIf (tB (e2 gEq (ePeek 7) (eC (.int 0)))) (eTup (aCons (eC (.str "give")) (aCons (eVar 24) aNil))) (eIf (tB (e2 gEq (ePeek 7) (eC (.int 1)))) (eTup (aCons (eC (.str "take")) (aCons (eVar 8) aNil))) (eIf (tB (e2 gEq (ePeek 7) (eC (.int 2)))) (eTup (aCons (eC (.str "finish")) (aCons (eVar 8) aNil))) (eTup (aCons (eC (.str "fall")) (aCons (eVar 8) aNil)))))) aNil)) (eLst aNil))))
def x_law_51 : SDen :=
  (sMany 3 (pdName 23 (pdName 18 (pdPut 22 (eVar 24) pdNil))) (mVal (e2 gAdd (ePeek 23) (eLst (aCons (eVar 24) aNil))) (mVal (e2 gAdd (ePeek 18) (eLst (aCons (eVar 24) aNil))) (mVal (eC (.int 0)) mNil))))
def x_law_52 : SDen :=
  (sIf (tAnd (tB (e2 gEq (ePeek 7) (eC (.int 0)))) (tB (e2 gNotIn (ePeek 24) (ePeek 23)))) x_law_51 sNil)
def x_law_53 : SDen :=
  (sMany 2 (pdPut 19 (eVar 8) (pdName 18 pdNil)) (mVal (e2 gIx (ePeek 18) (eC (.int 0))) (mVal (eCutL (ePeek 18) (oSome (eC (.int 1))) oNone) mNil)))
def x_law_54 : SDen :=
  (sPut 22 (e2 gIx (ePeek 19) (ePeek 8)) (e2 gAddI (e2 gIx (ePeek 22) (e2 gIx (ePeek 19) (ePeek 8))) (eC (.int 1))))
def x_law_55 : SDen :=
  (sIf (tAnd (tB (e2 gEq (ePeek 7) (eC (.int 1)))) (tAnd (tB (e2 gIs (e2 gIx (ePeek 19) (ePeek 8)) (eC .non))) (tB (e2 gNe (ePeek 18) (eLst aNil))))) (sSeq x_law_53
  x_law_54) sNil)
def x_law_56 : SDen :=
  (sMany 2 (pdName 20 (pdPut 19 (eVar 8) pdNil)) (mVal (e2 gAdd (ePeek 20) (eLst (aCons (e2 gIx (ePeek 19) (ePeek 8)) aNil))) (mVal (eC .non) mNil)))
def x_law_57 : SDen :=
  (sIf (tAnd (tB (e2 gEq (ePeek 7) (eC (.int 2)))) (tB (e2 gIsNot (e2 gIx (ePeek 19) (ePeek 8)) (eC .non)))) x_law_56 sNil)
def x_law_58 : SDen :=
  (sMany 2 (pdName 26 (pdPut 19 (eVar 8) pdNil)) (mVal (e2 gIx (ePeek 19) (ePeek 8)) (mVal (eC .non) mNil)))
def x_law_59 : SDen :=
  (sPar [21, 18] (mVal (e2 gAdd (ePeek 21) (eIf (tB (e2 gGe (e2 gIx (ePeek 22) (ePeek 26)) (ePeek 16))) (eLst (aCons (eVar 26) aNil)) (eLst aNil))) (mVal (e2 gAdd (eIf (tB (e2 gLt (e2 gIx (ePeek 22) (ePeek 26)) (ePeek 16))) (eLst (aCons (eVar 26) aNil)) (eLst aNil)) (ePeek 18)) mNil)))
def x_law_60 : SDen :=
  (sIf (tAnd (tB (e2 gEq (ePeek 7) (eC (.int 3)))) (tB (e2 gIsNot (e2 gIx (ePeek 19) (ePeek 8)) (eC .non)))) (sSeq x_law_58
  x_law_59) sNil)
def lb_law_18 : SDen :=
  (sSeq x_law_48
  (sSeq x_law_49
  (sSeq x_law_50
  (sSeq x_law_52
  (sSeq x_law_55
  (sSeq x_law_57
  x_law_60))))))
theorem u_lb_law_18 (ρ : REnv) (st : Store) : lb_law_18 ρ st = (sSeq x_law_48
  (sSeq x_law_49
  (sSeq x_law_50
  (sSeq x_law_52
  (sSeq x_law_55
  (sSeq x_law_57
  x_law_60)))))) ρ st := rfl
def x_law_62 : SDen :=
  (sFor (lRange1 (aCons (eC (.int 30)) aNil)) (bName 6) lb_law_18)
def x_law_63 : SDen :=
  (sAsg 27 (eCall m_run_crew (aCons (eVar 15) (aCons (eVar 16) (aCons (eVar 17) aNil)))))
def ct_law_19 : TDen :=
  (tB (e2 gIs (e2 gIx (ePeek 19) (ePeek 8)) (eC .non)))
theorem u_ct_law_19 (ρ : REnv) (st : Store) : ct_law_19 ρ st = (tB (e2 gIs (e2 gIx (ePeek 19) (ePeek 8)) (eC .non))) ρ st := rfl
def x_law_65 : SDen :=
  (sRet (eC (.bl false)))
def x_law_66 : SDen :=
  (sFrz [19] (sIf (tOr (tB (e2 gNe (eTup (aCons (eN gList (aCons (e1 (eAttC "waiting" ["Crew"]) (eVar 27)) aNil)) (aCons (eN gList (aCons (e1 (eAttC "held" ["Crew"]) (eVar 27)) aNil)) (aCons (eN gList (aCons (e1 (eAttC "done" ["Crew"]) (eVar 27)) aNil)) (aCons (eN gList (aCons (e1 (eAttC "aside" ["Crew"]) (eVar 27)) aNil)) aNil))))) (eTup (aCons (eVar 18) (aCons (eVar 19) (aCons (eVar 20) (aCons (eVar 21) aNil))))))) (tOr (tB (e2 gNeDct (eN gDict (aCons (e1 (eAttC "taken" ["Crew"]) (eVar 27)) aNil)) (ePeek 22))) (tB (e2 gNe (eN gList (aCons (eMethU [("Crew", m_Crew_idle)] "idle" (eVar 27) aNil) aNil)) (eComp (lRange1 (aCons (eVar 15) aNil)) (bName 8) ct_law_19 (eVar 8) [8]))))) x_law_65 sNil))
def ct_law_20 : TDen :=
  (tB (e2 gIsNot (ePeek 24) (eC .non)))
theorem u_ct_law_20 (ρ : REnv) (st : Store) : ct_law_20 ρ st = (tB (e2 gIsNot (ePeek 24) (eC .non))) ρ st := rfl
def x_law_68 : SDen :=
  (sRet (eC (.bl false)))
def x_law_69 : SDen :=
  (sFrz [19] (sIf (tOr (tB (e2 gNe (eN gTuple (aCons (eMethU [("Crew", m_Crew_counts)] "counts" (eVar 27) aNil) aNil)) (eTup (aCons (eN gLen (aCons (ePeek 18) aNil)) (aCons (eN gLen (aCons (eComp (lSeq (eVar 19)) (bName 24) ct_law_20 (eC (.int 0)) [24]) aNil)) (aCons (eN gLen (aCons (ePeek 20) aNil)) (aCons (eN gLen (aCons (ePeek 21) aNil)) aNil))))))) (tB (e2 gNe (eN gSum (aCons (eN gList (aCons (eMethU [("Crew", m_Crew_counts)] "counts" (eVar 27) aNil) aNil)) aNil)) (eN gLen (aCons (ePeek 23) aNil))))) x_law_68 sNil))
def x_law_70 : SDen :=
  (sPar [28, 29] (mVal (eCall m__law_take (aCons (eVar 1) (aCons (eC (.int 40)) aNil))) (mVal (eCall m__law_take (aCons (eVar 1) (aCons (eC (.int 20)) aNil))) mNil)))
def x_law_71 : SDen :=
  (sRet (eAnd (e2 gEq (eCall m_rounds (aCons (eVar 28) (aCons (eVar 15) aNil))) (e2 gFdiv (e2 gSub (e2 gAddI (ePeek 28) (ePeek 15)) (eC (.int 1))) (ePeek 15))) (eAnd (e2 gLe (eCall m_most_taken (aCons (eVar 28) (aCons (eVar 29) (aCons (eVar 16) aNil)))) (e2 gMul (ePeek 28) (ePeek 16))) (eAnd (e2 gEq (eCall m_most_taken (aCons (eVar 28) (aCons (eC (.int 0)) (aCons (eVar 16) aNil)))) (ePeek 28)) (e2 gEq (eCall m_most_taken (aCons (eC (.int 0)) (aCons (eVar 29) (aCons (eVar 16) aNil)))) (eC (.int 0)))))))
def b_law : SDen :=
  (sSeq x_law_0
  (sSeq x_law_1
  (sSeq x_law_45
  (sSeq x_law_46
  (sSeq x_law_47
  (sSeq x_law_62
  (sSeq x_law_63
  (sSeq x_law_66
  (sSeq x_law_69
  (sSeq x_law_70
  x_law_71))))))))))
def m_law : CallF := callD 1 34 b_law
theorem sc_law : FnScope [("script" : Str), ("draw" : Str), ("book" : Str), ("lives" : Str), ("up" : Str), ("names" : Str), ("turn" : Str), ("way" : Str), ("hand" : Str), ("name" : Str), ("mine" : Str), ("pair" : Str), ("gone" : Str), ("fault" : Str), ("good" : Str), ("many" : Str), ("most" : Str), ("deeds" : Str), ("waiting" : Str), ("held" : Str), ("done" : Str), ("aside" : Str), ("taken" : Str), ("given" : Str), ("job" : Str), ("can" : Str), ("late" : Str), ("crew" : Str), ("jobs" : Str), ("falls" : Str), ("one" : Str), ("who" : Str), ("one_a" : Str), ("life" : Str)] ["script"] (defScope s_law) := ⟨rfl, rfl, rfl, by decide +kernel, rfl, by decide +kernel, by decide +kernel⟩
theorem fn_law (T : Txt K mg) {f : Addr} {fd : FuncData} (F : Fun K "law" "law" s_law f fd) : FnOk P w K mg base (L2.CX P w) 8 f fd ["script"] (spG K mg m_law) := by
  have nd := (sc_law).nd
  refine Fun.den (m := b_law) (N := [("script" : Str), ("draw" : Str), ("book" : Str), ("lives" : Str), ("up" : Str), ("names" : Str), ("turn" : Str), ("way" : Str), ("hand" : Str), ("name" : Str), ("mine" : Str), ("pair" : Str), ("gone" : Str), ("fault" : Str), ("good" : Str), ("many" : Str), ("most" : Str), ("deeds" : Str), ("waiting" : Str), ("held" : Str), ("done" : Str), ("aside" : Str), ("taken" : Str), ("given" : Str), ("job" : Str), ("can" : Str), ("late" : Str), ("crew" : Str), ("jobs" : Str), ("falls" : Str), ("one" : Str), ("who" : Str), ("one_a" : Str), ("life" : Str)]) (np := 1) (nl := 34) F sc_law rfl rfl fun cdv A outer s H E hr Γ hx => ?_
  have tk := takes_body (P := P) (w := w) (K := K) (mg := mg) (base := base) (N := [("script" : Str), ("draw" : Str), ("book" : Str), ("lives" : Str), ("up" : Str), ("names" : Str), ("turn" : Str), ("way" : Str), ("hand" : Str), ("name" : Str), ("mine" : Str), ("pair" : Str), ("gone" : Str), ("fault" : Str), ("good" : Str), ("many" : Str), ("most" : Str), ("deeds" : Str), ("waiting" : Str), ("held" : Str), ("done" : Str), ("aside" : Str), ("taken" : Str), ("given" : Str), ("job" : Str), ("can" : Str), ("late" : Str), ("crew" : Str), ("jobs" : Str), ("falls" : Str), ("one" : Str), ("who" : Str), ("one_a" : Str), ("life" : Str)]) (qual := "law") (sc := defScope s_law) (f := f) (cdv := cdv) (A := A) (outer := outer) (s := s) (H := H) (E := E)
  have ow := own_body (P := P) (w := w) (K := K) (mg := mg) (base := base) (N := [("script" : Str), ("draw" : Str), ("book" : Str), ("lives" : Str), ("up" : Str), ("names" : Str), ("turn" : Str), ("way" : Str), ("hand" : Str), ("name" : Str), ("mine" : Str), ("pair" : Str), ("gone" : Str), ("fault" : Str), ("good" : Str), ("many" : Str), ("most" : Str), ("deeds" : Str), ("waiting" : Str), ("held" : Str), ("done" : Str), ("aside" : Str), ("taken" : Str), ("given" : Str), ("job" : Str), ("can" : Str), ("late" : Str), ("crew" : Str), ("jobs" : Str), ("falls" : Str), ("one" : Str), ("who" : Str), ("one_a" : Str), ("life" : Str)]) (qual := "law") (sc := defScope s_law) (f := f) (cdv := cdv) (A := A) (outer := outer) (s := s) (H := H) (E := E)
  exact (s_cons (s_asg nd (g_alloc (g_lst (g_cons (g_var 0) (g_cons g_int g_nil)))))
    (s_cons (s_parN rfl rfl (m_val (f_makeM0 (okC_of T.c_Registry (ok_Registry___init__ T)) (hr.mono (by decide)) tk) (m_own g_dict0 (m_val (g_ov (g_lst g_nil)) (m_val (g_ov g_dict0) m_nil)))) (n_cons 2 nd (n_cons 3 nd (n_cons 4 nd (n_cons 5 nd n_nil)))) (by decide))
    (s_cons (s_for ow rfl (i_range1 T.z_range (g_cons g_int g_nil)) (fun Γ => (b_name 6 nd)) (fun Γ q0 => (s_cons (s_parN rfl rfl (m_val (f_call (ok__law_take T) (hr.mono (by decide)) tk (g_cons (g_var 1) (g_cons g_int g_nil))) (m_val (g_sub rfl (hu_ofA hr) (g_vr (g_ov (g_lst (g_cons g_str (g_cons g_str (g_cons g_str g_nil)))))) (g_vr (f_call (ok__law_take T) (hr.mono (by decide)) tk (g_cons (g_var 1) (g_cons g_int g_nil))))) (m_val (g_sub rfl (hu_ofA hr) (g_vr (g_ov (g_lst (g_cons g_str (g_cons g_str g_nil))))) (g_vr (f_call (ok__law_take T) (hr.mono (by decide)) tk (g_cons (g_var 1) (g_cons g_int g_nil))))) m_nil))) (n_cons 7 nd (n_cons 8 nd (n_cons 9 nd n_nil))) (by decide))
    (s_cons (s_val 10 (s_asgLcD (own := [("one", 30), ("late", 26)]) rfl nd (by rfl) (wp_items (kn_var 5)) (blkOk_by (by kernel_rfl)) (fun _ _ _ _ _ _ => (b_tup rfl rfl (b_cons (b_name 30 nd) (b_cons (b_name 26 nd) b_nil)))) (fun _ _ _ _ _ _ => (ts_one (g_tcmp (op_eqU hr.units) sem_eq (g_peek 26) (g_peek 8) rfl))) (fun _ _ _ _ _ _ => (g_var 30))))
    (s_cons (f_tryTwo T.x_Taken__BadPart_Taken__Taken T.x_BadPart__BadPart_Taken__BadPart (q0.trans hx) nd tk (fun W pn xe tk1 ow1 => (s_one (s_if (g_tcmp op_lt sem_lt (g_peek 7) (g_vr g_int) rfl) (s_cons (s_asg nd (f_meth (l := [("Registry", m_Registry_start)]) (.cons ((ok_Registry_start T).mono (k := 4) (by decide)) .nil) (hr.mono (by decide)) tk1 (g_var 2) (g_cons (g_var 8) g_nil)))
    (s_cons (s_if (PW.pt (g_or (g_tin hr.units (g_peek 8) (g_peek 4)) (pw_or1 (g_tcmp (op_neU hr.units) sem_ne (g_vr (g_callTy call_tuple_of kV_late sem_tuple T.z_tuple (by decide +kernel) (r_cons (g_peek 11) r_nil))) (g_vr (g_tup (g_cons (g_var 8) (g_cons (g_bin op_addU kV_late sem_add (g_vr (g_get2 rfl (hu_ofA hr) (g_peek 3) (g_peek 8) g_int ⟨rfl, rfl, rfl, rfl⟩)) (g_vr g_int)) g_nil)))) rfl)))) (s_one (s_ret g_bl)) s_nil)
    (s_one (s_many rfl rfl (m_val (g_sub rfl (hu_ofA hr) (g_peek 11) (g_vr g_int)) (m_val (g_bin op_addU kV_late sem_add (g_peek 4) (g_vr (g_ov (g_lst (g_cons (g_var 8) g_nil))))) m_nil)) (pd_put (g_put 3 (hu_ofA hr) (g_var 8)) (pd_name 4 nd pd_nil)))))) (s_one (s_if (g_tcmp (op_eqU hr.units) sem_eq (g_peek 7) (g_vr g_int) rfl) (s_cons (s_asg nd (f_meth (l := [("Registry", m_Registry_end)]) (.cons ((ok_Registry_end T).mono (k := 6) (by decide)) .nil) (hr.mono (by decide)) tk1 (g_var 2) (g_cons (g_var 8) g_nil)))
    (s_cons (s_if (PW.pt (g_or (g_tnotIn hr.units (g_peek 8) (g_peek 4)) (pw_or1 (g_tcmp (op_neU hr.units) sem_ne (g_peek 12) (g_vr (g_if kV_late (g_tcmp (op_neU hr.units) sem_ne (g_peek 10) (g_vr (g_ov (g_lst g_nil))) rfl) (g_sub rfl (hu_ofA hr) (g_peek 10) (g_vr g_int)) g_non)) rfl)))) (s_one (s_ret g_bl)) s_nil)
    (s_one (s_parN rfl rfl (m_val (g_ov (g_lc (own := [("one", 30)]) rfl nd (i_gc (i_seq rfl (g_var 4))) (blkOk_by (by kernel_rfl)) (fun _ _ _ _ _ => (b_name 30 nd)) (fun _ _ _ _ _ => (ts_one (g_tcmp (op_neU hr.units) sem_ne (g_peek 30) (g_peek 8) rfl))) (fun _ _ _ _ _ => (g_var 30)))) (m_val (g_ov (g_callTy (cr_dict rfl) kO_late sem_dict T.z_dict (by decide +kernel) (r_cons (g_vr (g_ov (g_lcD (own := [("one", 30), ("late", 26)]) rfl nd (wp_items (kn_var 5)) (blkOk_by (by kernel_rfl)) (fun _ _ _ _ _ _ => (b_tup rfl rfl (b_cons (b_name 30 nd) (b_cons (b_name 26 nd) b_nil)))) (fun _ _ _ _ _ _ => (ts_one (g_tcmp (op_neU hr.units) sem_ne (g_peek 26) (g_peek 8) rfl))) (fun _ _ _ _ _ _ => (g_tup (g_cons (g_var 30) (g_cons (g_var 26) g_nil))))))) r_nil))) m_nil)) (n_cons 4 nd (n_cons 5 nd n_nil)) (by decide))))) (s_cons (s_asg nd (f_meth (l := [("Registry", m_Registry_take)]) (.cons ((ok_Registry_take T).mono (k := 6) (by decide)) .nil) (hr.mono (by decide)) tk1 (g_var 2) (g_cons (g_var 9) (g_cons (g_var 8) g_nil))))
    (s_cons (s_if (PW.pt (g_or (g_tnotIn hr.units (g_peek 8) (g_peek 4)) (g_or (g_tcmp (op_neU hr.units) sem_ne (g_vr (g_get2 rfl (hu_ofA hr) (g_peek 5) (g_peek 9) (g_var 8) ⟨rfl, rfl, rfl, rfl⟩)) (g_peek 8) rfl) (g_or (PW.pt (g_and (g_tcmp op_notN sem_isNot (g_peek 12) (g_vr g_non) rfl) (pw_and1 (g_tnotIn hr.units (g_peek 12) (g_peek 10))))) (pw_or1 (PW.pt (g_and (g_tcmp op_isN sem_is (g_peek 12) (g_vr g_non) rfl) (pw_and1 (g_tcmp (op_neU hr.units) sem_ne (g_vr (g_ov (g_lc (own := [("one", 30)]) rfl nd (i_gc (i_seq rfl (g_var 10))) (blkOk_by (by kernel_rfl)) (fun _ _ _ _ _ => (b_name 30 nd)) (fun _ _ _ _ _ => (ts_one (g_tcmp (op_neU hr.units) sem_ne (g_peek 30) (g_peek 9) rfl))) (fun _ _ _ _ _ => (g_var 30))))) (g_vr (g_ov (g_lst g_nil))) rfl))))))))) (s_one (s_ret g_bl)) s_nil)
    (s_one (s_asg nd (g_ov (g_callTy (cr_dict rfl) kO_late sem_dict T.z_dict (by decide +kernel) (r_cons (g_vr (g_bin op_addU kV_late sem_add (g_vr (g_ov (g_lcD (own := [("one", 30), ("late", 26)]) rfl nd (wp_items (kn_var 5)) (blkOk_by (by kernel_rfl)) (fun _ _ _ _ _ _ => (b_tup rfl rfl (b_cons (b_name 30 nd) (b_cons (b_name 26 nd) b_nil)))) (fun _ _ _ _ _ _ => (ts_one (g_tcmp (op_neU hr.units) sem_ne (g_peek 26) (g_peek 8) rfl))) (fun _ _ _ _ _ _ => (g_tup (g_cons (g_var 30) (g_cons (g_var 26) g_nil))))))) (g_vr (g_ov (g_lst (g_cons (g_tup (g_cons (g_var 9) (g_cons (g_var 8) g_nil))) g_nil)))))) r_nil)))))))))))) (fun a oe cls dd pn hz hf => (s_one (s_if (PW.pt (g_or (g_tcmp op_lt sem_lt (g_peek 7) (g_vr g_int) rfl) (g_or (g_tcmp (op_eqU hr.units) sem_eq (g_vr (g_get2 rfl (hu_ofA hr) (g_peek 5) (g_peek 9) (g_var 8) ⟨rfl, rfl, rfl, rfl⟩)) (g_peek 8) rfl) (pw_or1 (g_tcmp (op_neU hr.units) sem_ne (g_vr (f_xf (i := 13) T.x_Taken (by decide) hz hf)) (g_peek 9) rfl))))) (s_one (s_ret g_bl)) s_nil))) (fun a oe cls dd pn hz hf => (s_cons (s_asg nd (g_if kV_late (g_tcmp op_lt sem_lt (g_peek 7) (g_vr g_int) rfl) (g_notIn rfl hr.units (g_peek 8) (g_peek 4)) (g_in rfl hr.units (g_peek 8) (g_peek 4))))
    (s_one (s_if (PW.pt (g_or (g_tr rfl (g_peek 14)) (pw_or1 (g_tcmp (op_neU hr.units) sem_ne (g_vr (f_xf (i := 13) T.x_BadPart (by decide) hz hf)) (g_vr g_str) rfl)))) (s_one (s_ret g_bl)) s_nil)))))
    (s_cons (s_if (PW.pt (g_or (g_tcmp (op_neDict hr.units) sem_neDct (g_vr (g_ov (g_callTy (cr_dict rfl) kO_late sem_dict T.z_dict (by decide +kernel) (r_cons (g_vr (f_meth0 (l := [("Registry", m_Registry_told)]) (.cons ((ok_Registry_told T).mono (k := 1) (by decide)) .nil) (hr.mono (by decide)) tk (g_var 2))) r_nil)))) (g_vr (g_ov (g_callTy (cr_dict rfl) kO_late sem_dict T.z_dict (by decide +kernel) (r_cons (g_vr (g_ov (g_lc (own := [("one", 30)]) rfl nd (i_gc (i_seq rfl (g_ov (g_callB (call_sortedD rfl) kO_late sem_sortKS T.z_sorted (by decide +kernel) (r_cons (g_peek 5) r_nil))))) (blkOk_by (by kernel_rfl)) (fun _ _ _ _ _ => (b_name 30 nd)) (fun _ _ _ _ _ => ts_nil) (fun _ _ _ _ _ => (g_tup (g_cons (g_var 30) (g_cons (g_tup (g_cons (g_sub rfl (hu_ofA hr) (g_peek 5) (g_peek 30)) (g_cons (g_sub rfl (hu_ofA hr) (g_peek 3) (g_vr (g_sub rfl (hu_ofA hr) (g_peek 5) (g_peek 30)))) g_nil))) g_nil))))))) r_nil)))) rfl) (g_or (g_tr rfl (g_vr (g_callB (cr_any rfl) kV_late sem_any T.z_any (by decide +kernel) (r_cons (g_vr (g_ov (g_lc (own := [("one", 30)]) rfl nd (i_gc (i_seq rfl (g_tup (g_cons g_str (g_cons g_str g_nil))))) (blkOk_by (by kernel_rfl)) (fun _ _ _ _ _ => (b_name 30 nd)) (fun _ _ _ _ _ => ts_nil) (fun _ _ _ _ _ => (g_cmp (op_neU hr.units) sem_ne (g_vr (f_meth (l := [("Registry", m_Registry_find)]) (.cons ((ok_Registry_find T).mono (k := 4) (by decide)) .nil) (hr.mono (by decide)) takesW (g_var 2) (g_cons (g_var 30) g_nil))) (g_vr (g_if kV_late (g_tin hr.units (g_peek 30) (g_peek 5)) (g_tup (g_cons (g_sub rfl (hu_ofA hr) (g_peek 5) (g_peek 30)) (g_cons (g_sub rfl (hu_ofA hr) (g_peek 3) (g_vr (g_sub rfl (hu_ofA hr) (g_peek 5) (g_peek 30)))) g_nil))) g_non)) rfl))))) r_nil)))) (pw_or1 (g_tr rfl (g_vr (g_callB (cr_any rfl) kV_late sem_any T.z_any (by decide +kernel) (r_cons (g_vr (g_ov (g_lc (own := [("one", 30)]) rfl nd (i_gc (i_seq rfl (g_var 4))) (blkOk_by (by kernel_rfl)) (fun _ _ _ _ _ => (b_name 30 nd)) (fun _ _ _ _ _ => ts_nil) (fun _ _ _ _ _ => (g_cmp (op_neU hr.units) sem_ne (g_vr (f_meth (l := [("Registry", m_Registry_name_of)]) (.cons ((ok_Registry_name_of T).mono (k := 5) (by decide)) .nil) (hr.mono (by decide)) takesW (g_var 2) (g_cons (g_var 30) g_nil))) (g_vr (g_sub rfl (hu_ofA hr) (g_vr (g_bin op_addU kV_late sem_add (g_vr (g_ov (g_lcD (own := [("late", 26), ("who", 31)]) rfl nd (wp_items (kn_var 5)) (blkOk_by (by kernel_rfl)) (fun _ _ _ _ _ _ => (b_tup rfl rfl (b_cons (b_name 26 nd) (b_cons (b_name 31 nd) b_nil)))) (fun _ _ _ _ _ _ => (ts_one (g_tcmp (op_eqU hr.units) sem_eq (g_peek 31) (g_peek 30) rfl))) (fun _ _ _ _ _ _ => (g_var 26))))) (g_vr (g_ov (g_lst (g_cons g_non g_nil)))))) (g_vr g_int))) rfl))))) r_nil)))))))) (s_one (s_ret g_bl)) s_nil)
    (s_one (s_if (g_tr rfl (g_vr (g_callB (cr_any rfl) kV_late sem_any T.z_any (by decide +kernel) (r_cons (g_vr (f_call (ok__law_flat T) (hr.mono (by decide)) tk (g_cons (g_ov (g_lc (own := [("one_a", 32)]) rfl nd (i_gc (i_seq rfl (g_tup (g_cons g_str (g_cons g_str (g_cons g_str g_nil)))))) (blkOk_by (by kernel_rfl)) (fun _ _ _ _ _ => (b_name 32 nd)) (fun _ _ _ _ _ => ts_nil) (fun _ _ _ _ _ => (g_ov (g_lc (own := [("life", 33)]) rfl nd (i_gc (i_seq rfl (g_tup (g_cons g_int (g_cons g_int (g_cons g_int g_nil)))))) (blkOk_by (by kernel_rfl)) (fun _ _ _ _ _ => (b_name 33 nd)) (fun _ _ _ _ _ => ts_nil) (fun _ _ _ _ _ => (g_cmp (op_neU hr.units) sem_ne (g_vr (f_meth (l := [("Registry", m_Registry_is_there)]) (.cons ((ok_Registry_is_there T).mono (k := 4) (by decide)) .nil) (hr.mono (by decide)) takesW (g_var 2) (g_cons (g_tup (g_cons (g_var 32) (g_cons (g_var 33) g_nil))) g_nil))) (g_vr (g_andV rfl (g_in rfl hr.units (g_peek 32) (g_peek 4)) (g_one (g_cmp (op_eqU hr.units) sem_eq (g_vr (g_sub rfl (hu_ofA hr) (g_peek 3) (g_peek 32))) (g_peek 33) rfl)))) rfl))))))) g_nil))) r_nil)))) (s_one (s_ret g_bl)) s_nil))))))))
    (s_cons (s_par3 (i := 15) (j := 16) (l := 17) rfl nd (m_val (g_bin op_add kV_late sem_addI (g_vr g_int) (g_vr (f_call (ok__law_take T) (hr.mono (by decide)) tk (g_cons (g_var 1) (g_cons g_int g_nil))))) (m_val (g_bin op_add kV_late sem_addI (g_vr g_int) (g_vr (f_call (ok__law_take T) (hr.mono (by decide)) tk (g_cons (g_var 1) (g_cons g_int g_nil))))) (m_val (g_ov (g_lst g_nil)) m_nil))))
    (s_cons (s_parN rfl rfl (m_val (g_ov (g_lst g_nil)) (m_own (g_bin op_rep kO_late sem_repL (g_vr (g_ov (g_lst (g_cons g_non g_nil)))) (g_peek 15)) (m_val (g_ov (g_lst g_nil)) (m_val (g_ov (g_lst g_nil)) (m_own g_dict0 (m_val (g_ov (g_lst g_nil)) m_nil)))))) (n_cons 18 nd (n_cons 19 nd (n_cons 20 nd (n_cons 21 nd (n_cons 22 nd (n_cons 23 nd n_nil)))))) (by decide))
    (s_cons (s_for ow rfl (i_range1 T.z_range (g_cons g_int g_nil)) (fun Γ => (b_name 6 nd)) (fun Γ q18 => (s_cons (s_parN rfl rfl (m_val (f_call (ok__law_take T) (hr.mono (by decide)) tk (g_cons (g_var 1) (g_cons g_int g_nil))) (m_val (g_bin op_addU kV_late sem_add (g_vr g_str) (g_vr (g_callTy call_str_int kV_late sem_strI T.z_str (by decide +kernel) (r_cons (g_vr (f_call (ok__law_take T) (hr.mono (by decide)) tk (g_cons (g_var 1) (g_cons g_int g_nil)))) r_nil)))) (m_val (f_call (ok__law_take T) (hr.mono (by decide)) tk (g_cons (g_var 1) (g_cons (g_var 15) g_nil))) m_nil))) (n_cons 7 nd (n_cons 24 nd (n_cons 8 nd n_nil))) (by decide))
    (s_cons (s_asg nd (g_if kV_late (g_tcmp (op_eqU hr.units) sem_eq (g_peek 7) (g_vr g_int) rfl) (g_notIn rfl hr.units (g_peek 24) (g_peek 23)) (g_if kV_late (g_tcmp (op_eqU hr.units) sem_eq (g_peek 7) (g_vr g_int) rfl) (g_cmp op_isN sem_is (g_vr (g_sub rfl (hu_ofA hr) (g_peek 19) (g_peek 8))) (g_vr g_non) rfl) (g_if kV_late (g_tcmp (op_eqU hr.units) sem_eq (g_peek 7) (g_vr g_int) rfl) (g_cmp op_notN sem_isNot (g_vr (g_sub rfl (hu_ofA hr) (g_peek 19) (g_peek 8))) (g_vr g_non) rfl) g_bl))))
    (s_cons (s_asg nd (g_bin op_addU kV_late sem_add (g_peek 17) (g_vr (g_if kV_late (g_tr rfl (g_peek 25)) (g_ov (g_lst (g_cons (g_if kV_late (g_tcmp (op_eqU hr.units) sem_eq (g_peek 7) (g_vr g_int) rfl) (g_tup (g_cons g_str (g_cons (g_var 24) g_nil))) (g_if kV_late (g_tcmp (op_eqU hr.units) sem_eq (g_peek 7) (g_vr g_int) rfl) (g_tup (g_cons g_str (g_cons (g_var 8) g_nil))) (g_if kV_late (g_tcmp (op_eqU hr.units) sem_eq (g_peek 7) (g_vr g_int) rfl) (g_tup (g_cons g_str (g_cons (g_var 8) g_nil))) (g_tup (g_cons g_str (g_cons (g_var 8) g_nil)))))) g_nil))) (g_ov (g_lst g_nil))))))
    (s_cons (s_if (PW.pt (g_and (g_tcmp (op_eqU hr.units) sem_eq (g_peek 7) (g_vr g_int) rfl) (pw_and1 (g_tnotIn hr.units (g_peek 24) (g_peek 23))))) (s_one (s_many rfl rfl (m_val (g_bin op_addU kV_late sem_add (g_peek 23) (g_vr (g_ov (g_lst (g_cons (g_var 24) g_nil))))) (m_val (g_bin op_addU kV_late sem_add (g_peek 18) (g_vr (g_ov (g_lst (g_cons (g_var 24) g_nil))))) (m_val g_int m_nil))) (pd_name 23 nd (pd_name 18 nd (pd_put (g_put 22 (hu_ofA hr) (g_var 24)) pd_nil))))) s_nil)
    (s_cons (s_if (PW.pt (g_and (g_tcmp (op_eqU hr.units) sem_eq (g_peek 7) (g_vr g_int) rfl) (g_and (g_tcmp op_isN sem_is (g_vr (g_sub rfl (hu_ofA hr) (g_peek 19) (g_peek 8))) (g_vr g_non) rfl) (pw_and1 (g_tcmp (op_neU hr.units) sem_ne (g_peek 18) (g_vr (g_ov (g_lst g_nil))) rfl))))) (s_cons (s_many rfl rfl (m_val (g_sub rfl (hu_ofA hr) (g_peek 18) (g_vr g_int)) (m_val (g_ov (g_cutL rfl (g_peek 18) (o_some (g_vr g_int)) o_none)) m_nil)) (pd_put (g_put 19 (hu_ofA hr) (g_var 8)) (pd_name 18 nd pd_nil)))
    (s_one (s_put (g_bin op_add kV_late sem_addI (g_vr (g_sub rfl (hu_ofA hr) (g_peek 22) (g_vr (g_sub rfl (hu_ofA hr) (g_peek 19) (g_peek 8))))) (g_vr g_int)) (g_put 22 (hu_ofA hr) (g_sub rfl (hu_ofA hr) (g_peek 19) (g_peek 8)))))) s_nil)
    (s_cons (s_if (PW.pt (g_and (g_tcmp (op_eqU hr.units) sem_eq (g_peek 7) (g_vr g_int) rfl) (pw_and1 (g_tcmp op_notN sem_isNot (g_vr (g_sub rfl (hu_ofA hr) (g_peek 19) (g_peek 8))) (g_vr g_non) rfl)))) (s_one (s_many rfl rfl (m_val (g_bin op_addU kV_late sem_add (g_peek 20) (g_vr (g_ov (g_lst (g_cons (g_sub rfl (hu_ofA hr) (g_peek 19) (g_peek 8)) g_nil))))) (m_val g_non m_nil)) (pd_name 20 nd (pd_put (g_put 19 (hu_ofA hr) (g_var 8)) pd_nil)))) s_nil)
    (s_one (s_if (PW.pt (g_and (g_tcmp (op_eqU hr.units) sem_eq (g_peek 7) (g_vr g_int) rfl) (pw_and1 (g_tcmp op_notN sem_isNot (g_vr (g_sub rfl (hu_ofA hr) (g_peek 19) (g_peek 8))) (g_vr g_non) rfl)))) (s_cons (s_many rfl rfl (m_val (g_sub rfl (hu_ofA hr) (g_peek 19) (g_peek 8)) (m_val g_non m_nil)) (pd_name 26 nd (pd_put (g_put 19 (hu_ofA hr) (g_var 8)) pd_nil)))
    (s_one (s_par2 (i := 21) (j := 18) rfl nd (m_val (g_bin op_addU kV_late sem_add (g_peek 21) (g_vr (g_if kV_late (g_tcmp op_ge sem_ge (g_vr (g_sub rfl (hu_ofA hr) (g_peek 22) (g_peek 26))) (g_peek 16) rfl) (g_ov (g_lst (g_cons (g_var 26) g_nil))) (g_ov (g_lst g_nil))))) (m_val (g_bin op_addU kV_late sem_add (g_vr (g_if kV_late (g_tcmp op_lt sem_lt (g_vr (g_sub rfl (hu_ofA hr) (g_peek 22) (g_peek 26))) (g_peek 16) rfl) (g_ov (g_lst (g_cons (g_var 26) g_nil))) (g_ov (g_lst g_nil)))) (g_peek 18)) m_nil))))) s_nil))))))))))
    (s_cons (s_asg nd (f_call (ok_run_crew T) (hr.mono (by decide)) tk (g_cons (g_var 15) (g_cons (g_var 16) (g_cons (g_var 17) g_nil)))))
    (s_cons (s_frz [19] (s_if (PW.pt (g_or (g_tcmp (op_neU hr.units) sem_ne (g_vr (g_tup (g_cons (g_ov (g_callTy call_list_of kO_late sem_list T.z_list (by decide +kernel) (r_cons (g_vr (g_att (cs := ["Crew"]) rfl T.a_waiting_Crew (g_var 27))) r_nil))) (g_cons (g_ov (g_callTy call_list_of kO_late sem_list T.z_list (by decide +kernel) (r_cons (g_vr (g_att (cs := ["Crew"]) rfl T.a_held_Crew (g_var 27))) r_nil))) (g_cons (g_ov (g_callTy call_list_of kO_late sem_list T.z_list (by decide +kernel) (r_cons (g_vr (g_att (cs := ["Crew"]) rfl T.a_done_Crew (g_var 27))) r_nil))) (g_cons (g_ov (g_callTy call_list_of kO_late sem_list T.z_list (by decide +kernel) (r_cons (g_vr (g_att (cs := ["Crew"]) rfl T.a_aside_Crew (g_var 27))) r_nil))) g_nil)))))) (g_vr (g_tup (g_cons (g_var 18) (g_cons (g_var 19) (g_cons (g_var 20) (g_cons (g_var 21) g_nil)))))) rfl) (g_or (g_tcmp (op_neDict hr.units) sem_neDct (g_vr (g_ov (g_callTy (cr_dict rfl) kO_late sem_dict T.z_dict (by decide +kernel) (r_cons (g_vr (g_att (cs := ["Crew"]) rfl T.a_taken_Crew (g_var 27))) r_nil)))) (g_peek 22) rfl) (pw_or1 (g_tcmp (op_neU hr.units) sem_ne (g_vr (g_ov (g_callTy call_list_of kO_late sem_list T.z_list (by decide +kernel) (r_cons (g_vr (f_meth0 (l := [("Crew", m_Crew_idle)]) (.cons ((ok_Crew_idle T).mono (k := 1) (by decide)) .nil) (hr.mono (by decide)) tk (g_var 27))) r_nil)))) (g_vr (g_ov (g_lc (own := [("hand", 8)]) rfl nd (i_gc (i_range1 T.z_range (g_cons (g_var 15) g_nil))) (blkOk_by (by kernel_rfl)) (fun _ _ _ _ _ => (b_name 8 nd)) (fun _ _ _ _ _ => (ts_one (g_tcmp op_isN sem_is (g_vr (g_sub rfl (hu_ofA hr) (g_peek 19) (g_peek 8))) (g_vr g_non) rfl))) (fun _ _ _ _ _ => (g_var 8))))) rfl))))) (s_one (s_ret g_bl)) s_nil))
    (s_cons (s_frz [19] (s_if (PW.pt (g_or (g_tcmp (op_neU hr.units) sem_ne (g_vr (g_callTy call_tuple_of kV_late sem_tuple T.z_tuple (by decide +kernel) (r_cons (g_vr (f_meth0 (l := [("Crew", m_Crew_counts)]) (.cons ((ok_Crew_counts T).mono (k := 1) (by decide)) .nil) (hr.mono (by decide)) tk (g_var 27))) r_nil))) (g_vr (g_tup (g_cons (g_callB call_lenU kV_late sem_len T.z_len (by decide +kernel) (r_cons (g_peek 18) r_nil)) (g_cons (g_callB call_lenU kV_late sem_len T.z_len (by decide +kernel) (r_cons (g_vr (g_ov (g_lc (own := [("job", 24)]) rfl nd (i_gc (i_seq rfl (g_var 19))) (blkOk_by (by kernel_rfl)) (fun _ _ _ _ _ => (b_name 24 nd)) (fun _ _ _ _ _ => (ts_one (g_tcmp op_notN sem_isNot (g_peek 24) (g_vr g_non) rfl))) (fun _ _ _ _ _ => g_int)))) r_nil)) (g_cons (g_callB call_lenU kV_late sem_len T.z_len (by decide +kernel) (r_cons (g_peek 20) r_nil)) (g_cons (g_callB call_lenU kV_late sem_len T.z_len (by decide +kernel) (r_cons (g_peek 21) r_nil)) g_nil)))))) rfl) (pw_or1 (g_tcmp (op_neU hr.units) sem_ne (g_vr (g_callB (cr_sum rfl) kV_late sem_sum T.z_sum (by decide +kernel) (r_cons (g_vr (g_ov (g_callTy call_list_of kO_late sem_list T.z_list (by decide +kernel) (r_cons (g_vr (f_meth0 (l := [("Crew", m_Crew_counts)]) (.cons ((ok_Crew_counts T).mono (k := 1) (by decide)) .nil) (hr.mono (by decide)) tk (g_var 27))) r_nil)))) r_nil))) (g_vr (g_callB call_lenU kV_late sem_len T.z_len (by decide +kernel) (r_cons (g_peek 23) r_nil))) rfl)))) (s_one (s_ret g_bl)) s_nil))
    (s_cons (s_par2 (i := 28) (j := 29) rfl nd (m_val (f_call (ok__law_take T) (hr.mono (by decide)) tk (g_cons (g_var 1) (g_cons g_int g_nil))) (m_val (f_call (ok__law_take T) (hr.mono (by decide)) tk (g_cons (g_var 1) (g_cons g_int g_nil))) m_nil)))
    (s_one (s_ret (g_andV rfl (g_cmp (op_eqU hr.units) sem_eq (g_vr (f_call (ok_rounds T) (hr.mono (by decide)) tk (g_cons (g_var 28) (g_cons (g_var 15) g_nil)))) (g_vr (g_bin op_fdiv kV_late sem_fdiv (g_vr (g_bin op_sub kV_late sem_sub (g_vr (g_bin op_add kV_late sem_addI (g_peek 28) (g_peek 15))) (g_vr g_int))) (g_peek 15))) rfl) (g_andV rfl (g_cmp op_le sem_le (g_vr (f_call (ok_most_taken T) (hr.mono (by decide)) tk (g_cons (g_var 28) (g_cons (g_var 29) (g_cons (g_var 16) g_nil))))) (g_vr (g_bin op_mul kV_late sem_mul (g_peek 28) (g_peek 16))) rfl) (g_andV rfl (g_cmp (op_eqU hr.units) sem_eq (g_vr (f_call (ok_most_taken T) (hr.mono (by decide)) tk (g_cons (g_var 28) (g_cons g_int (g_cons (g_var 16) g_nil))))) (g_peek 28) rfl) (g_one (g_cmp (op_eqU hr.units) sem_eq (g_vr (f_call (ok_most_taken T) (hr.mono (by decide)) tk (g_cons g_int (g_cons (g_var 29) (g_cons (g_var 16) g_nil))))) (g_vr g_int) rfl)))))))))))))))))
theorem ok_law (T : Txt K mg) : OkG P w K mg base 8 "law" ["script"] m_law := okG_of T.g_law (fun f fd F => F.binds fun _ _ _ _ _ _ us hl => match us, hl with | [_], _ => rfl) fun f fd F => fn_law T F
end
end Lw
namespace Lw
open Gh L2 PyProof.Rows PySem.Spec PySem
def I (ns : List Int) : List D := ns.map D.int
@[simp] theorem I_len (ns : List Int) : (I ns).length = ns.length := List.length_map ..
@[simp] theorem I_nil : I [] = [] := rfl
theorem I_cons (n : Int) (ns : List Int) : I (n :: ns) = .int n :: I ns := rfl
theorem okI (ns : List Int) (k : Nat) : (I ns).all (okD k) = true := by
  induction ns with
  | nil => rfl
  | cons n r ih =>
    show (okD k (.int n) && (I r).all (okD k)) = true
    rw [ih]
    cases k <;> rfl
theorem upto_map (lo : Int) (n : Nat) : upto lo n = (List.range n).map fun (i : Nat) => D.int (lo + (i : Int)) := rfl
theorem atI_I (ns : List Int) (k : Int) (h0 : 0 ≤ k) (h1 : k < ns.length) : atI (I ns) k = some (.int (ns.getD k.toNat 0)) := by
  unfold atI ixN
  rw [if_pos h0, I_len, if_pos h1, Option.bind_some]
  unfold I
  rw [List.getElem?_map]
  have : k.toNat < ns.length := by omega
  simp [List.getElem?_eq_getElem this, List.getD]
/-! ### the law's own numbers -/
theorem ne_scr (ns : List Int) : eqD (.scr (I ns)) (.lst []) = some (decide (ns = [])) := by
  have h : okD 20 (.scr (I ns)) = true := okI ns 19
  have h2 : okD 20 (.lst []) = true := rfl
  show (if okD 20 (.scr (I ns)) = true ∧ okD 20 (.lst []) = true then some (D.eqv (.scr (I ns)) (.lst [])) else none) = _
  rw [if_pos ⟨h, h2⟩]
  cases ns with
  | nil => rfl
  | cons n r => rfl
theorem number_ok (ns : List Int) (k : Int) (h : 0 ≤ k) (hm : ns.length ≤ 63) (st : Store) : ∃ v, m__law_number [.scr (I ns), .int k] st = .ok (.int v) st := by
  have e0 : ∃ c t : Int, 0 ≤ t ∧ (sAsgT (bTup 2 (bCons (bName 2) (bCons (bName 3) bNil))) (eIf (tB (e2 gNe (ePeek 0) (eLst aNil))) (eTup (aCons (e2 gIx (ePeek 0) (e2 gMod (ePeek 1) (eN gLen (aCons (ePeek 0) aNil)))) (aCons (e2 gFdiv (ePeek 1) (eN gLen (aCons (ePeek 0) aNil))) aNil))) (eTup (aCons (eC (.int 12345)) (aCons (eC (.int 0)) aNil))))) [.val (.scr (I ns)), .val (.int k), .un, .un, .un, .un, .un] st = .nx [.val (.scr (I ns)), .val (.int k), .val (.int c), .val (.int t), .un, .un, .un] st := by
    by_cases hn : ns = []
    · subst hn
      refine ⟨12345, 0, by decide, ?_⟩
      simp [gNe, ne_scr [], flatL, isLoc]
      rfl
    · have hl : 0 < ns.length := List.length_pos_iff.mpr hn
      refine ⟨ns.getD (k % (ns.length : Int)).toNat 0, k / (ns.length : Int), Int.ediv_nonneg h (by omega), ?_⟩
      have e1 := atI_I ns (k % (ns.length : Int)) (Int.emod_nonneg _ (by omega)) (Int.emod_lt_of_pos _ (by omega))
      have e2' : gIx (.scr (I ns)) (.int (k % (ns.length : Int))) st = RC.ok (D.int (ns.getD (k % (ns.length : Int)).toNat 0)) st := by
        show (match itemsOf (.scr (I ns)) with | some ds => (match atI ds (k % (ns.length : Int)) with | some d => RC.ok d st | none => .bad) | none => .bad) = _
        show (match atI (I ns) (k % (ns.length : Int)) with | some d => RC.ok d st | none => .bad) = _
        rw [e1]
      have e3 : ∀ st', gLen [.scr (I ns)] st' = RC.ok (D.int (ns.length : Int)) st' := fun st' => by
        show RC.ok (D.int (((I ns).length : Nat) : Int)) st' = _
        rw [I_len]
      have hk : decide (0 < (ns.length : Int) ∧ (ns.length : Int) < 1073741824) = true := by simp; omega
      have hk2 : decide (0 < (ns.length : Int)) = true := by simp; omega
      have h4 : (ns.length : Int) < 1073741824 := by omega
      simp [gNe, ne_scr ns, hn, flatL, isLoc, e2', e3, hl, h4]
  obtain ⟨c, t, ht, e0⟩ := e0
  suffices q : ∃ v, b__law_number [.val (.scr (I ns)), .val (.int k), .un, .un, .un, .un, .un] st = SR.rt (D.int v) st by
    obtain ⟨v, q⟩ := q
    exact ⟨v, callD_rt0 rfl q rfl⟩
  let P : SR → Prop := fun r => ∃ v, r = SR.rt (D.int v) st
  show P (b__law_number _ st)
  unfold b__law_number
  refine seq_P P e0 ?_
  have e1 : ∃ r0 : Int, (sAsg 4 (eIf (tB (e2 gLt (ePeek 3) (eC (.int 60)))) (e2 gSub (ePeek 2) (e2 gPow (eC (.int 10)) (eC (.int 18)))) (eC (.int 0)))) [.val (.scr (I ns)), .val (.int k), .val (.int c), .val (.int t), .un, .un, .un] st = .nx [.val (.scr (I ns)), .val (.int k), .val (.int c), .val (.int t), .val (.int r0), .un, .un] st := by
    by_cases h60 : t < 60
    · refine ⟨c - 10 ^ 18, ?_⟩
      simp [h60]
      rfl
    · exact ⟨0, by simp [h60]⟩
  obtain ⟨r0, e1⟩ := e1
  refine seq_P P e1 ?_
  have z2 : ∃ (r : Int) (x : Sl), (sFor (lRange1 (aCons (e2 gMod (eN gInt (aCons (ePeek 3) aNil)) (eC (.int 60))) aNil)) (bName 5) lb__law_number_0) [.val (.scr (I ns)), .val (.int k), .val (.int c), .val (.int t), .val (.int r0), .un, .un] st = .nx [.val (.scr (I ns)), .val (.int k), .val (.int c), .val (.int t), .val (.int r), x, .un] st := by
    have hi : (lRange1 (aCons (e2 gMod (eN gInt (aCons (ePeek 3) aNil)) (eC (.int 60))) aNil)) [.val (.scr (I ns)), .val (.int k), .val (.int c), .val (.int t), .val (.int r0), .un, .un] st = .ok ((List.range (t % 60).toNat).map fun (i : Nat) => D.int (0 + (i : Int))) st := by
      have h1 := Int.emod_nonneg t (show (60 : Int) ≠ 0 by decide)
      have h2 := Int.emod_lt_of_pos t (show (0 : Int) < 60 by decide)
      have h3 : -1000000000 ≤ t % 60 ∧ t % 60 ≤ 1000000000 := by omega
      simp [gInt, h3.1, h3.2, upto_map]
    obtain ⟨ρ2, st2, e, r, x, rfl, rfl⟩ := forGo_inv (bd := bName 5) (b := lb__law_number_0) (fun (i : Nat) => D.int (0 + (i : Int))) (fun ρ s => ∃ (r : Int) (x : Sl), ρ = [.val (.scr (I ns)), .val (.int k), .val (.int c), .val (.int t), .val (.int r), x, .un] ∧ s = st) (List.range (t % 60).toNat)
      (by
        rintro i _ ρ s ⟨r, x, rfl, rfl⟩
        exact ⟨_, rfl, _, _, by unfold lb__law_number_0; simp; exact ⟨rfl, rfl⟩, _, _, rfl, rfl⟩) [.val (.scr (I ns)), .val (.int k), .val (.int c), .val (.int t), .val (.int r0), .un, .un] st ⟨r0, .un, rfl, rfl⟩
    refine ⟨r, x, ?_⟩
    rw [r_for, hi]
    exact e
  obtain ⟨r, x, z2⟩ := z2
  refine seq_P P z2 ?_
  by_cases hr : 0 < r
  · refine ⟨r % 1009, ?_⟩
    simp [gInt, hr]
  · have e3 : (sIf (tB (e2 gGt (ePeek 4) (eC (.int 0)))) (sRet (e2 gMod (eN gInt (aCons (ePeek 4) aNil)) (eC (.int 1009)))) sNil) [.val (.scr (I ns)), .val (.int k), .val (.int c), .val (.int t), .val (.int r), x, .un] st = .nx [.val (.scr (I ns)), .val (.int k), .val (.int c), .val (.int t), .val (.int r), x, .un] st := by simp [hr]
    refine seq_P P e3 ?_
    have e4 : ∀ s' : Store, gLen [.scr (I ns)] s' = RC.ok (D.int (ns.length : Int)) s' := fun s' => by
      show RC.ok (D.int (((I ns).length : Nat) : Int)) s' = _
      rw [I_len]
    have sm : ∀ z : Int, -(2 ^ 64) < z → z < 2 ^ 64 → Gh.small64 z = true := fun z h1 h2 => by unfold Gh.small64; simp; omega
    have s1 := sm 977 (by decide) (by decide)
    have s2 := sm 48271 (by decide) (by decide)
    have s3 := sm 31 (by decide) (by decide)
    have s4 := sm 40503 (by decide) (by decide)
    have s5 := sm 69621 (by decide) (by decide)
    obtain ⟨b1, hb1⟩ : ∃ b1, b1 = ((c + 977 * k) * 48271 + 31 * (ns.length : Int)) % 2147483647 := ⟨_, rfl⟩
    have g1 : 0 ≤ b1 := by rw [hb1]; exact Int.emod_nonneg _ (by decide)
    have g2 : b1 < 2147483647 := by rw [hb1]; exact Int.emod_lt_of_pos _ (by decide)
    have s6 := sm b1 (by omega) (by omega)
    have e5 : (sAsg 6 (e2 gMod (e2 gAddI (e2 gMul (eN gInt (aCons (e2 gAddI (ePeek 2) (e2 gMul (eC (.int 977)) (ePeek 1))) aNil)) (eC (.int 48271))) (e2 gMul (eC (.int 31)) (eN gLen (aCons (ePeek 0) aNil)))) (eC (.int 2147483647)))) [.val (.scr (I ns)), .val (.int k), .val (.int c), .val (.int t), .val (.int r), x, .un] st = .nx [.val (.scr (I ns)), .val (.int k), .val (.int c), .val (.int t), .val (.int r), x, .val (.int b1)] st := by
      rw [hb1]
      simp [gInt, e4, s1, s2, s3]
    refine seq_P P e5 ?_
    exact ⟨_, by simp [gInt, s4, s5, s6]; rfl⟩
/-- the law's store: the script, how many were drawn; what else stands there -/
abbrev dr (ns : List Int) (k : Int) (R : Store) : Store := .lst [.scr (I ns), .int k] :: R
theorem take_ok (ns : List Int) (k m : Int) (R : Store) (h : 0 ≤ k) (hm : 0 < m) (hl : ns.length ≤ 63) : ∃ v : Int, 0 ≤ v ∧ v < m ∧ m__law_take [.loc 0, .int m] (dr ns k R) = .ok (.int v) (dr ns (k + 1) R) := by
  obtain ⟨v, hv⟩ := number_ok ns (k + 1) (by omega) hl (dr ns (k + 1) R)
  refine ⟨v % m, Int.emod_nonneg _ (by omega), Int.emod_lt_of_pos _ hm, ?_⟩
  suffices q : m__law_take [.loc 0, .int m] (dr ns k R) = .ok (.int (v % m)) ((dr ns (k + 1) R).take (dr ns k R).length) by
    rw [q]
    congr 1
    exact List.take_length (l := dr ns (k + 1) R)
  refine callD_rt (st' := dr ns (k + 1) R) rfl ?_ rfl
  show b__law_take [.val (.loc 0), .val (.int m)] (dr ns k R) = _
  unfold b__law_take
  have e1 : (sAugI (eVar 0) (eC (.int 1)) gAddI (eC (.int 1))) [.val (.loc 0), .val (.int m)] (dr ns k R) = .nx [.val (.loc 0), .val (.int m)] (dr ns (k + 1) R) := rfl
  rw [seq_nx e1]
  have g0 : gIx (.loc 0) (.int 0) (dr ns (k + 1) R) = .ok (.scr (I ns)) (dr ns (k + 1) R) := rfl
  have g1 : gIx (.loc 0) (.int 1) (dr ns (k + 1) R) = .ok (.int (k + 1)) (dr ns (k + 1) R) := rfl
  simp [g0, g1, gInt, hv, hm]
end Lw
namespace Lw
open Gh L2 PyProof.Rows PySem.Spec PySem
abbrev Nm (s : Str) : Prop := s = "a" ∨ s = "b" ∨ s = "c"
abbrev Nx (s : Str) : Prop := s = "x" ∨ s = "y"
theorem Nm.ok {s : Str} (h : Nm s) (k : Nat) : okD k (.str s) = true := by
  rcases h with rfl | rfl | rfl <;> cases k <;> kernel_rfl
theorem Nx.ok {s : Str} (h : Nx s) (k : Nat) : okD k (.str s) = true := by
  rcases h with rfl | rfl <;> cases k <;> kernel_rfl
structure N3 where
  (n : Str) (h : Str) (i : Int)
def N3.p (e : N3) : D := .tup [.str e.h, .int e.i]
def N3.d (e : N3) : Key × D := (.inr e.n, e.p)
def nmD (l : List N3) : List (Key × D) := l.map N3.d
def upE (p : Str × Int) : Key × D := (.inr p.1, .int p.2)
def upD (l : List (Str × Int)) : List (Key × D) := l.map upE
structure S where
  (lv : List (Key × D)) (up : List (Str × Int)) (nm : List N3)
abbrev RD (s : S) : D := .ins "Registry" [("lives", .dct s.lv), ("up", .dct (upD s.up)), ("names", .dct (nmD s.nm))]
structure Ok (s : S) (t : Nat) : Prop where
  nd : (keysD s.lv).Nodup
  vi : ∀ p ∈ s.lv, ∃ i, p.2 = .int i
  ll : s.lv.length ≤ t
  un : (s.up.map (·.1)).Nodup
  ul : s.up.length ≤ t
  uk : ∀ p ∈ s.up, Nm p.1 ∧ valD s.lv (.inr p.1) = some (.int p.2)
  nl : s.nm.length ≤ t
  nn : (s.nm.map (·.n)).Nodup
  nx : ∀ e ∈ s.nm, Nx e.n
  nh : ∀ e ∈ s.nm, (e.h, e.i) ∈ s.up
  nu : (s.nm.map (·.h)).Nodup
/-! dicts that are made of a list -/
theorem keys_of {α : Type} (fk : α → Str) (f : α → D) (l : List α) : keysD (l.map fun a => (Sum.inr (fk a), f a)) = (l.map fk).map Sum.inr := by
  rw [keysD, List.map_map, List.map_map]
  rfl
theorem val_of {α : Type} (fk : α → Str) (f : α → D) : ∀ {l : List α} {a : α}, (l.map fk).Nodup → a ∈ l → valD (l.map fun a => (Sum.inr (fk a), f a)) (.inr (fk a)) = some (f a)
  | b :: l, a, nd, h => by
    rw [List.map_cons, List.nodup_cons] at nd
    rw [List.map_cons]
    unfold valD
    rcases List.mem_cons.mp h with rfl | h
    · simp
    · have ne : fk b ≠ fk a := fun e => nd.1 (e ▸ List.mem_map_of_mem h)
      have ih := val_of fk f nd.2 h
      unfold valD at ih
      rw [List.find?_cons_of_neg (by simpa using ne)]
      exact ih
theorem val_no {α : Type} (fk : α → Str) (f : α → D) {l : List α} {k : Str} (h : k ∉ l.map fk) : valD (l.map fun a => (Sum.inr (fk a), f a)) (.inr k) = none := by
  cases e : valD (l.map fun a => (Sum.inr (fk a), f a)) (.inr k) with
  | none => rfl
  | some d =>
    have : (Sum.inr k : Key) ∈ keysD (l.map fun a => (Sum.inr (fk a), f a)) := valD_some.mp (by rw [e]; rfl)
    rw [keys_of] at this
    exact absurd (by simpa using this) h
theorem in_of {α : Type} (fk : α → Str) (f : α → D) {l : List α} {k : Str} : (valD (l.map fun a => (Sum.inr (fk a), f a)) (.inr k)).isSome = decide (k ∈ l.map fk) := by
  have : ((valD (l.map fun a => (Sum.inr (fk a), f a)) (.inr k)).isSome = true) ↔ k ∈ l.map fk := by
    rw [valD_some, keys_of]
    simp
  by_cases h : k ∈ l.map fk
  · rw [this.mpr h]; simp [h]
  · rw [decide_eq_false h]
    exact Bool.eq_false_iff.mpr fun z => h (this.mp z)
theorem callD_excL {np nl : Nat} {body : SDen} {ds : List D} {st st' : Store} {ρ' : REnv} {c : Str} {fs : List (Str × D)} (hs : st'.length = st.length) (hl : ds.length = np) (h : body (ds.map Sl.val ++ List.replicate (nl - np) Sl.un) st = .exc c fs ρ' st') : callD np nl body ds st = .exc c fs st' := by
  rw [callD_exc hl h, ← hs, List.take_length]
theorem callD_rtL {np nl : Nat} {body : SDen} {ds : List D} {st st' : Store} {x : D} (hs : st'.length = st.length) (hl : ds.length = np) (h : body (ds.map Sl.val ++ List.replicate (nl - np) Sl.un) st = .rt x st') (hx : isLoc x = false) : callD np nl body ds st = .ok x st' := by
  rw [callD_rt hl h hx, ← hs, List.take_length]
section
variable {A : D} {s : S} {ρ : REnv} {R : List D}
theorem at_lives : eAttC "lives" ["Registry"] (.loc 1) (A :: RD s :: R) = .ok (.dct s.lv) (A :: RD s :: R) := by kernel_rfl
theorem at_up : eAttC "up" ["Registry"] (.loc 1) (A :: RD s :: R) = .ok (.dct (upD s.up)) (A :: RD s :: R) := by kernel_rfl
theorem at_names : eAttC "names" ["Registry"] (.loc 1) (A :: RD s :: R) = .ok (.dct (nmD s.nm)) (A :: RD s :: R) := by kernel_rfl
theorem set_lives {mv : EDen} {x : List (Key × D)} (h0 : ρ[0]? = some (.val (.loc 1))) (h : mv ρ (A :: RD s :: R) = .ok (.dct x) (A :: RD s :: R)) : sAtt "lives" ["Registry"] (eVar 0) mv ρ (A :: RD s :: R) = .nx ρ (A :: RD { s with lv := x } :: R) := by
  rw [r_att, h]
  show (eVar 0 ρ (A :: RD s :: R)).s ρ _ = _
  rw [r_var, h0]
  kernel_rfl
theorem set_up {mv : EDen} {x : List (Str × Int)} (h0 : ρ[0]? = some (.val (.loc 1))) (h : mv ρ (A :: RD s :: R) = .ok (.dct (upD x)) (A :: RD s :: R)) : sAtt "up" ["Registry"] (eVar 0) mv ρ (A :: RD s :: R) = .nx ρ (A :: RD { s with up := x } :: R) := by
  rw [r_att, h]
  show (eVar 0 ρ (A :: RD s :: R)).s ρ _ = _
  rw [r_var, h0]
  kernel_rfl
theorem set_names {mv : EDen} {x : List N3} (h0 : ρ[0]? = some (.val (.loc 1))) (h : mv ρ (A :: RD s :: R) = .ok (.dct (nmD x)) (A :: RD s :: R)) : sAtt "names" ["Registry"] (eVar 0) mv ρ (A :: RD s :: R) = .nx ρ (A :: RD { s with nm := x } :: R) := by
  rw [r_att, h]
  show (eVar 0 ρ (A :: RD s :: R)).s ρ _ = _
  rw [r_var, h0]
  kernel_rfl
end
theorem name_ok {x : Str} (h : Nm x ∨ Nx x) (st : Store) : m_is_name [.str x] st = .ok (.bl true) st := by
  rcases h with (rfl | rfl | rfl) | rfl | rfl <;> exact callD_rt0 rfl (by kernel_rfl) rfl
theorem check_name_ok {x p : Str} (h : Nm x ∨ Nx x) (st : Store) : m_check_name [.str p, .str x] st = .ok .non st := by
  refine callD_nx0 (ρ' := [.val (.str p), .val (.str x)]) rfl ?_
  show b_check_name [.val (.str p), .val (.str x)] st = _
  simp [b_check_name, name_ok h]
section
variable {A : D} {s : S} {x y : Str} {t : Nat} {ρ : REnv} {R : List D} {i : Int}
abbrev BP (p : Str) : List (Str × D) := [("place", .non), ("part", .str p)]
abbrev isUp (s : S) (x : Str) : Prop := x ∈ s.up.map (·.1)
theorem in_up : (valD (upD s.up) (.inr x)).isSome = decide (isUp s x) := in_of (α := Str × Int) (fun p => p.1) (fun p => D.int p.2)
theorem check_up_ok (h : Nm x) (hu : isUp s x) : m_Registry_check_up [.loc 1, .str x] (A :: RD s :: R) = .ok .non (A :: RD s :: R) := by
  refine callD_nx0 (ρ' := [.val (.loc 1), .val (.str x)]) rfl ?_
  show b_Registry_check_up [.val (.loc 1), .val (.str x)] (A :: RD s :: R) = _
  unfold isUp at hu
  simp only [b_Registry_check_up, r_seq, r_drop, v_call (ds := [.str "hand", .str x]) (f := m_check_name) (ms := aCons (eC (.str "hand")) (aCons (eVar 1) aNil)) (ρ := [.val (.loc 1), .val (.str x)]) (st := A :: RD s :: R) (st1 := A :: RD s :: R) rfl, check_name_ok (.inl h)]
  simp [at_up, notin_dct (r_keyS x), in_up, hu]
theorem check_up_bad (h : Nm x) (hu : ¬ isUp s x) : m_Registry_check_up [.loc 1, .str x] (A :: RD s :: R) = .exc "BadPart" (BP "hand") (A :: RD s :: R) := by
  refine callD_excL rfl (st' := A :: RD s :: R) (ρ' := [.val (.loc 1), .val (.str x)]) rfl ?_
  show b_Registry_check_up [.val (.loc 1), .val (.str x)] (A :: RD s :: R) = _
  unfold isUp at hu
  simp only [b_Registry_check_up, r_seq, r_drop, v_call (ds := [.str "hand", .str x]) (f := m_check_name) (ms := aCons (eC (.str "hand")) (aCons (eVar 1) aNil)) (ρ := [.val (.loc 1), .val (.str x)]) (st := A :: RD s :: R) (st1 := A :: RD s :: R) rfl, check_name_ok (.inl h)]
  simp [at_up, notin_dct (r_keyS x), in_up, hu, flatL, isLoc]
theorem eq_pair {a b : Str} (ha : Nm a) (hb : Nm b) (i j : Int) (st : Store) : gEq (.tup [.str a, .int i]) (.tup [.str b, .int j]) st = .ok (.bl (decide (a = b) && decide (i = j))) st := by
  have k1 : ∀ {a : Str} {i : Int}, Nm a → okD 20 (.tup [.str a, .int i]) = true := fun {a i} h => by
    show (okD 19 (.str a) && (okD 19 (.int i) && true)) = true
    rw [h.ok]; rfl
  unfold gEq eqD
  show (match (if okD 20 (.tup [.str a, .int i]) = true ∧ okD 20 (.tup [.str b, .int j]) = true then some (D.eqv (.tup [.str a, .int i]) (.tup [.str b, .int j])) else none) with | some b => RC.ok (D.bl b) st | none => .bad) = _
  rw [if_pos ⟨k1 ha, k1 hb⟩]
  simp [D.eqv, eqvL, Bool.beq_eq_decide_eq]
abbrev holds (l : List N3) (x : Str) : List N3 := l.filter fun e => decide (e.h = x)
def nameD : List N3 → D
  | e :: _ => .str e.n
  | [] => .non
theorem Ok.val (o : Ok s t) (k : Key) : ∃ i : Int, (valD s.lv k).getD (.int 0) = .int i := by
  cases h : valD s.lv k with
  | none => exact ⟨0, rfl⟩
  | some d => exact o.vi _ (valD_mem h)
theorem Ok.life (o : Ok s t) (hu : isUp s x) : ∃ i : Int, (x, i) ∈ s.up := by
  obtain ⟨p, hp, rfl⟩ := List.mem_map.mp hu
  exact ⟨p.2, hp⟩
theorem Ok.upv (o : Ok s t) (h : (x, i) ∈ s.up) : valD (upD s.up) (.inr x) = some (.int i) := val_of (α := Str × Int) (fun p => p.1) (fun p => D.int p.2) o.un h
theorem Ok.one (o : Ok s t) {j : Int} (h : (x, i) ∈ s.up) (h2 : (x, j) ∈ s.up) : i = j := by
  have a := o.upv h
  rw [o.upv h2] at a
  cases a; rfl
theorem Ok.nmv (o : Ok s t) {e : N3} (h : e ∈ s.nm) : valD (nmD s.nm) (.inr e.n) = some e.p := val_of (α := N3) (fun e => e.n) N3.p o.nn h
theorem Ok.hNm (o : Ok s t) {e : N3} (h : e ∈ s.nm) : Nm e.h := (o.uk _ (o.nh e h)).1
theorem in_nm : (valD (nmD s.nm) (.inr x)).isSome = decide (x ∈ s.nm.map (·.n)) := in_of (α := N3) (fun e => e.n) N3.p
theorem name_of_ok (o : Ok s t) (ht : t < 900) (h : Nm x) (hu : isUp s x) : m_Registry_name_of [.loc 1, .str x] (A :: RD s :: R) = .ok (nameD (holds s.nm x)) (A :: RD s :: R) := by
  obtain ⟨i, hi⟩ := o.life hu
  have lf : isLoc (nameD (holds s.nm x)) = false := by cases holds s.nm x <;> rfl
  refine callD_rt0 rfl ?_ lf
  show b_Registry_name_of [.val (.loc 1), .val (.str x), .un, .un] (A :: RD s :: R) = _
  unfold b_Registry_name_of
  have e : eMethU [("Registry", m_Registry_check_up)] "check_up" (eVar 0) (aCons (eVar 1) aNil) [.val (.loc 1), .val (.str x), .un, .un] (A :: RD s :: R) = m_Registry_check_up [.loc 1, .str x] (A :: RD s :: R) := by kernel_rfl
  rw [seq_nx (ρ' := [.val (.loc 1), .val (.str x), .un, .un]) (st' := A :: RD s :: R) (by rw [r_drop, e, check_up_ok h hu]; rfl)]
  have l3 := o.nl
  have e1 := eComp_map (mi := lD (Gh.e1 (eAttC "names" ["Registry"]) (eVar 0)) (fun p => keyD p.1)) (bd := bName 3) (t := ct_Registry_name_of_0) (me := eVar 3) (vs := [3]) (ρ := [.val (.loc 1), .val (.str x), .un, .un]) (st := A :: RD s :: R) (fun e : N3 => .str e.n) (fun e : N3 => .str e.n) (fun e : N3 => decide (e.h = x)) s.nm (by
    unfold lD
    simp only [r_e1, r_var]
    simp [at_names, nmD, N3.d, keyD]) (by omega) fun z hz => ⟨_, rfl, by
      unfold ct_Registry_name_of_0
      have k1 : ∀ st : Store, gIx (.dct (nmD s.nm)) (.str z.n) st = .ok z.p st := fun st => by simp [gIx, o.nmv hz]
      have k2 : ∀ st : Store, gIx (.dct (upD s.up)) (.str x) st = .ok (.int i) st := fun st => by simp [gIx, o.upv hi]
      have k3 := eq_pair (o.hNm hz) h z.i i
      have k4 : (decide (z.h = x) && decide (z.i = i)) = decide (z.h = x) := by
        by_cases q : z.h = x
        · have := o.nh z hz
          rw [q] at this
          simp [q, o.one this hi]
        · simp [q]
      simp only [r_tB, r_e2, r_e1, r_peek, r_tup, r_aCons, r_aNil, r_c, wipeR, r_var]
      simp [at_names, at_up, k1, k2, N3.p, k3, k4, flatL, isLoc], fun _ => ⟨rfl, rfl⟩⟩
  rw [seq_nx (ρ' := [.val (.loc 1), .val (.str x), .val (.lst ((holds s.nm x).map fun e => .str e.n)), .un]) (st' := A :: RD s :: R) (by rw [r_val, r_asgO, e1]; rfl)]
  cases q : holds s.nm x with
  | nil => kernel_rfl
  | cons e r =>
    have k : gNe (.lst ((e :: r).map fun e => .str e.n)) (.lst []) (A :: RD s :: R) = .ok (.bl true) (A :: RD s :: R) := by
      unfold gNe eqD
      have hn : ∀ z ∈ (e :: r), Nx z.n := fun z hz => o.nx z (List.mem_filter.mp (q ▸ hz)).1
      have k1 : okD 20 (.lst ((e :: r).map fun e => .str e.n)) = true := by
        show (((e :: r).map fun e : N3 => D.str e.n).all (okD 19)) = true
        rw [List.all_map]
        exact List.all_eq_true.mpr fun z hz => (hn z hz).ok 19
      show (match (if okD 20 (.lst ((e :: r).map fun e => .str e.n)) = true ∧ okD 20 (.lst []) = true then some (D.eqv (.lst ((e :: r).map fun e => .str e.n)) (.lst [])) else none) with | some b => RC.ok (D.bl !b) (A :: RD s :: R) | none => .bad) = _
      rw [if_pos ⟨k1, rfl⟩]
      simp [D.eqv, eqvL]
    have g : ∀ st : Store, gIx (.lst ((e :: r).map fun e => .str e.n)) (.int 0) st = .ok (.str e.n) st := fun st => by simp [gIx, itemsOf, atI, ixN]
    exact v_ret (by
      rw [r_eIf, v_tB ((v_e2 (x := .lst ((e :: r).map fun e => .str e.n)) (y := .lst []) (st1 := A :: RD s :: R) (st2 := A :: RD s :: R) rfl rfl).trans k), RC.bind_ok]
      exact (v_e2 (x := .lst ((e :: r).map fun e => .str e.n)) (y := .int 0) (st1 := A :: RD s :: R) (st2 := A :: RD s :: R) rfl rfl).trans (g _))
end
end Lw
namespace Lw
open Gh L2 PyProof.Rows PySem.Spec PySem
section
variable {A : D} {s : S} {x y : Str} {t : Nat} {ρ : REnv} {R : List D} {i : Int}
theorem ev_up (h0 : ρ[0]? = some (.val (.loc 1))) : Gh.e1 (eAttC "up" ["Registry"]) (eVar 0) ρ (A :: RD s :: R) = .ok (.dct (upD s.up)) (A :: RD s :: R) := by rw [r_e1, r_var, h0]; exact at_up
theorem ev_names (h0 : ρ[0]? = some (.val (.loc 1))) : Gh.e1 (eAttC "names" ["Registry"]) (eVar 0) ρ (A :: RD s :: R) = .ok (.dct (nmD s.nm)) (A :: RD s :: R) := by rw [r_e1, r_var, h0]; exact at_names
theorem ev_lives (h0 : ρ[0]? = some (.val (.loc 1))) : Gh.e1 (eAttC "lives" ["Registry"]) (eVar 0) ρ (A :: RD s :: R) = .ok (.dct s.lv) (A :: RD s :: R) := by rw [r_e1, r_var, h0]; exact at_lives
theorem name_of_bad (h : Nm x) (hu : ¬ isUp s x) : m_Registry_name_of [.loc 1, .str x] (A :: RD s :: R) = .exc "BadPart" (BP "hand") (A :: RD s :: R) := by
  refine callD_excL rfl (st' := A :: RD s :: R) (ρ' := [.val (.loc 1), .val (.str x), .un, .un]) rfl ?_
  show b_Registry_name_of [.val (.loc 1), .val (.str x), .un, .un] (A :: RD s :: R) = _
  unfold b_Registry_name_of
  have e : eMethU [("Registry", m_Registry_check_up)] "check_up" (eVar 0) (aCons (eVar 1) aNil) [.val (.loc 1), .val (.str x), .un, .un] (A :: RD s :: R) = m_Registry_check_up [.loc 1, .str x] (A :: RD s :: R) := by kernel_rfl
  exact seq_exc (by rw [r_drop, e, check_up_bad h hu]; rfl)
theorem start_bad (h : Nm x) (hu : isUp s x) : m_Registry_start [.loc 1, .str x] (A :: RD s :: R) = .exc "BadPart" (BP "hand") (A :: RD s :: R) := by
  refine callD_excL rfl (st' := A :: RD s :: R) (ρ' := [.val (.loc 1), .val (.str x)]) rfl ?_
  show b_Registry_start [.val (.loc 1), .val (.str x)] (A :: RD s :: R) = _
  unfold b_Registry_start
  rw [seq_nx (ρ' := [.val (.loc 1), .val (.str x)]) (st' := A :: RD s :: R) (v_drop ((v_call (ds := [.str "hand", .str x]) rfl).trans (check_name_ok (.inl h) _)))]
  refine seq_exc ?_
  unfold isUp at hu
  simp [at_up, in_dct (r_keyS x), in_up, hu, flatL, isLoc]
theorem mergeUp (o : Ok s t) : mergeD [] (upD s.up) = upD s.up := mergeD_id (by
  rw [upD, keysD, List.map_map]
  have := o.un
  rw [List.nodup_iff_pairwise_ne, List.pairwise_map] at this ⊢
  exact this.imp fun {a b} n e => n (Sum.inr.inj e))
theorem mergeNm {l : List N3} (o : (l.map (·.n)).Nodup) : mergeD [] (nmD l) = nmD l := mergeD_id (by
  rw [nmD, keysD, List.map_map]
  rw [List.nodup_iff_pairwise_ne, List.pairwise_map] at o ⊢
  exact o.imp fun {a b} n e => n (Sum.inr.inj e))
theorem keysUp (l : List (Str × Int)) : keysD (upD l) = (l.map (·.1)).map Sum.inr := keys_of (α := Str × Int) (fun p => p.1) (fun p => D.int p.2) l
theorem keysNm (l : List N3) : keysD (nmD l) = (l.map (·.n)).map Sum.inr := keys_of (α := N3) (fun e => e.n) N3.p l
theorem upD_add (hu : ¬ isUp s x) (o : Ok s t) (i : Int) : putD (mergeD [] (upD s.up)) (.inr x) (.int i) = upD (s.up ++ [(x, i)]) := by
  rw [mergeUp o, putD_new]
  · unfold upD; rw [List.map_append]; rfl
  · rw [keysUp]
    simpa [isUp] using hu
def started (s : S) (x : Str) (i : Int) : S := { s with lv := putD s.lv (.inr x) (.int (i + 1)), up := s.up ++ [(x, i + 1)] }
theorem start_ok (o : Ok s t) (ht : t < 900) (h : Nm x) (hu : ¬ isUp s x) (hi : (valD s.lv (.inr x)).getD (.int 0) = .int i) : m_Registry_start [.loc 1, .str x] (A :: RD s :: R) = .ok (.tup [.str x, .int (i + 1)]) (A :: RD (started s x i) :: R) := by
  refine callD_rtL (st' := A :: RD (started s x i) :: R) rfl rfl ?_ rfl
  show b_Registry_start [.val (.loc 1), .val (.str x)] (A :: RD s :: R) = _
  unfold b_Registry_start
  rw [seq_nx (ρ' := [.val (.loc 1), .val (.str x)]) (st' := A :: RD s :: R) (v_drop ((v_call (ds := [.str "hand", .str x]) rfl).trans (check_name_ok (.inl h) _)))]
  rw [seq_nx (ρ' := [.val (.loc 1), .val (.str x)]) (st' := A :: RD s :: R) (by unfold isUp at hu; simp [at_up, in_dct (r_keyS x), in_up, hu])]
  have l1 := o.ll
  have l2 := o.ul
  rw [seq_nx (set_lives (x := putD s.lv (.inr x) (.int (i + 1))) rfl (by simp [at_lives, hi, show s.lv.length < 1000000 by omega, isLoc, mergeD_id o.nd]))]
  have e := upD_add hu o (i + 1)
  rw [seq_nx (set_up (x := s.up ++ [(x, i + 1)]) rfl (by
    have hl : (upD s.up).length < 1000000 := by rw [upD, List.length_map]; omega
    simp [at_up, at_lives, gIx, valD_put, hl, isLoc, e]))]
  simp [at_lives, gIx, valD_put, flatL, isLoc]
  exact ⟨rfl, rfl, rfl⟩
/-! end -/
def ended (s : S) (x : Str) : S := { s with nm := s.nm.filter fun e => !decide (e.h = x), up := s.up.filter fun p => !decide (p.1 = x) }
def isName (d : D) (n : Str) : Bool := match d with
  | .str m => decide (m = n)
  | _ => false
theorem nodup_inj {α β : Type} {f : α → β} {a b : α} : ∀ {l : List α}, (l.map f).Nodup → a ∈ l → b ∈ l → f a = f b → a = b
  | c :: l, nd, ha, hb, e => by
    rw [List.map_cons, List.nodup_cons] at nd
    rcases List.mem_cons.mp ha with h1 | h1 <;> rcases List.mem_cons.mp hb with h2 | h2
    · exact h1.trans h2.symm
    · exact absurd (by rw [← h1, e]; exact List.mem_map_of_mem h2) nd.1
    · exact absurd (by rw [← h2, ← e]; exact List.mem_map_of_mem h1) nd.1
    · exact nodup_inj nd.2 h1 h2 e
theorem filt_name (o : Ok s t) (h : Nm x) : (s.nm.filter fun e => !isName (nameD (holds s.nm x)) e.n) = s.nm.filter fun e => !decide (e.h = x) := by
  refine List.filter_congr fun e he => ?_
  congr 1
  cases q : holds s.nm x with
  | nil =>
    have : e.h ≠ x := fun z => by
      have : e ∈ holds s.nm x := List.mem_filter.mpr ⟨he, by simp [z]⟩
      rw [q] at this
      cases this
    simp [nameD, isName, this]
  | cons f r =>
    have hf : f ∈ holds s.nm x := by rw [q]; exact List.mem_cons_self
    obtain ⟨f1, f2⟩ := List.mem_filter.mp hf
    have f2 : f.h = x := by simpa using f2
    have key : (f.n = e.n) ↔ e.h = x := by
      constructor
      · intro z
        have : f = e := nodup_inj o.nn f1 he z
        rw [← this]; exact f2
      · intro z
        have : f = e := nodup_inj o.nu f1 he (by rw [f2, z])
        rw [this]
    by_cases z : e.h = x
    · simp [nameD, isName, z, key.mpr z]
    · simp [nameD, isName, z]
      exact fun w => z (key.mp w)
theorem ne_name {e : N3} (d : D) (hd : (∃ m, d = .str m) ∨ d = .non) (st : Store) : gNe (.str e.n) d st = .ok (.bl (!isName d e.n)) st := by
  rcases hd with ⟨m, rfl⟩ | rfl
  · rw [r_neSS]
    unfold isName
    rw [decide_eq_decide.mpr (eq_comm (a := e.n) (b := m))]
  · rfl
theorem nameD_is (l : List N3) : (∃ m, nameD l = .str m) ∨ nameD l = .non := by
  cases l with
  | nil => exact .inr rfl
  | cons e r => exact .inl ⟨e.n, rfl⟩
/-- the names without that of x, as the book writes them anew -/
theorem names_less (o : Ok s t) (ht : t < 900) (h : Nm x) {tt : TDen} {mv : EDen} {j : Nat} (hj : ∀ v, (wipeR ρ [j]).set j v = (wipeR ρ [j]).set j v) (ha : ∀ (e : N3), e ∈ s.nm → tt ((wipeR ρ [j]).set j (.val (.str e.n))) (A :: RD s :: R) = .ok (!isName (nameD (holds s.nm x)) e.n) (A :: RD s :: R) ∧
      eVar j ((wipeR ρ [j]).set j (.val (.str e.n))) (A :: RD s :: R) = .ok (.str e.n) (A :: RD s :: R) ∧ mv ((wipeR ρ [j]).set j (.val (.str e.n))) (A :: RD s :: R) = .ok e.p (A :: RD s :: R)) (h0 : ρ[0]? = some (.val (.loc 1))) :
    eDComp (lD (Gh.e1 (eAttC "names" ["Registry"]) (eVar 0)) (fun p => keyD p.1)) (bName j) tt (eVar j) mv [j] ρ (A :: RD s :: R) = .ok (.dct (nmD (s.nm.filter fun e => !decide (e.h = x)))) (A :: RD s :: R) := by
  have l3 := o.nl
  rw [eDComp_map (fun e : N3 => .str e.n) (fun e : N3 => .inr e.n) (fun e : N3 => e.p) (fun e : N3 => !isName (nameD (holds s.nm x)) e.n) s.nm (by
    unfold lD
    simp only [r_e1, r_var, h0]
    simp [at_names, nmD, N3.d, keyD]) (by omega) fun e he => ⟨_, rfl, (ha e he).1, fun _ => ⟨_, (ha e he).2.1, rfl, (ha e he).2.2, rfl⟩⟩]
  rw [filt_name o h]
  show RC.ok (D.dct (mergeD [] (nmD (s.nm.filter fun e => !decide (e.h = x))))) _ = _
  rw [mergeNm]
  have := o.nn
  rw [List.nodup_iff_pairwise_ne, List.pairwise_map] at this ⊢
  exact this.filter _
theorem end_bad (h : Nm x) (hu : ¬ isUp s x) : m_Registry_end [.loc 1, .str x] (A :: RD s :: R) = .exc "BadPart" (BP "hand") (A :: RD s :: R) := by
  refine callD_excL rfl (st' := A :: RD s :: R) (ρ' := [.val (.loc 1), .val (.str x), .un, .un, .un]) rfl ?_
  show b_Registry_end [.val (.loc 1), .val (.str x), .un, .un, .un] (A :: RD s :: R) = _
  unfold b_Registry_end
  have e : eMethU [("Registry", m_Registry_check_up)] "check_up" (eVar 0) (aCons (eVar 1) aNil) [.val (.loc 1), .val (.str x), .un, .un, .un] (A :: RD s :: R) = m_Registry_check_up [.loc 1, .str x] (A :: RD s :: R) := by kernel_rfl
  exact seq_exc (by rw [r_drop, e, check_up_bad h hu]; rfl)
theorem end_ok (o : Ok s t) (ht : t < 900) (h : Nm x) (hu : isUp s x) : m_Registry_end [.loc 1, .str x] (A :: RD s :: R) = .ok (nameD (holds s.nm x)) (A :: RD (ended s x) :: R) := by
  have lf : isLoc (nameD (holds s.nm x)) = false := by cases holds s.nm x <;> rfl
  refine callD_rtL (st' := A :: RD (ended s x) :: R) rfl rfl ?_ lf
  show b_Registry_end [.val (.loc 1), .val (.str x), .un, .un, .un] (A :: RD s :: R) = _
  unfold b_Registry_end
  have e : eMethU [("Registry", m_Registry_check_up)] "check_up" (eVar 0) (aCons (eVar 1) aNil) [.val (.loc 1), .val (.str x), .un, .un, .un] (A :: RD s :: R) = m_Registry_check_up [.loc 1, .str x] (A :: RD s :: R) := by kernel_rfl
  rw [seq_nx (ρ' := [.val (.loc 1), .val (.str x), .un, .un, .un]) (st' := A :: RD s :: R) (by rw [r_drop, e, check_up_ok h hu]; rfl)]
  have e2 : eMethU [("Registry", m_Registry_name_of)] "name_of" (eVar 0) (aCons (eVar 1) aNil) [.val (.loc 1), .val (.str x), .un, .un, .un] (A :: RD s :: R) = m_Registry_name_of [.loc 1, .str x] (A :: RD s :: R) := by kernel_rfl
  rw [seq_nx (v_asg (e2.trans (name_of_ok o ht h hu)))]
  show sSeq _ _ [.val (.loc 1), .val (.str x), .val (nameD (holds s.nm x)), .un, .un] _ = _
  rw [seq_nx (set_names (x := s.nm.filter fun e => !decide (e.h = x)) rfl (names_less o ht h (fun _ => rfl) (fun z hz => ⟨by
    unfold ct_Registry_end_1
    exact v_tB ((v_e2 (x := .str z.n) (y := nameD (holds s.nm x)) rfl rfl).trans (ne_name _ (nameD_is _) _)), rfl, by
    unfold ce_Registry_end_0
    have k1 : ∀ st : Store, gIx (.dct (nmD s.nm)) (.str z.n) st = .ok z.p st := fun st => by simp [gIx, o.nmv hz]
    exact (v_e2 (ev_names rfl) rfl).trans (k1 _)⟩) rfl))]
  have l2 := o.ul
  rw [seq_nx (set_up (s := { s with nm := s.nm.filter fun e => !decide (e.h = x) }) (x := s.up.filter fun p => !decide (p.1 = x)) rfl (by
    rw [eDComp_map (fun p : Str × Int => .str p.1) (fun p : Str × Int => .inr p.1) (fun p : Str × Int => .int p.2) (fun p : Str × Int => !decide (p.1 = x)) s.up (by
      unfold lD
      simp only [r_e1, r_var]
      simp [at_up, upD, upE, keyD]) (by omega) fun p hp => ⟨_, rfl, by
        unfold ct_Registry_end_3
        exact v_tB ((v_e2 (x := .str p.1) (y := .str x) rfl rfl).trans (r_neSS ..)), fun _ => ⟨_, rfl, rfl, by
        unfold ce_Registry_end_2
        have k1 : ∀ st : Store, gIx (.dct (upD s.up)) (.str p.1) st = .ok (.int p.2) st := fun st => by simp [gIx, o.upv hp]
        exact (v_e2 (ev_up rfl) rfl).trans (k1 _), rfl⟩⟩]
    show RC.ok (D.dct (mergeD [] (upD (s.up.filter fun p => !decide (p.1 = x))))) _ = _
    rw [mergeD_id]
    rw [keysUp]
    have := o.un
    rw [List.nodup_iff_pairwise_ne, List.pairwise_map] at this
    rw [List.nodup_iff_pairwise_ne, List.pairwise_map, List.pairwise_map]
    exact (this.filter _).imp fun {a b} n e => n (Sum.inr.inj e)))]
  rfl
end
end Lw
namespace Lw
open Gh L2 PyProof.Rows PySem.Spec PySem
section
variable {A : D} {s : S} {x y n : Str} {t : Nat} {ρ : REnv} {R : List D} {i : Int}
/-! take -/
/-- who has the name -/
def owner (l : List N3) (n : Str) : Option N3 := l.find? fun e => decide (e.n = n)
theorem owner_mem {l : List N3} {e : N3} (h : owner l n = some e) : e ∈ l ∧ e.n = n := ⟨List.mem_of_find?_eq_some h, by simpa using List.find?_some h⟩
theorem owner_none {l : List N3} (h : owner l n = none) : n ∉ l.map (·.n) := fun z => by
  obtain ⟨e, he, hn⟩ := List.mem_map.mp z
  have := List.find?_eq_none.mp h e he
  simp [hn] at this
def taken (s : S) (x n : Str) (i : Int) : S := { s with nm := (s.nm.filter fun e => !decide (e.h = x)) ++ [⟨n, x, i⟩] }
theorem take_bad (hn : Nx n) (h : Nm x) (hu : ¬ isUp s x) : m_Registry_take [.loc 1, .str n, .str x] (A :: RD s :: R) = .exc "BadPart" (BP "hand") (A :: RD s :: R) := by
  refine callD_excL rfl (st' := A :: RD s :: R) (ρ' := [.val (.loc 1), .val (.str n), .val (.str x), .un, .un]) rfl ?_
  show b_Registry_take [.val (.loc 1), .val (.str n), .val (.str x), .un, .un] (A :: RD s :: R) = _
  unfold b_Registry_take
  rw [seq_nx (ρ' := [.val (.loc 1), .val (.str n), .val (.str x), .un, .un]) (st' := A :: RD s :: R) (v_drop ((v_call (ds := [.str "name", .str n]) rfl).trans (check_name_ok (.inr hn) _)))]
  have e2 : eMethU [("Registry", m_Registry_name_of)] "name_of" (eVar 0) (aCons (eVar 2) aNil) [.val (.loc 1), .val (.str n), .val (.str x), .un, .un] (A :: RD s :: R) = m_Registry_name_of [.loc 1, .str x] (A :: RD s :: R) := by kernel_rfl
  exact seq_exc (v_asgX (e2.trans (name_of_bad h hu)))
theorem ixN (o : Ok s t) {e : N3} (he : e ∈ s.nm) (st : Store) : gIx (.dct (nmD s.nm)) (.str e.n) st = .ok e.p st := by simp [gIx, o.nmv he]
theorem ixU (o : Ok s t) (hi : (x, i) ∈ s.up) (st : Store) : gIx (.dct (upD s.up)) (.str x) st = .ok (.int i) st := by simp [gIx, o.upv hi]
/-- the question of the take -/
theorem take_test (o : Ok s t) (hn : Nx n) (h0 : ρ[0]? = some (.val (.loc 1))) (h1 : ρ[1]? = some (.val (.str n))) (h2 : ρ[2]? = some (.val (.str x))) : tAnd (tB (e2 gIn (ePeek 1) (Gh.e1 (eAttC "names" ["Registry"]) (eVar 0)))) (tB (e2 gNe (e2 gIx (e2 gIx (Gh.e1 (eAttC "names" ["Registry"]) (eVar 0)) (ePeek 1)) (eC (.int 0))) (ePeek 2))) ρ (A :: RD s :: R) =
    .ok (match owner s.nm n with | some e => !decide (e.h = x) | none => false) (A :: RD s :: R) := by
  have p1 : ePeek 1 ρ (A :: RD s :: R) = .ok (.str n) (A :: RD s :: R) := by rw [r_peek, h1]
  have p2 : ePeek 2 ρ (A :: RD s :: R) = .ok (.str x) (A :: RD s :: R) := by rw [r_peek, h2]
  have c1 : tB (e2 gIn (ePeek 1) (Gh.e1 (eAttC "names" ["Registry"]) (eVar 0))) ρ (A :: RD s :: R) = .ok (decide (n ∈ s.nm.map (·.n))) (A :: RD s :: R) := v_tB (by rw [v_e2 p1 (ev_names h0), in_dct (r_keyS n), in_nm])
  cases q : owner s.nm n with
  | none => exact v_andF (c1.trans (by rw [decide_eq_false (owner_none q)]))
  | some e =>
    obtain ⟨he, rfl⟩ := owner_mem q
    rw [v_andT (c1.trans (by rw [decide_eq_true (List.mem_map_of_mem he)]))]
    have c2 : e2 gIx (e2 gIx (Gh.e1 (eAttC "names" ["Registry"]) (eVar 0)) (ePeek 1)) (eC (.int 0)) ρ (A :: RD s :: R) = .ok (.str e.h) (A :: RD s :: R) := (v_e2 ((v_e2 (ev_names h0) p1).trans (ixN o he _)) rfl).trans rfl
    exact v_tB ((v_e2 c2 p2).trans (r_neSS ..))
theorem take_taken (o : Ok s t) (ht : t < 900) (hn : Nx n) (h : Nm x) (hu : isUp s x) {e : N3} (he : owner s.nm n = some e) (hx : e.h ≠ x) : m_Registry_take [.loc 1, .str n, .str x] (A :: RD s :: R) = .exc "Taken" [("name", .str n)] (A :: RD s :: R) := by
  refine callD_excL rfl (st' := A :: RD s :: R) (ρ' := [.val (.loc 1), .val (.str n), .val (.str x), .val (nameD (holds s.nm x)), .un]) rfl ?_
  show b_Registry_take [.val (.loc 1), .val (.str n), .val (.str x), .un, .un] (A :: RD s :: R) = _
  unfold b_Registry_take
  rw [seq_nx (ρ' := [.val (.loc 1), .val (.str n), .val (.str x), .un, .un]) (st' := A :: RD s :: R) (v_drop ((v_call (ds := [.str "name", .str n]) rfl).trans (check_name_ok (.inr hn) _)))]
  have e2 : eMethU [("Registry", m_Registry_name_of)] "name_of" (eVar 0) (aCons (eVar 2) aNil) [.val (.loc 1), .val (.str n), .val (.str x), .un, .un] (A :: RD s :: R) = m_Registry_name_of [.loc 1, .str x] (A :: RD s :: R) := by kernel_rfl
  rw [seq_nx (v_asg (e2.trans (name_of_ok o ht h hu)))]
  show sSeq _ _ [.val (.loc 1), .val (.str n), .val (.str x), .val (nameD (holds s.nm x)), .un] _ = _
  refine seq_exc ?_
  rw [v_ifT (st1 := A :: RD s :: R) ((take_test o hn rfl rfl rfl).trans (by rw [he]; simp [hx]))]
  rfl
theorem less_not (o : Ok s t) (hn : Nx n) (ho : ∀ e, owner s.nm n = some e → e.h = x) : n ∉ (s.nm.filter fun e => !decide (e.h = x)).map (·.n) := fun z => by
  obtain ⟨e, he, rfl⟩ := List.mem_map.mp z
  obtain ⟨h1, h2⟩ := List.mem_filter.mp he
  cases q : owner s.nm e.n with
  | none => exact owner_none q (List.mem_map_of_mem h1)
  | some f =>
    obtain ⟨f1, f2⟩ := owner_mem q
    have : f = e := nodup_inj o.nn f1 h1 f2
    have := ho f q
    subst_vars
    simp at h2
theorem rtake_ok (o : Ok s t) (ht : t < 900) (hn : Nx n) (h : Nm x) (hi : (x, i) ∈ s.up) (ho : ∀ e, owner s.nm n = some e → e.h = x) :
    m_Registry_take [.loc 1, .str n, .str x] (A :: RD s :: R) = .ok (nameD (holds s.nm x)) (A :: RD (taken s x n i) :: R) := by
  have hu : isUp s x := List.mem_map.mpr ⟨_, hi, rfl⟩
  have lf : isLoc (nameD (holds s.nm x)) = false := by cases holds s.nm x <;> rfl
  refine callD_rtL (st' := A :: RD (taken s x n i) :: R) rfl rfl ?_ lf
  show b_Registry_take [.val (.loc 1), .val (.str n), .val (.str x), .un, .un] (A :: RD s :: R) = _
  unfold b_Registry_take
  rw [seq_nx (ρ' := [.val (.loc 1), .val (.str n), .val (.str x), .un, .un]) (st' := A :: RD s :: R) (v_drop ((v_call (ds := [.str "name", .str n]) rfl).trans (check_name_ok (.inr hn) _)))]
  have e2 : eMethU [("Registry", m_Registry_name_of)] "name_of" (eVar 0) (aCons (eVar 2) aNil) [.val (.loc 1), .val (.str n), .val (.str x), .un, .un] (A :: RD s :: R) = m_Registry_name_of [.loc 1, .str x] (A :: RD s :: R) := by kernel_rfl
  rw [seq_nx (v_asg (e2.trans (name_of_ok o ht h hu)))]
  show sSeq _ _ [.val (.loc 1), .val (.str n), .val (.str x), .val (nameD (holds s.nm x)), .un] _ = _
  rw [seq_nx (ρ' := [.val (.loc 1), .val (.str n), .val (.str x), .val (nameD (holds s.nm x)), .un]) (st' := A :: RD s :: R) (by
    rw [v_ifF (st1 := A :: RD s :: R) ((take_test o hn rfl rfl rfl).trans (by
      cases q : owner s.nm n with
      | none => rfl
      | some e => simp [ho e q]))]
    rfl)]
  rw [seq_nx (set_names (x := s.nm.filter fun e => !decide (e.h = x)) rfl (names_less o ht h (fun _ => rfl) (fun z hz => ⟨by
    unfold ct_Registry_take_1
    exact v_tB ((v_e2 (x := .str z.n) (y := nameD (holds s.nm x)) rfl rfl).trans (ne_name _ (nameD_is _) _)), rfl, by
    unfold ce_Registry_take_0
    exact (v_e2 (ev_names rfl) rfl).trans (ixN o hz _)⟩) rfl))]
  have l3 := o.nl
  have l4 := List.length_filter_le (fun e => !decide (e.h = x)) s.nm
  have nn2 : ((s.nm.filter fun e => !decide (e.h = x)).map (·.n)).Nodup := by
    have := o.nn
    rw [List.nodup_iff_pairwise_ne, List.pairwise_map] at this ⊢
    exact this.filter _
  have kk : putD (mergeD [] (nmD (s.nm.filter fun e => !decide (e.h = x)))) (.inr n) (.tup [.str x, .int i]) = nmD ((s.nm.filter fun e => !decide (e.h = x)) ++ [⟨n, x, i⟩]) := by
    rw [mergeNm nn2, putD_new]
    · unfold nmD; rw [List.map_append]; rfl
    · rw [keysNm]
      have := less_not o hn ho
      simpa using this
  rw [seq_nx (set_names (s := { s with nm := s.nm.filter fun e => !decide (e.h = x) }) (x := (s.nm.filter fun e => !decide (e.h = x)) ++ [⟨n, x, i⟩]) rfl (by
    have hl : (nmD (s.nm.filter fun e => !decide (e.h = x))).length < 1000000 := by rw [nmD, List.length_map]; omega
    have iu := ixU o hi
    simp only [r_dstar, ev_names (A := A) (R := R) (s := { s with nm := s.nm.filter fun e => !decide (e.h = x) }) (ρ := [.val (.loc 1), .val (.str n), .val (.str x), .val (nameD (holds s.nm x)), .un]) rfl, r_var, r_tup, r_aCons, r_aNil, r_e2, ev_up (A := A) (R := R) (s := { s with nm := s.nm.filter fun e => !decide (e.h = x) }) (ρ := [.val (.loc 1), .val (.str n), .val (.str x), .val (nameD (holds s.nm x)), .un]) rfl, r_peek]
    have au := at_up (A := A) (R := R) (s := { s with nm := s.nm.filter fun e => !decide (e.h = x) })
    simp [au, iu, flatL, isLoc, hl, kk]))]
  rfl
end
end Lw
namespace Lw
open Gh L2 PyProof.Rows PySem.Spec PySem
section
variable {A : D} {s : S} {x y n : Str} {t : Nat} {ρ : REnv} {R : List D} {i k : Int}
def findD (s : S) (n : Str) : D := match owner s.nm n with
  | some e => e.p
  | none => .non
theorem owner_val (o : Ok s t) : valD (nmD s.nm) (.inr n) = (owner s.nm n).map N3.p := by
  cases q : owner s.nm n with
  | none => exact val_no (α := N3) (fun e => e.n) N3.p (owner_none q)
  | some e =>
    obtain ⟨he, rfl⟩ := owner_mem q
    exact o.nmv he
theorem findD_loc : isLoc (findD s n) = false := by
  unfold findD
  cases owner s.nm n <;> rfl
theorem find_ok (o : Ok s t) (hn : Nx n) : m_Registry_find [.loc 1, .str n] (A :: RD s :: R) = .ok (findD s n) (A :: RD s :: R) := by
  refine callD_rt0 rfl ?_ findD_loc
  show b_Registry_find [.val (.loc 1), .val (.str n)] (A :: RD s :: R) = _
  unfold b_Registry_find
  rw [seq_nx (ρ' := [.val (.loc 1), .val (.str n)]) (st' := A :: RD s :: R) (v_drop ((v_call (ds := [.str "name", .str n]) rfl).trans (check_name_ok (.inr hn) _)))]
  refine v_ret ?_
  rw [r_get1, ev_names rfl]
  unfold findD
  simp [owner_val o]
  cases owner s.nm n <;> rfl
theorem number_in {lo hi : Int} (h : lo ≤ k ∧ k ≤ hi) (st : Store) : m_is_number [.int k, .int lo, .int hi] st = .ok (.bl true) st := by
  refine callD_rt0 rfl ?_ rfl
  show b_is_number [.val (.int k), .val (.int lo), .val (.int hi)] st = _
  have e : m_is_integer [.int k] st = .ok (.bl true) st := callD_rt0 rfl (by kernel_rfl) rfl
  simp [b_is_number, e, h.1, h.2]
theorem pair_ok (h : Nm x) (hk : 1 ≤ k ∧ k ≤ 9999) (st : Store) : m_check_pair [.tup [.str x, .int k]] st = .ok .non st := by
  refine callD_nx0 (ρ' := [.val (.tup [.str x, .int k])]) rfl ?_
  show b_check_pair [.val (.tup [.str x, .int k])] st = _
  have e1 := name_ok (.inl h) st
  have e2 := number_in hk st
  have g0 : gIx (.tup [.str x, .int k]) (.int 0) st = .ok (.str x) st := rfl
  have g1 : gIx (.tup [.str x, .int k]) (.int 1) st = .ok (.int k) st := rfl
  have g2 : gIsi ["tuple"] [] [] (.tup [.str x, .int k]) st = .ok (.bl true) st := rfl
  have g3 : gLen [.tup [.str x, .int k]] st = .ok (.int 2) st := rfl
  simp [b_check_pair, e1, e2, g0, g1, g2, g3]
theorem is_there_ok (o : Ok s t) (h : Nm x) (hk : 1 ≤ k ∧ k ≤ 9999) : m_Registry_is_there [.loc 1, .tup [.str x, .int k]] (A :: RD s :: R) = .ok (.bl (decide ((x, k) ∈ s.up))) (A :: RD s :: R) := by
  refine callD_rt0 rfl ?_ rfl
  show b_Registry_is_there [.val (.loc 1), .val (.tup [.str x, .int k])] (A :: RD s :: R) = _
  unfold b_Registry_is_there
  rw [seq_nx (ρ' := [.val (.loc 1), .val (.tup [.str x, .int k])]) (st' := A :: RD s :: R) (v_drop ((v_call (ds := [.tup [.str x, .int k]]) rfl).trans (pair_ok h hk _)))]
  refine v_ret ?_
  have p0 : e2 gIx (ePeek 1) (eC (.int 0)) [.val (.loc 1), .val (.tup [.str x, .int k])] (A :: RD s :: R) = .ok (.str x) (A :: RD s :: R) := rfl
  have p1 : e2 gIx (ePeek 1) (eC (.int 1)) [.val (.loc 1), .val (.tup [.str x, .int k])] (A :: RD s :: R) = .ok (.int k) (A :: RD s :: R) := rfl
  by_cases hu : isUp s x
  · obtain ⟨i, hi⟩ := o.life hu
    have g : eGet1 (Gh.e1 (eAttC "up" ["Registry"]) (eVar 0)) (e2 gIx (ePeek 1) (eC (.int 0))) [.val (.loc 1), .val (.tup [.str x, .int k])] (A :: RD s :: R) = .ok (.int i) (A :: RD s :: R) := by
      rw [r_get1, ev_up rfl]
      simp [p0, o.upv hi, -r_e2]
    have e : decide ((x, k) ∈ s.up) = decide (i = k) := decide_eq_decide.mpr ⟨fun z => o.one hi z, fun z => z ▸ hi⟩
    rw [e]
    exact (v_e2 g p1).trans (r_eqII ..)
  · have g : eGet1 (Gh.e1 (eAttC "up" ["Registry"]) (eVar 0)) (e2 gIx (ePeek 1) (eC (.int 0))) [.val (.loc 1), .val (.tup [.str x, .int k])] (A :: RD s :: R) = .ok .non (A :: RD s :: R) := by
      rw [r_get1, ev_up rfl]
      simp [p0, val_no (α := Str × Int) (fun p => p.1) (fun p => D.int p.2) hu, upD, upE, -r_e2]
      rw [show (List.map upE s.up) = s.up.map fun a => (Sum.inr a.1, D.int a.2) from rfl, val_no (α := Str × Int) (fun p => p.1) (fun p => D.int p.2) hu]
      rfl
    have e : decide ((x, k) ∈ s.up) = false := decide_eq_false fun z => hu (List.mem_map.mpr ⟨_, z, rfl⟩)
    rw [e]
    exact (v_e2 g p1).trans rfl
abbrev namesS (s : S) : List Str := sortS (s.nm.map (·.n))
def toldD (s : S) : List (Key × D) := (namesS s).map fun n => (.inr n, findD s n)
theorem told_ok (o : Ok s t) (ht : t < 60) : m_Registry_told [.loc 1] (A :: RD s :: R) = .ok (.dct (toldD s)) (A :: RD s :: R) := by
  refine callD_rt0 rfl ?_ rfl
  show b_Registry_told [.val (.loc 1), .un] (A :: RD s :: R) = _
  unfold b_Registry_told
  refine v_ret ?_
  have l3 := o.nl
  have ks : keyS (nmD s.nm) = some (s.nm.map (·.n)) := keyS_map (fun e : N3 => e.n) N3.p s.nm
  have so : eN gSortKS (aCons (Gh.e1 (eAttC "names" ["Registry"]) (eVar 0)) aNil) [.val (.loc 1), .un] (A :: RD s :: R) = .ok (.lst ((namesS s).map D.str)) (A :: RD s :: R) := by
    rw [v_eN1 (ev_names rfl)]
    unfold gSortKS
    simp only [ks]
    rw [if_pos (by rw [List.length_map]; omega)]
  have pm : (namesS s).Perm (s.nm.map (·.n)) := sortS_perm _
  rw [eDComp_map D.str (fun n : Str => .inr n) (fun n => findD s n) (fun _ => true) (namesS s) (by rw [r_lSeq, so]; rfl) (by rw [pm.length_eq, List.length_map]; omega) fun n hn => ⟨_, rfl, rfl, fun _ => ⟨_, rfl, rfl, by
    unfold ce_Registry_told_0
    obtain ⟨e, he, rfl⟩ := List.mem_map.mp (pm.mem_iff.mp hn)
    rw [v_e2 (ev_names rfl) (y := .str e.n) (st2 := A :: RD s :: R) rfl, ixN o he]
    unfold findD
    cases q : owner s.nm e.n with
    | none => exact absurd (List.mem_map_of_mem he) (owner_none q)
    | some f =>
      obtain ⟨f1, f2⟩ := owner_mem q
      rw [nodup_inj o.nn f1 he f2], findD_loc⟩⟩]
  rw [List.filter_eq_self.mpr (fun _ _ => rfl), mergeD_id]
  · rfl
  · rw [keys_of (fun n : Str => n) (fun n => findD s n), List.map_id']
    have := o.nn.perm pm.symm
    rw [List.nodup_iff_pairwise_ne] at this
    rw [List.nodup_iff_pairwise_ne, List.pairwise_map]
    exact this.imp fun {a b} n e => n (Sum.inr.inj e)
end
end Lw
namespace Lw
open Gh L2 PyProof.Rows PySem.Spec PySem
def lawN (l : List N3) : List (Key × D) := l.map fun e => (.inr e.n, .str e.h)
def ups (l : List (Str × Int)) : List Str := l.map (·.1)
abbrev E (ns : List Int) (s : S) (a6 a7 a8 a9 a10 a11 a12 a13 a14 : Sl) : REnv := [.val (.scr (I ns)), .val (.loc 0), .val (.loc 1), .own (.dct s.lv), .val (.lst ((ups s.up).map D.str)), .val (.dct (lawN s.nm)), a6, a7, a8, a9, a10, a11, a12, a13, a14,
  .un, .un, .un, .un, .un, .un, .un, .un, .un, .un, .un, .un, .un, .un, .un, .un, .un, .un, .un]
abbrev A (ns : List Int) (k : Int) : D := .lst [.scr (I ns), .int k]
abbrev mineD (s : S) (x : Str) : D := .lst ((holds s.nm x).map fun e => .str e.n)
theorem try_pass {i : Nat} {all cs : List Str} {mb mh : SDen} {ρ ρ' : REnv} {st st' : Store} {c : Str} {fs : List (Str × D)} (h : mb ρ st = .exc c fs ρ' st') (ha : c ∈ all) (hc : c ∉ cs) : sTryAs i all cs mb mh ρ st = .exc c fs ρ' st' := by
  rw [r_tryAs, h]
  simp [ha, hc]
section
variable {a6 a7 a8 a9 a10 a11 a12 a13 a14 : Sl} {ns : List Int} {s : S} {k i w : Int} {x n : Str} {t : Nat}
theorem pick_abc (v : Int) (h : 0 ≤ v ∧ v < 3) (st : Store) : ∃ x, Nm x ∧ gIx (.lst [.str "a", .str "b", .str "c"]) (.int v) st = .ok (.str x) st := by
  have : v = 0 ∨ v = 1 ∨ v = 2 := by omega
  rcases this with rfl | rfl | rfl
  · exact ⟨"a", .inl rfl, rfl⟩
  · exact ⟨"b", .inr (.inl rfl), rfl⟩
  · exact ⟨"c", .inr (.inr rfl), rfl⟩
theorem pick_xy (v : Int) (h : 0 ≤ v ∧ v < 2) (st : Store) : ∃ x, Nx x ∧ gIx (.lst [.str "x", .str "y"]) (.int v) st = .ok (.str x) st := by
  have : v = 0 ∨ v = 1 := by omega
  rcases this with rfl | rfl
  · exact ⟨"x", .inl rfl, rfl⟩
  · exact ⟨"y", .inr rfl, rfl⟩
theorem draws (hl : ns.length ≤ 63) (hk : 0 ≤ k) : ∃ (w : Int) (x n : Str), 0 ≤ w ∧ w < 5 ∧ Nm x ∧ Nx n ∧ x_law_2 (E ns s a6 a7 a8 a9 a10 a11 a12 a13 a14) [A ns k, RD s] = .nx (E ns s a6 (.val (.int w)) (.val (.str x)) (.val (.str n)) a10 a11 a12 a13 a14) [A ns (k + 3), RD s] := by
  obtain ⟨w, h1, h2, e1⟩ := take_ok ns k 5 [RD s] hk (by decide) hl
  obtain ⟨v, h3, h4, e2'⟩ := take_ok ns (k + 1) 3 [RD s] (by omega) (by decide) hl
  obtain ⟨u, h5, h6, e3⟩ := take_ok ns (k + 1 + 1) 2 [RD s] (by omega) (by decide) hl
  obtain ⟨x, nx, ex⟩ := pick_abc v ⟨h3, h4⟩ [A ns (k + 1 + 1), RD s]
  obtain ⟨y, ny, ey⟩ := pick_xy u ⟨h5, h6⟩ [A ns (k + 1 + 1 + 1), RD s]
  refine ⟨w, x, y, h1, h2, nx, ny, ?_⟩
  unfold x_law_2
  rw [show k + 3 = k + 1 + 1 + 1 by omega]
  have abc : ∀ (ρ : REnv) (st : Store), eLst (aCons (eC (.str "a")) (aCons (eC (.str "b")) (aCons (eC (.str "c")) aNil))) ρ st = .ok (.lst [.str "a", .str "b", .str "c"]) st := fun _ _ => rfl
  have xy : ∀ (ρ : REnv) (st : Store), eLst (aCons (eC (.str "x")) (aCons (eC (.str "y")) aNil)) ρ st = .ok (.lst [.str "x", .str "y"]) st := fun _ _ => rfl
  have w1 : eCall m__law_take (aCons (eVar 1) (aCons (eC (.int 5)) aNil)) (E ns s a6 a7 a8 a9 a10 a11 a12 a13 a14) [A ns k, RD s] = .ok (.int w) [A ns (k + 1), RD s] := (v_call (ds := [.loc 0, .int 5]) rfl).trans e1
  have w2 : eCall m__law_take (aCons (eVar 1) (aCons (eC (.int 3)) aNil)) (E ns s a6 a7 a8 a9 a10 a11 a12 a13 a14) [A ns (k + 1), RD s] = .ok (.int v) [A ns (k + 1 + 1), RD s] := (v_call (ds := [.loc 0, .int 3]) rfl).trans e2'
  have w3 : eCall m__law_take (aCons (eVar 1) (aCons (eC (.int 2)) aNil)) (E ns s a6 a7 a8 a9 a10 a11 a12 a13 a14) [A ns (k + 1 + 1), RD s] = .ok (.int u) [A ns (k + 1 + 1 + 1), RD s] := (v_call (ds := [.loc 0, .int 2]) rfl).trans e3
  exact (v_par (v_mVal w1 (v_mVal ((v_e2 (abc _ _) w2).trans ex) (v_mVal ((v_e2 (xy _ _) w3).trans ey) rfl))) rfl).trans rfl
theorem mine_ok (o : Ok s t) (ht : t < 900) : x_law_4 (E ns s a6 a7 (.val (.str x)) a9 a10 a11 a12 a13 a14) [A ns k, RD s] = .nx (E ns s a6 a7 (.val (.str x)) a9 (.val (mineD s x)) a11 a12 a13 a14) [A ns k, RD s] := by
  unfold x_law_4
  have l3 := o.nl
  have e1 := eComp_map (mi := lD (eVar 5) (fun p => .tup [keyD p.1, p.2])) (bd := bTup 2 (bCons (bName 30) (bCons (bName 26) bNil))) (t := ct_law_0) (me := eVar 30) (vs := [30, 26]) (ρ := E ns s a6 a7 (.val (.str x)) a9 a10 a11 a12 a13 a14) (st := [A ns k, RD s]) (fun e : N3 => .tup [.str e.n, .str e.h]) (fun e : N3 => .str e.n) (fun e : N3 => decide (e.h = x)) s.nm (by
    unfold lD
    rw [r_var]
    show RC.ok ((lawN s.nm).map _) _ = _
    unfold lawN
    rw [List.map_map]
    rfl) (by omega) fun z hz => ⟨_, rfl, by
      unfold ct_law_0
      exact v_tB ((v_e2 (x := .str z.h) (y := .str x) rfl rfl).trans (r_eqSS ..)), fun _ => ⟨rfl, rfl⟩⟩
  rw [r_val, r_asgO, e1]
  rfl
theorem up_in {st : Store} : gIn (.str x) (.lst ((ups s.up).map D.str)) st = .ok (.bl (decide (isUp s x))) st := by
  rw [in_flat rfl rfl (all_flat_map _ (fun _ => rfl) _), inD_str]
  rfl
theorem up_notin {st : Store} : gNotIn (.str x) (.lst ((ups s.up).map D.str)) st = .ok (.bl (!decide (isUp s x))) st := by
  rw [notin_flat rfl rfl (all_flat_map _ (fun _ => rfl) _), inD_str]
  rfl
theorem xf_part {ρ : REnv} {st : Store} {p : Str} (h : ρ[13]? = some (.exc "BadPart" (BP p))) : eXf 13 ["BadPart"] "part" ρ st = .ok (.str p) st := by
  unfold eXf
  rw [h]
  kernel_rfl
theorem xf_name {ρ : REnv} {st : Store} {p : Str} (h : ρ[13]? = some (.exc "Taken" [("name", .str p)])) : eXf 13 ["Taken"] "name" ρ st = .ok (.str p) st := by
  unfold eXf
  rw [h]
  kernel_rfl
/-- the handler where the hand was the fault -/
theorem hand_fault {st : Store} (hg : if w < 2 then isUp s x else ¬ isUp s x) :
    lb_law_10 (E ns s a6 (.val (.int w)) (.val (.str x)) a9 a10 a11 a12 (.exc "BadPart" (BP "hand")) a14) st = .nx (E ns s a6 (.val (.int w)) (.val (.str x)) a9 a10 a11 a12 (.exc "BadPart" (BP "hand")) (.val (.bl false))) st := by
  unfold lb_law_10
  have q1 : x_law_29 (E ns s a6 (.val (.int w)) (.val (.str x)) a9 a10 a11 a12 (.exc "BadPart" (BP "hand")) a14) st = .nx (E ns s a6 (.val (.int w)) (.val (.str x)) a9 a10 a11 a12 (.exc "BadPart" (BP "hand")) (.val (.bl false))) st := by
    unfold x_law_29
    refine v_asg ?_
    by_cases h2 : w < 2
    · rw [if_pos h2] at hg
      simp [h2, up_notin, hg]
    · rw [if_neg h2] at hg
      simp [h2, up_in, hg]
  rw [seq_nx q1]
  unfold x_law_31
  have x1 := xf_part (ρ := E ns s a6 (.val (.int w)) (.val (.str x)) a9 a10 a11 a12 (.exc "BadPart" (BP "hand")) (.val (.bl false))) (st := st) (p := "hand") rfl
  simp [x1]
theorem body_bad {st : Store} (hg : if w < 2 then isUp s x else ¬ isUp s x) (h : lb_law_8 (E ns s a6 (.val (.int w)) (.val (.str x)) (.val (.str n)) a10 a11 a12 a13 a14) st = .exc "BadPart" (BP "hand") (E ns s a6 (.val (.int w)) (.val (.str x)) (.val (.str n)) a10 a11 a12 a13 a14) st) :
    x_law_33 (E ns s a6 (.val (.int w)) (.val (.str x)) (.val (.str n)) a10 a11 a12 a13 a14) st = .nx (E ns s a6 (.val (.int w)) (.val (.str x)) (.val (.str n)) a10 a11 a12 .un (.val (.bl false))) st := by
  unfold x_law_33
  rw [try_exc (try_pass h (by simp) (by decide)) (by simp) (by simp)]
  exact (congrArg (unset 13) (hand_fault hg)).trans rfl
theorem look_r (f : CallF) : List.lookup ("Registry" : Str) [(("Registry" : Str), f)] = some f := by kernel_rfl
end
end Lw
namespace Lw
open Gh L2 PyProof.Rows PySem.Spec PySem
section
variable {a6 a7 a8 a9 a10 a11 a12 a13 a14 : Sl} {ns : List Int} {s : S} {k i w : Int} {x n : Str} {t : Nat}
theorem valD_other {kvs : List (Key × D)} {k k2 : Key} {v : D} (h : k2 ≠ k) : valD (putD kvs k v) k2 = valD kvs k2 := by
  by_cases hk : k ∈ keysD kvs
  · rw [putD_old hk]
    unfold valD
    induction kvs with
    | nil => rfl
    | cons p r ih =>
      rw [List.map_cons]
      by_cases e : p.1 = k
      · have e2 : p.1 ≠ k2 := fun z => h (z.symm.trans e)
        simp only [List.find?_cons, e, if_true]
        have e3 : decide (k = k2) = false := decide_eq_false (fun z => h z.symm)
        simp only [e3]
        by_cases hr : k ∈ keysD r
        · exact ih hr
        · congr 1
          clear ih
          induction r with
          | nil => rfl
          | cons q r ih2 =>
            have hq : q.1 ≠ k := fun z => hr (by rw [keysD, List.map_cons]; exact List.mem_cons.mpr (.inl z.symm))
            have hr2 : k ∉ keysD r := fun z => hr (by rw [keysD, List.map_cons]; exact List.mem_cons_of_mem _ z)
            rw [List.map_cons, if_neg hq, List.find?_cons, List.find?_cons, ih2 (List.mem_cons.mpr (.inl e.symm)) hr2]
      · rw [if_neg e, List.find?_cons, List.find?_cons]
        by_cases e2 : p.1 = k2
        · simp [e2]
        · have e3 : decide (p.1 = k2) = false := decide_eq_false e2
          simp only [e3]
          refine ih ?_
          rw [keysD, List.map_cons] at hk
          rcases List.mem_cons.mp hk with z | z
          · exact absurd z.symm e
          · exact z
  · rw [putD_new hk]
    unfold valD
    rw [List.find?_append]
    have : List.find? (fun p : Key × D => decide (p.1 = k2)) [(k, v)] = none := by
      simp
      exact fun z => h z.symm
    rw [this, Option.or_none]
theorem Ok.up1 (o : Ok s t) : Ok s (t + 1) := ⟨o.nd, o.vi, Nat.le_succ_of_le o.ll, o.un, Nat.le_succ_of_le o.ul, o.uk, Nat.le_succ_of_le o.nl, o.nn, o.nx, o.nh, o.nu⟩
theorem Ok.start (o : Ok s t) (nx : Nm x) (hu : ¬ isUp s x) (i : Int) : Ok (started s x i) (t + 1) := by
  refine ⟨putD_nodup o.nd, fun p hp => ?_, ?_, ?_, ?_, fun p hp => ?_, Nat.le_succ_of_le o.nl, o.nn, o.nx, fun e he => List.mem_append_left _ (o.nh e he), o.nu⟩
  · rcases mem_putD hp with rfl | hp
    · exact ⟨_, rfl⟩
    · exact o.vi p hp
  · have := putD_len s.lv (.inr x) (.int (i + 1))
    have := o.ll
    show (putD s.lv (.inr x) (.int (i + 1))).length ≤ t + 1
    omega
  · show ((s.up ++ [(x, i + 1)]).map (·.1)).Nodup
    rw [List.map_append, List.nodup_append]
    refine ⟨o.un, by simp, fun a ha b hb => ?_⟩
    have hb : b = x := by simpa using hb
    subst hb
    exact fun e => hu (e ▸ ha)
  · show (s.up ++ [(x, i + 1)]).length ≤ t + 1
    rw [List.length_append]
    have := o.ul
    simp
    omega
  · rcases List.mem_append.mp hp with hp | hp
    · obtain ⟨h1, h2⟩ := o.uk p hp
      refine ⟨h1, ?_⟩
      show valD (putD s.lv (.inr x) (.int (i + 1))) (.inr p.1) = _
      rw [valD_other, h2]
      intro z
      exact hu (by rw [← Sum.inr.inj z]; exact List.mem_map_of_mem hp)
    · have hp : p = (x, i + 1) := by simpa using hp
      subst hp
      exact ⟨nx, valD_put ..⟩
theorem Ok.end_ (o : Ok s t) : Ok (ended s x) (t + 1) := by
  have f1 := List.length_filter_le (fun p : Str × Int => !decide (p.1 = x)) s.up
  have f2 := List.length_filter_le (fun e : N3 => !decide (e.h = x)) s.nm
  have u := o.un
  have nn := o.nn
  have nu := o.nu
  rw [List.nodup_iff_pairwise_ne, List.pairwise_map] at u nn nu
  refine ⟨o.nd, o.vi, Nat.le_succ_of_le o.ll, ?_, ?_, fun p hp => o.uk p (List.mem_filter.mp hp).1, ?_, ?_, fun e he => o.nx e (List.mem_filter.mp he).1, fun e he => ?_, ?_⟩
  · rw [List.nodup_iff_pairwise_ne, List.pairwise_map]
    exact u.filter _
  · have := o.ul
    show (s.up.filter _).length ≤ _
    omega
  · have := o.nl
    show (s.nm.filter _).length ≤ _
    omega
  · rw [List.nodup_iff_pairwise_ne, List.pairwise_map]
    exact nn.filter _
  · obtain ⟨h1, h2⟩ := List.mem_filter.mp he
    exact List.mem_filter.mpr ⟨o.nh e h1, h2⟩
  · rw [List.nodup_iff_pairwise_ne, List.pairwise_map]
    exact nu.filter _
theorem Ok.take (o : Ok s t) (hn : Nx n) (hi : (x, i) ∈ s.up) (ho : ∀ e, owner s.nm n = some e → e.h = x) : Ok (taken s x n i) (t + 1) := by
  have f2 := List.length_filter_le (fun e : N3 => !decide (e.h = x)) s.nm
  have nn := o.nn
  have nu := o.nu
  rw [List.nodup_iff_pairwise_ne, List.pairwise_map] at nn nu
  have mem : ∀ e ∈ (taken s x n i).nm, (e ∈ s.nm ∧ e.h ≠ x) ∨ e = ⟨n, x, i⟩ := fun e he => by
    rcases List.mem_append.mp he with he | he
    · obtain ⟨h1, h2⟩ := List.mem_filter.mp he
      exact .inl ⟨h1, by simpa using h2⟩
    · exact .inr (by simpa using he)
  refine ⟨o.nd, o.vi, Nat.le_succ_of_le o.ll, o.un, Nat.le_succ_of_le o.ul, o.uk, ?_, ?_, fun e he => ?_, fun e he => ?_, ?_⟩
  · have := o.nl
    show ((s.nm.filter _) ++ _).length ≤ _
    rw [List.length_append]
    simp
    omega
  · show (((s.nm.filter fun e : N3 => !decide (e.h = x)) ++ ([⟨n, x, i⟩] : List N3)).map fun e : N3 => e.n).Nodup
    rw [List.map_append, List.nodup_append]
    refine ⟨?_, by simp, fun a ha b hb e => ?_⟩
    · rw [List.nodup_iff_pairwise_ne, List.pairwise_map]
      exact nn.filter _
    · have hb : b = n := by simpa using hb
      subst hb
      exact less_not o hn ho (e ▸ ha)
  · rcases mem e he with ⟨h, _⟩ | rfl
    · exact o.nx e h
    · exact hn
  · rcases mem e he with ⟨h, _⟩ | rfl
    · exact o.nh e h
    · exact hi
  · show (((s.nm.filter fun e : N3 => !decide (e.h = x)) ++ ([⟨n, x, i⟩] : List N3)).map fun e : N3 => e.h).Nodup
    rw [List.map_append, List.nodup_append]
    refine ⟨?_, by simp, fun a ha b hb e => ?_⟩
    · rw [List.nodup_iff_pairwise_ne, List.pairwise_map]
      exact nu.filter _
    · have hb : b = x := by simpa using hb
      subst hb
      obtain ⟨f, hf, rfl⟩ := List.mem_map.mp ha
      have := (List.mem_filter.mp hf).2
      simp [e] at this
theorem turn_start (o : Ok s t) (ht : t < 50) (nx : Nm x) (hw : w < 2) : ∃ (s' : S) (b11 b13 b14 : Sl), Ok s' (t + 1) ∧
    x_law_33 (E ns s a6 (.val (.int w)) (.val (.str x)) (.val (.str n)) a10 a11 a12 a13 a14) [A ns k, RD s] = .nx (E ns s' a6 (.val (.int w)) (.val (.str x)) (.val (.str n)) a10 b11 a12 b13 b14) [A ns k, RD s'] := by
  have m1 : eMethU [("Registry", m_Registry_start)] "start" (eVar 2) (aCons (eVar 8) aNil) (E ns s a6 (.val (.int w)) (.val (.str x)) (.val (.str n)) a10 a11 a12 a13 a14) [A ns k, RD s] = m_Registry_start [.loc 1, .str x] [A ns k, RD s] := by kernel_rfl
  have hi : lb_law_8 (E ns s a6 (.val (.int w)) (.val (.str x)) (.val (.str n)) a10 a11 a12 a13 a14) [A ns k, RD s] = sSeq x_law_5 (sSeq x_law_7 x_law_8) (E ns s a6 (.val (.int w)) (.val (.str x)) (.val (.str n)) a10 a11 a12 a13 a14) [A ns k, RD s] := by
    unfold lb_law_8 x_law_24
    exact v_ifT (by simp [hw])
  by_cases hu : isUp s x
  · refine ⟨s, _, _, _, o.up1, body_bad (by rw [if_pos hw]; exact hu) ?_⟩
    rw [hi]
    refine seq_exc ?_
    unfold x_law_5
    exact v_asgX (m1.trans (start_bad nx hu))
  · obtain ⟨i, ei⟩ := o.val (.inr x)
    refine ⟨started s x i, .val (.tup [.str x, .int (i + 1)]), a13, a14, o.start nx hu i, ?_⟩
    unfold x_law_33
    refine try_nx (try_nx (hi.trans ?_))
    unfold x_law_5
    rw [seq_nx (v_asg (m1.trans (start_ok o (by omega) nx hu ei)))]
    have c5 : x_law_7 (E ns s a6 (.val (.int w)) (.val (.str x)) (.val (.str n)) a10 (.val (.tup [.str x, .int (i + 1)])) a12 a13 a14) [A ns k, RD (started s x i)] = .nx (E ns s a6 (.val (.int w)) (.val (.str x)) (.val (.str n)) a10 (.val (.tup [.str x, .int (i + 1)])) a12 a13 a14) [A ns k, RD (started s x i)] := by
      unfold x_law_7
      have k2 : okD 20 (.tup [.str x, .int (i + 1)]) = true := by
        show (okD 19 (.str x) && (okD 19 (.int (i + 1)) && true)) = true
        rw [nx.ok]; rfl
      simp [up_in, hu, ei, flatL, isLoc, ne_self k2]
    refine (seq_nx c5).trans ?_
    unfold x_law_8
    have l1 := o.ll
    have l2 := o.ul
    have p1 : putAt 3 (eVar 8) (.int (i + 1)) (E ns s a6 (.val (.int w)) (.val (.str x)) (.val (.str n)) a10 (.val (.tup [.str x, .int (i + 1)])) a12 a13 a14) [A ns k, RD (started s x i)] = some (_, _) := putAt_d (kvs := s.lv) (y := .str x) rfl rfl rfl (by omega) rfl
    have g1 : gAdd (.lst ((ups s.up).map D.str)) (.lst [.str x]) [A ns k, RD (started s x i)] = .ok (.lst ((ups (s.up ++ [(x, i + 1)])).map D.str)) [A ns k, RD (started s x i)] := by
      rw [add_lst (by rw [List.length_map, ups, List.length_map]; simp; omega), ups, ups, List.map_append, List.map_append]
      rfl
    rw [r_many]
    rw [v_mVal (x := .int (i + 1)) rfl (v_mVal ((v_e2 rfl (by simp [flatL, isLoc])).trans g1) rfl)]
    show (match pdPut 3 (eVar 8) (pdName 4 pdNil) [(.int (i + 1), false), (.lst ((ups (s.up ++ [(x, i + 1)])).map D.str), false)] _ _ with | some (ρ', st') => SR.nx ρ' st' | none => .bad) = _
    rw [r_pdPut, p1]
    rfl
end
end Lw
namespace Lw
open Gh L2 PyProof.Rows PySem.Spec PySem
section
variable {a6 a7 a8 a9 a10 a11 a12 a13 a14 : Sl} {ns : List Int} {s : S} {k i w : Int} {x n : Str} {t : Nat} {ρ : REnv} {st : Store}
theorem strs_ne (l : List Str) (h : ∀ z ∈ l, ∀ k, okD k (.str z) = true) (st : Store) : gNe (.lst (l.map D.str)) (.lst []) st = .ok (.bl (!l.isEmpty)) st := by
  have k1 : okD 20 (.lst (l.map D.str)) = true := by
    show ((l.map D.str).all (okD 19)) = true
    rw [List.all_map]
    exact List.all_eq_true.mpr fun z hz => h z hz 19
  unfold gNe eqD
  show (match (if okD 20 (.lst (l.map D.str)) = true ∧ okD 20 (.lst []) = true then some (D.eqv (.lst (l.map D.str)) (.lst [])) else none) with | some b => RC.ok (D.bl !b) st | none => .bad) = _
  rw [if_pos ⟨k1, rfl⟩]
  cases l <;> simp [D.eqv, eqvL]
theorem mineD_strs : mineD s x = .lst (((holds s.nm x).map (·.n)).map D.str) := by
  show D.lst _ = _
  rw [List.map_map]
  rfl
theorem holds_ok (o : Ok s t) : ∀ z ∈ (holds s.nm x).map (·.n), ∀ k, okD k (.str z) = true := fun z hz k => by
  obtain ⟨e, he, rfl⟩ := List.mem_map.mp hz
  exact (o.nx e (List.mem_filter.mp he).1).ok k
/-- mine[0] if mine != [] else None -/
theorem first_ok (o : Ok s t) (h : ρ[10]? = some (.val (mineD s x))) : eIf (tB (e2 gNe (ePeek 10) (eLst aNil))) (e2 gIx (ePeek 10) (eC (.int 0))) (eC .non) ρ st = .ok (nameD (holds s.nm x)) st := by
  have p : ∀ st : Store, ePeek 10 ρ st = .ok (.lst (((holds s.nm x).map (·.n)).map D.str)) st := fun st => by rw [r_peek, h, mineD_strs]
  rw [r_eIf, v_tB ((v_e2 (p st) (rfl : eLst aNil ρ st = .ok (.lst []) st)).trans (strs_ne _ (holds_ok o) st)), RC.bind_ok]
  cases q : holds s.nm x with
  | nil => rfl
  | cons e r =>
    rw [q] at p
    show e2 gIx (ePeek 10) (eC (.int 0)) ρ st = _
    refine (v_e2 (p st) rfl).trans ?_
    simp [gIx, itemsOf, atI, L2.ixN, nameD]
theorem pairs_N : ∀ l : List N3, pairsD (l.map fun e => .tup [.str e.n, .str e.h]) = some (lawN l)
  | [] => rfl
  | e :: l => by
    rw [List.map_cons]
    unfold pairsD
    rw [pairs_N l]
    rfl
theorem keysLaw (l : List N3) : keysD (lawN l) = (l.map (·.n)).map Sum.inr := keys_of (α := N3) (fun e => e.n) (fun e => D.str e.h) l
theorem mergeLaw {l : List N3} (o : (l.map (·.n)).Nodup) : mergeD [] (lawN l) = lawN l := mergeD_id (by
  rw [keysLaw]
  rw [List.nodup_iff_pairwise_ne] at o ⊢
  rw [List.pairwise_map]
  exact o.imp fun {a b} n e => n (Sum.inr.inj e))
theorem isUp_end (o : Ok s t) : ups (ended s x).up = (ups s.up).filter fun z => !decide (z = x) := by
  show (s.up.filter fun p => !decide (p.1 = x)).map (·.1) = (s.up.map (·.1)).filter _
  rw [List.filter_map]
  rfl
/-- [(one, late) for one, late in names.items() if late != hand] -/
theorem rest_ok (o : Ok s t) (ht : t < 900) {tt : TDen} {me : EDen} (h5 : ρ[5]? = some (.val (.dct (lawN s.nm)))) (hb : ∀ e ∈ s.nm, ∃ ρ1, bTup 2 (bCons (bName 30) (bCons (bName 26) bNil)) (.tup [.str e.n, .str e.h]) (wipeR ρ [30, 26]) = some ρ1 ∧ tt ρ1 st = .ok (!decide (e.h = x)) st ∧ me ρ1 st = .ok (.tup [.str e.n, .str e.h]) st) :
    eComp (lD (eVar 5) (fun p => .tup [keyD p.1, p.2])) (bTup 2 (bCons (bName 30) (bCons (bName 26) bNil))) tt me [30, 26] ρ st = .ok (.lst ((s.nm.filter fun e => !decide (e.h = x)).map fun e => .tup [.str e.n, .str e.h])) st := by
  have l3 := o.nl
  exact eComp_map (fun e : N3 => .tup [.str e.n, .str e.h]) (fun e : N3 => .tup [.str e.n, .str e.h]) (fun e : N3 => !decide (e.h = x)) s.nm (by
    unfold lD
    rw [r_var, h5]
    show RC.ok ((lawN s.nm).map _) _ = _
    unfold lawN
    rw [List.map_map]
    rfl) (by omega) fun e he => by
      obtain ⟨ρ1, h1, h2, h3⟩ := hb e he
      exact ⟨ρ1, h1, h2, fun _ => ⟨h3, rfl⟩⟩
theorem nn_less (o : Ok s t) : ((s.nm.filter fun e => !decide (e.h = x)).map (·.n)).Nodup := by
  have := o.nn
  rw [List.nodup_iff_pairwise_ne, List.pairwise_map] at this ⊢
  exact this.filter _
theorem turn_end (o : Ok s t) (ht : t < 50) (nx : Nm x) : ∃ (s' : S) (b12 b13 b14 : Sl), Ok s' (t + 1) ∧
    x_law_33 (E ns s a6 (.val (.int 2)) (.val (.str x)) (.val (.str n)) (.val (mineD s x)) a11 a12 a13 a14) [A ns k, RD s] = .nx (E ns s' a6 (.val (.int 2)) (.val (.str x)) (.val (.str n)) (.val (mineD s x)) a11 b12 b13 b14) [A ns k, RD s'] := by
  have m1 : eMethU [("Registry", m_Registry_end)] "end" (eVar 2) (aCons (eVar 8) aNil) (E ns s a6 (.val (.int 2)) (.val (.str x)) (.val (.str n)) (.val (mineD s x)) a11 a12 a13 a14) [A ns k, RD s] = m_Registry_end [.loc 1, .str x] [A ns k, RD s] := by kernel_rfl
  have hi : lb_law_8 (E ns s a6 (.val (.int 2)) (.val (.str x)) (.val (.str n)) (.val (mineD s x)) a11 a12 a13 a14) [A ns k, RD s] = sSeq x_law_9 (sSeq x_law_11 x_law_15) (E ns s a6 (.val (.int 2)) (.val (.str x)) (.val (.str n)) (.val (mineD s x)) a11 a12 a13 a14) [A ns k, RD s] := by
    unfold lb_law_8 x_law_24
    rw [v_ifF (st1 := [A ns k, RD s]) rfl]
    unfold x_law_23
    rw [v_ifT (st1 := [A ns k, RD s]) rfl]
  by_cases hu : isUp s x
  case neg =>
    refine ⟨s, _, _, _, o.up1, body_bad (by rw [if_neg (by decide)]; exact hu) ?_⟩
    rw [hi]
    refine seq_exc ?_
    unfold x_law_9
    exact v_asgX (m1.trans (end_bad nx hu))
  case pos =>
    refine ⟨ended s x, .val (nameD (holds s.nm x)), a13, a14, o.end_, ?_⟩
    unfold x_law_33
    refine try_nx (try_nx (hi.trans ?_))
    unfold x_law_9
    rw [seq_nx (v_asg (m1.trans (end_ok o (by omega) nx hu)))]
    have c11 : x_law_11 (E ns s a6 (.val (.int 2)) (.val (.str x)) (.val (.str n)) (.val (mineD s x)) a11 (.val (nameD (holds s.nm x))) a13 a14) [A ns k, RD (ended s x)] = .nx (E ns s a6 (.val (.int 2)) (.val (.str x)) (.val (.str n)) (.val (mineD s x)) a11 (.val (nameD (holds s.nm x))) a13 a14) [A ns k, RD (ended s x)] := by
      unfold x_law_11
      have k1 : gNe (nameD (holds s.nm x)) (nameD (holds s.nm x)) [A ns k, RD (ended s x)] = .ok (.bl false) [A ns k, RD (ended s x)] := by
        refine ne_self ?_
        cases q : holds s.nm x with
        | nil => rfl
        | cons e r => exact holds_ok o e.n (by rw [q]; exact List.mem_cons_self) 20
      rw [v_ifF (st1 := [A ns k, RD (ended s x)])]
      · rfl
      rw [v_orF (st1 := [A ns k, RD (ended s x)]) (v_tB ((v_e2 (x := .str x) (y := .lst ((ups s.up).map D.str)) rfl rfl).trans (by rw [up_notin, decide_eq_true hu]; rfl)))]
      exact v_tB ((v_e2 (x := nameD (holds s.nm x)) rfl (first_ok o rfl)).trans k1)
    refine (seq_nx c11).trans ?_
    unfold x_law_15
    have l2 := o.ul
    have u1 : eComp (lSeq (eVar 4)) (bName 30) ct_law_4 (eVar 30) [30] (E ns s a6 (.val (.int 2)) (.val (.str x)) (.val (.str n)) (.val (mineD s x)) a11 (.val (nameD (holds s.nm x))) a13 a14) [A ns k, RD (ended s x)] = .ok (.lst ((ups (ended s x).up).map D.str)) [A ns k, RD (ended s x)] := by
      rw [isUp_end o]
      exact eComp_map D.str D.str (fun z : Str => !decide (z = x)) (ups s.up) rfl (by rw [ups, List.length_map]; omega) fun z _ => ⟨_, rfl, by
        unfold ct_law_4
        exact v_tB ((v_e2 (x := .str z) (y := .str x) rfl rfl).trans (r_neSS ..)), fun _ => ⟨rfl, rfl⟩⟩
    have u2 : eN gDict (aCons (eComp (lD (eVar 5) (fun p => .tup [keyD p.1, p.2])) (bTup 2 (bCons (bName 30) (bCons (bName 26) bNil))) ct_law_3 ce_law_2 [30, 26]) aNil) (E ns s a6 (.val (.int 2)) (.val (.str x)) (.val (.str n)) (.val (mineD s x)) a11 (.val (nameD (holds s.nm x))) a13 a14) [A ns k, RD (ended s x)] = .ok (.dct (lawN (ended s x).nm)) [A ns k, RD (ended s x)] := by
      rw [v_eN1 (rest_ok o (by omega) rfl fun e he => ⟨_, rfl, by
        unfold ct_law_3
        exact v_tB ((v_e2 (x := .str e.h) (y := .str x) rfl rfl).trans (r_neSS ..)), rfl⟩)]
      unfold gDict
      simp only [pairs_N]
      rw [mergeLaw (nn_less o)]
      rfl
    exact (v_par (v_mVal u1 (v_mVal u2 rfl)) rfl).trans rfl
theorem get_name (o : Ok s t) (h5 : ρ[5]? = some (.val (.dct (lawN s.nm)))) (h9 : ρ[9]? = some (.val (.str n))) (h8 : ρ[8]? = some (.val (.str x))) : eGet2 (ePeek 5) (ePeek 9) (eVar 8) ρ st = .ok (.str (match owner s.nm n with | some e => e.h | none => x)) st := by
  rw [r_get2, r_peek, h5]
  simp only [RC.bind_ok, r_peek, h9, r_var, h8, r_keyS]
  cases q : owner s.nm n with
  | none =>
    have : valD (lawN s.nm) (.inr n) = none := val_no (α := N3) (fun e => e.n) (fun e => D.str e.h) (owner_none q)
    rw [this]
    rfl
  | some e =>
    obtain ⟨he, rfl⟩ := owner_mem q
    have : valD (lawN s.nm) (.inr e.n) = some (.str e.h) := val_of (α := N3) (fun e => e.n) (fun e => D.str e.h) o.nn he
    rw [this]
    rfl
theorem turn_take (o : Ok s t) (ht : t < 50) (nx : Nm x) (hn : Nx n) (hw : 3 ≤ w) : ∃ (s' : S) (b12 b13 b14 : Sl), Ok s' (t + 1) ∧
    x_law_33 (E ns s a6 (.val (.int w)) (.val (.str x)) (.val (.str n)) (.val (mineD s x)) a11 a12 a13 a14) [A ns k, RD s] = .nx (E ns s' a6 (.val (.int w)) (.val (.str x)) (.val (.str n)) (.val (mineD s x)) a11 b12 b13 b14) [A ns k, RD s'] := by
  have m1 : eMethU [("Registry", m_Registry_take)] "take" (eVar 2) (aCons (eVar 9) (aCons (eVar 8) aNil)) (E ns s a6 (.val (.int w)) (.val (.str x)) (.val (.str n)) (.val (mineD s x)) a11 a12 a13 a14) [A ns k, RD s] = m_Registry_take [.loc 1, .str n, .str x] [A ns k, RD s] := by kernel_rfl
  have hi : lb_law_8 (E ns s a6 (.val (.int w)) (.val (.str x)) (.val (.str n)) (.val (mineD s x)) a11 a12 a13 a14) [A ns k, RD s] = sSeq x_law_16 (sSeq x_law_19 x_law_22) (E ns s a6 (.val (.int w)) (.val (.str x)) (.val (.str n)) (.val (mineD s x)) a11 a12 a13 a14) [A ns k, RD s] := by
    unfold lb_law_8 x_law_24
    rw [v_ifF (st1 := [A ns k, RD s]) (by simp; omega)]
    unfold x_law_23
    rw [v_ifF (st1 := [A ns k, RD s]) (by simp; omega)]
  by_cases hu : isUp s x
  case neg =>
    refine ⟨s, _, _, _, o.up1, body_bad (by rw [if_neg (by omega)]; exact hu) ?_⟩
    rw [hi]
    refine seq_exc ?_
    unfold x_law_16
    exact v_asgX (m1.trans (take_bad hn nx hu))
  case pos =>
    by_cases hx : ∃ e, owner s.nm n = some e ∧ e.h ≠ x
    · obtain ⟨e, he, hx⟩ := hx
      refine ⟨s, a12, .un, a14, o.up1, ?_⟩
      unfold x_law_33
      have e1 : lb_law_8 (E ns s a6 (.val (.int w)) (.val (.str x)) (.val (.str n)) (.val (mineD s x)) a11 a12 a13 a14) [A ns k, RD s] = .exc "Taken" [("name", .str n)] (E ns s a6 (.val (.int w)) (.val (.str x)) (.val (.str n)) (.val (mineD s x)) a11 a12 a13 a14) [A ns k, RD s] := by
        rw [hi]
        refine seq_exc ?_
        unfold x_law_16
        exact v_asgX (m1.trans (take_taken o (by omega) hn nx hu he hx))
      refine try_nx ?_
      rw [try_exc e1 (by simp) (by simp)]
      have c9 : lb_law_9 (E ns s a6 (.val (.int w)) (.val (.str x)) (.val (.str n)) (.val (mineD s x)) a11 a12 (.exc "Taken" [("name", .str n)]) a14) [A ns k, RD s] = .nx (E ns s a6 (.val (.int w)) (.val (.str x)) (.val (.str n)) (.val (mineD s x)) a11 a12 (.exc "Taken" [("name", .str n)]) a14) [A ns k, RD s] := by
        unfold lb_law_9 x_law_27
        rw [v_ifF (st1 := [A ns k, RD s])]
        · rfl
        rw [v_orF (st1 := [A ns k, RD s]) (by simp; omega)]
        have g : tB (e2 gEq (eGet2 (ePeek 5) (ePeek 9) (eVar 8)) (ePeek 8)) (E ns s a6 (.val (.int w)) (.val (.str x)) (.val (.str n)) (.val (mineD s x)) a11 a12 (.exc "Taken" [("name", .str n)]) a14) [A ns k, RD s] = .ok false [A ns k, RD s] := v_tB ((v_e2 (get_name o rfl rfl rfl) (y := .str x) (st2 := [A ns k, RD s]) rfl).trans (by rw [he, r_eqSS]; simp [hx]))
        rw [v_orF g]
        exact v_tB ((v_e2 (xf_name rfl) (y := .str n) (st2 := [A ns k, RD s]) rfl).trans (by rw [r_neSS]; simp))
      exact (congrArg (unset 13) c9).trans rfl
    · have ho : ∀ e, owner s.nm n = some e → e.h = x := fun e he => Classical.byContradiction fun z => hx ⟨e, he, z⟩
      obtain ⟨i, hi2⟩ := o.life hu
      refine ⟨taken s x n i, .val (nameD (holds s.nm x)), a13, a14, o.take hn hi2 ho, ?_⟩
      unfold x_law_33
      refine try_nx (try_nx (hi.trans ?_))
      unfold x_law_16
      rw [seq_nx (v_asg (m1.trans (rtake_ok o (by omega) hn nx hi2 ho)))]
      have c19 : x_law_19 (E ns s a6 (.val (.int w)) (.val (.str x)) (.val (.str n)) (.val (mineD s x)) a11 (.val (nameD (holds s.nm x))) a13 a14) [A ns k, RD (taken s x n i)] = .nx (E ns s a6 (.val (.int w)) (.val (.str x)) (.val (.str n)) (.val (mineD s x)) a11 (.val (nameD (holds s.nm x))) a13 a14) [A ns k, RD (taken s x n i)] := by
        unfold x_law_19
        rw [v_ifF (st1 := [A ns k, RD (taken s x n i)])]
        · rfl
        rw [v_orF (st1 := [A ns k, RD (taken s x n i)]) (v_tB ((v_e2 (x := .str x) (y := .lst ((ups s.up).map D.str)) rfl rfl).trans (by rw [up_notin, decide_eq_true hu]; rfl)))]
        have g : tB (e2 gNe (eGet2 (ePeek 5) (ePeek 9) (eVar 8)) (ePeek 8)) (E ns s a6 (.val (.int w)) (.val (.str x)) (.val (.str n)) (.val (mineD s x)) a11 (.val (nameD (holds s.nm x))) a13 a14) [A ns k, RD (taken s x n i)] = .ok false [A ns k, RD (taken s x n i)] := v_tB ((v_e2 (get_name o rfl rfl rfl) (y := .str x) (st2 := [A ns k, RD (taken s x n i)]) rfl).trans (by
          rw [r_neSS]
          cases q : owner s.nm n with
          | none => simp
          | some e => simp [ho e q]))
        rw [v_orF g]
        cases q : holds s.nm x with
        | nil =>
          have mq : mineD s x = .lst [] := by show D.lst _ = _; rw [q]; rfl
          rw [mq]
          rfl
        | cons e r =>
          have mq : mineD s x = .lst ((e.n :: r.map (·.n)).map D.str) := by rw [mineD_strs, q]; rfl
          rw [mq]
          have i1 : gNotIn (.str e.n) (.lst ((e.n :: r.map (·.n)).map D.str)) [A ns k, RD (taken s x n i)] = .ok (.bl false) [A ns k, RD (taken s x n i)] := by
            rw [notin_flat rfl rfl (all_flat_map _ (fun _ => rfl) _), inD_str]
            simp
          rw [v_orF (st1 := [A ns k, RD (taken s x n i)]) ((v_andT (st1 := [A ns k, RD (taken s x n i)]) rfl).trans (v_tB ((v_e2 (x := .str e.n) rfl rfl).trans i1)))]
          exact v_andF rfl
      refine (seq_nx c19).trans ?_
      unfold x_law_22
      have l3 := o.nl
      have l4 := List.length_filter_le (fun e : N3 => !decide (e.h = x)) s.nm
      have r1 := rest_ok (x := x) (ρ := E ns s a6 (.val (.int w)) (.val (.str x)) (.val (.str n)) (.val (mineD s x)) a11 (.val (nameD (holds s.nm x))) a13 a14) (st := [A ns k, RD (taken s x n i)]) (tt := ct_law_7) (me := ce_law_6) o (by omega) rfl fun e he => ⟨_, rfl, by
        unfold ct_law_7
        exact v_tB ((v_e2 (x := .str e.h) (y := .str x) rfl rfl).trans (r_neSS ..)), rfl⟩
      have u2 : e2 gAdd (eComp (lD (eVar 5) (fun p => .tup [keyD p.1, p.2])) (bTup 2 (bCons (bName 30) (bCons (bName 26) bNil))) ct_law_7 ce_law_6 [30, 26]) (eLst (aCons (eTup (aCons (eVar 9) (aCons (eVar 8) aNil))) aNil)) (E ns s a6 (.val (.int w)) (.val (.str x)) (.val (.str n)) (.val (mineD s x)) a11 (.val (nameD (holds s.nm x))) a13 a14) [A ns k, RD (taken s x n i)] = .ok (.lst ((taken s x n i).nm.map fun e => .tup [.str e.n, .str e.h])) [A ns k, RD (taken s x n i)] := by
        rw [v_e2 r1 (y := .lst [.tup [.str n, .str x]]) (st2 := [A ns k, RD (taken s x n i)]) rfl, add_lst (by rw [List.length_map]; simp; omega)]
        show _ = RC.ok (D.lst (((s.nm.filter fun e : N3 => !decide (e.h = x)) ++ ([⟨n, x, i⟩] : List N3)).map fun e : N3 => .tup [.str e.n, .str e.h])) _
        rw [List.map_append]
        rfl
      refine (v_asg (x := .dct (lawN (taken s x n i).nm)) ?_).trans rfl
      rw [v_eN1 u2]
      unfold gDict
      simp only [pairs_N]
      rw [mergeLaw (o.take hn hi2 ho).nn]
end
end Lw
namespace Lw
open Gh L2 PyProof.Rows PySem.Spec PySem
theorem eqGo_self {kws : List (Key × D)} : ∀ l : List (Key × D), (∀ p ∈ l, valD kws p.1 = some p.2 ∧ okD 20 p.2 = true) → eqGo kws l = true
  | [], _ => rfl
  | (k, d) :: r, h => by
    obtain ⟨h1, h2⟩ := h (k, d) List.mem_cons_self
    unfold eqGo
    rw [h1]
    show (D.eqv d d && eqGo kws r) = true
    rw [eqv_refl 20 d h2, eqGo_self r fun p hp => h p (List.mem_cons_of_mem _ hp)]
    rfl
theorem eqDct_self {kvs : List (Key × D)} (h : ∀ p ∈ kvs, valD kvs p.1 = some p.2 ∧ okD 20 p.2 = true) (st : Store) : gNeDct (.dct kvs) (.dct kvs) st = .ok (.bl false) st := by
  have k : okDs kvs = true := List.all_eq_true.mpr fun p hp => (h p hp).2
  show (if okDs kvs = true ∧ okDs kvs = true then RC.ok (D.bl (!eqDct kvs kvs)) st else .bad) = _
  rw [if_pos ⟨k, k⟩]
  unfold eqDct
  rw [eqGo_self kvs h]
  simp
theorem falses (l : List D) : asBools (l.map fun _ => D.bl false) = some (l.map fun _ => false) := by
  induction l with
  | nil => rfl
  | cons a l ih =>
    rw [List.map_cons, List.map_cons]
    unfold asBools
    rw [ih]
    rfl
theorem any_false {l : List D} (h : ∀ d ∈ l, d = .bl false) (st : Store) : gAny [.lst l] st = .ok (.bl false) st := by
  have e : l = l.map fun _ => D.bl false := by
    conv => lhs; rw [← List.map_id l]
    exact List.map_congr_left fun d hd => h d hd
  rw [e]
  unfold gAny
  simp only [falses]
  congr 2
  simp
section
variable {a6 a7 a8 a9 a10 a11 a12 a13 a14 : Sl} {ns : List Int} {s : S} {k i w : Int} {x n : Str} {t : Nat} {ρ : REnv} {st : Store}
theorem N3.ok {e : N3} (h : Nm e.h) : okD 20 e.p = true := by
  show (okD 19 (.str e.h) && (okD 19 (.int e.i) && true)) = true
  rw [h.ok]; rfl
theorem findD_ok (o : Ok s t) : okD 20 (findD s n) = true := by
  unfold findD
  cases q : owner s.nm n with
  | none => rfl
  | some e => exact N3.ok (o.hNm (owner_mem q).1)
theorem findD_at (o : Ok s t) {e : N3} (he : e ∈ s.nm) : findD s e.n = e.p := by
  unfold findD
  cases q : owner s.nm e.n with
  | none => exact absurd (List.mem_map_of_mem he) (owner_none q)
  | some f =>
    obtain ⟨f1, f2⟩ := owner_mem q
    rw [nodup_inj o.nn f1 he f2]
theorem nameD_ok (o : Ok s t) : okD 20 (nameD (holds s.nm x)) = true := by
  cases q : holds s.nm x with
  | nil => rfl
  | cons e r => exact holds_ok o e.n (by rw [q]; exact List.mem_cons_self) 20
theorem law_name (o : Ok s t) {e : N3} (he : e ∈ s.nm) (st : Store) : gIx (.dct (lawN s.nm)) (.str e.n) st = .ok (.str e.h) st := by
  have : valD (lawN s.nm) (.inr e.n) = some (.str e.h) := val_of (α := N3) (fun e => e.n) (fun e => D.str e.h) o.nn he
  simp [gIx, this]
theorem law_life (o : Ok s t) {e : N3} (he : e ∈ s.nm) (st : Store) : gIx (.dct s.lv) (.str e.h) st = .ok (.int e.i) st := by
  have := (o.uk _ (o.nh e he)).2
  simp only at this
  simp [gIx, this]
/-- (names[n], lives[names[n]]) -/
theorem pair_law (o : Ok s t) {e : N3} (he : e ∈ s.nm) (h5 : ρ[5]? = some (.val (.dct (lawN s.nm)))) (h3 : ρ[3]? = some (.own (.dct s.lv))) (h30 : ρ[30]? = some (.val (.str e.n))) : eTup (aCons (e2 gIx (ePeek 5) (ePeek 30)) (aCons (e2 gIx (ePeek 3) (e2 gIx (ePeek 5) (ePeek 30))) aNil)) ρ st = .ok e.p st := by
  have p5 : ePeek 5 ρ st = .ok (.dct (lawN s.nm)) st := by rw [r_peek, h5]
  have p3 : ePeek 3 ρ st = .ok (.dct s.lv) st := by rw [r_peek, h3]
  have p30 : ePeek 30 ρ st = .ok (.str e.n) st := by rw [r_peek, h30]
  have g := (v_e2 p5 p30).trans (law_name o he st)
  rw [r_tup, v_cons g (v_cons ((v_e2 p3 g).trans (law_life o he st)) rfl)]
  rfl
theorem pairs_T (f : Str → D) : ∀ l : List Str, pairsD (l.map fun n => .tup [.str n, f n]) = some (l.map fun n => (.inr n, f n))
  | [] => rfl
  | e :: l => by
    rw [List.map_cons]
    unfold pairsD
    rw [pairs_T f l]
    rfl
theorem told_nd (o : Ok s t) : (namesS s).Nodup := o.nn.perm (sortS_perm _).symm
theorem toldMerge (o : Ok s t) : mergeD [] (toldD s) = toldD s := mergeD_id (by
  rw [toldD, keys_of (fun n : Str => n) (fun n => findD s n), List.map_id']
  have := told_nd o
  rw [List.nodup_iff_pairwise_ne] at this
  rw [List.nodup_iff_pairwise_ne, List.pairwise_map]
  exact this.imp fun {a b} n e => n (Sum.inr.inj e))
theorem check_ok (o : Ok s t) (ht : t < 50) : x_law_39 (E ns s a6 a7 a8 a9 a10 a11 a12 a13 a14) [A ns k, RD s] = .nx (E ns s a6 a7 a8 a9 a10 a11 a12 a13 a14) [A ns k, RD s] := by
  have l3 := o.nl
  have l2 := o.ul
  have pm : (namesS s).Perm (s.nm.map (·.n)) := sortS_perm _
  unfold x_law_39
  have t1 : eN gDict (aCons (eMethU [("Registry", m_Registry_told)] "told" (eVar 2) aNil) aNil) (E ns s a6 a7 a8 a9 a10 a11 a12 a13 a14) [A ns k, RD s] = .ok (.dct (toldD s)) [A ns k, RD s] := by
    have m1 : eMethU [("Registry", m_Registry_told)] "told" (eVar 2) aNil (E ns s a6 a7 a8 a9 a10 a11 a12 a13 a14) [A ns k, RD s] = m_Registry_told [.loc 1] [A ns k, RD s] := by kernel_rfl
    rw [v_eN1 (m1.trans (told_ok o (by omega)))]
    rfl
  have ks : keyS (lawN s.nm) = some (s.nm.map (·.n)) := keyS_map (fun e : N3 => e.n) (fun e => D.str e.h) s.nm
  have so : eN gSortKS (aCons (ePeek 5) aNil) (E ns s a6 a7 a8 a9 a10 a11 a12 a13 a14) [A ns k, RD s] = .ok (.lst ((namesS s).map D.str)) [A ns k, RD s] := by
    rw [v_eN1 (x := .dct (lawN s.nm)) (st1 := [A ns k, RD s]) rfl]
    unfold gSortKS
    simp only [ks]
    rw [if_pos (by rw [List.length_map]; omega)]
  have t2 : eN gDict (aCons (eComp (lSeq (eN gSortKS (aCons (ePeek 5) aNil))) (bName 30) tYes ce_law_11 [30]) aNil) (E ns s a6 a7 a8 a9 a10 a11 a12 a13 a14) [A ns k, RD s] = .ok (.dct (toldD s)) [A ns k, RD s] := by
    rw [v_eN1 (eComp_map D.str (fun n => .tup [.str n, findD s n]) (fun _ => true) (namesS s) (by rw [r_lSeq, so]; rfl) (by rw [pm.length_eq, List.length_map]; omega) fun n hn => ⟨_, rfl, rfl, fun _ => ⟨by
      obtain ⟨e, he, rfl⟩ := List.mem_map.mp (pm.mem_iff.mp hn)
      unfold ce_law_11
      rw [r_tup, v_cons (x := .str e.n) rfl (v_cons (pair_law o he rfl rfl rfl) rfl), findD_at o he]
      rfl, rfl⟩⟩)]
    rw [List.filter_eq_self.mpr (fun _ _ => rfl)]
    unfold gDict
    simp only [pairs_T]
    show RC.ok (D.dct (mergeD [] (toldD s))) _ = _
    rw [toldMerge o]
  have c1 : tB (e2 gNeDct (eN gDict (aCons (eMethU [("Registry", m_Registry_told)] "told" (eVar 2) aNil) aNil)) (eN gDict (aCons (eComp (lSeq (eN gSortKS (aCons (ePeek 5) aNil))) (bName 30) tYes ce_law_11 [30]) aNil))) (E ns s a6 a7 a8 a9 a10 a11 a12 a13 a14) [A ns k, RD s] = .ok false [A ns k, RD s] := v_tB ((v_e2 t1 t2).trans (eqDct_self (fun p hp => by
    obtain ⟨n, hn, rfl⟩ := List.mem_map.mp hp
    refine ⟨?_, findD_ok o⟩
    have := val_of (α := Str) (fun n => n) (fun n => findD s n) (l := namesS s) (a := n) (by rw [List.map_id']; exact told_nd o) hn
    exact this) _))
  have c2 : eN gAny (aCons (eComp (lSeq (eTup (aCons (eC (.str "x")) (aCons (eC (.str "y")) aNil)))) (bName 30) tYes ce_law_12 [30]) aNil) (E ns s a6 a7 a8 a9 a10 a11 a12 a13 a14) [A ns k, RD s] = .ok (.bl false) [A ns k, RD s] := by
    rw [v_eN1 (eComp_map D.str (fun n => .bl false) (fun _ => true) ["x", "y"] rfl (by decide) fun n hn => ⟨_, rfl, rfl, fun _ => ⟨by
      have nx : Nx n := by
        rcases List.mem_cons.mp hn with h | h
        · exact .inl h
        · exact .inr (by simpa using h)
      unfold ce_law_12
      have m1 : eMethU [("Registry", m_Registry_find)] "find" (eVar 2) (aCons (eVar 30) aNil) ((wipeR (E ns s a6 a7 a8 a9 a10 a11 a12 a13 a14) [30]).set 30 (.val (.str n))) [A ns k, RD s] = m_Registry_find [.loc 1, .str n] [A ns k, RD s] := by kernel_rfl
      have g : eIf (tB (e2 gIn (ePeek 30) (ePeek 5))) (eTup (aCons (e2 gIx (ePeek 5) (ePeek 30)) (aCons (e2 gIx (ePeek 3) (e2 gIx (ePeek 5) (ePeek 30))) aNil))) (eC .non) ((wipeR (E ns s a6 a7 a8 a9 a10 a11 a12 a13 a14) [30]).set 30 (.val (.str n))) [A ns k, RD s] = .ok (findD s n) [A ns k, RD s] := by
        have d := v_tB ((v_e2 (ρ := (wipeR (E ns s a6 a7 a8 a9 a10 a11 a12 a13 a14) [30]).set 30 (.val (.str n))) (ma := ePeek 30) (mb := ePeek 5) (x := .str n) (y := .dct (lawN s.nm)) (st := [A ns k, RD s]) (st2 := [A ns k, RD s]) rfl rfl).trans (in_dct (r_keyS n)))
        rw [show (valD (lawN s.nm) (.inr n)).isSome = decide (n ∈ s.nm.map (·.n)) from in_of (α := N3) (fun e => e.n) (fun e => D.str e.h)] at d
        rw [r_eIf, d, RC.bind_ok]
        by_cases q : n ∈ s.nm.map (·.n)
        · obtain ⟨e, he, rfl⟩ := List.mem_map.mp q
          rw [decide_eq_true q, if_pos rfl, pair_law o he rfl rfl rfl, findD_at o he]
        · rw [decide_eq_false q, if_neg (by decide)]
          unfold findD
          cases z : owner s.nm n with
          | none => rfl
          | some f => exact absurd (by rw [← (owner_mem z).2]; exact List.mem_map_of_mem (owner_mem z).1) q
      exact (v_e2 (m1.trans (find_ok o nx)) g).trans (ne_self (findD_ok o)), rfl⟩⟩)]
    exact any_false (fun d hd => by
      obtain ⟨_, _, rfl⟩ := List.mem_map.mp hd
      rfl) _
  have c3 : eN gAny (aCons (eComp (lSeq (eVar 4)) (bName 30) tYes ce_law_14 [30]) aNil) (E ns s a6 a7 a8 a9 a10 a11 a12 a13 a14) [A ns k, RD s] = .ok (.bl false) [A ns k, RD s] := by
    rw [v_eN1 (eComp_map D.str (fun n => .bl false) (fun _ => true) (ups s.up) rfl (by rw [ups, List.length_map]; omega) fun z hz => ⟨_, rfl, rfl, fun _ => ⟨by
      have hu : isUp s z := hz
      obtain ⟨i, hi⟩ := o.life hu
      have nz : Nm z := (o.uk _ hi).1
      unfold ce_law_14
      have m1 : eMethU [("Registry", m_Registry_name_of)] "name_of" (eVar 2) (aCons (eVar 30) aNil) ((wipeR (E ns s a6 a7 a8 a9 a10 a11 a12 a13 a14) [30]).set 30 (.val (.str z))) [A ns k, RD s] = m_Registry_name_of [.loc 1, .str z] [A ns k, RD s] := by kernel_rfl
      have e1 : eComp (lD (eVar 5) (fun p => .tup [keyD p.1, p.2])) (bTup 2 (bCons (bName 26) (bCons (bName 31) bNil))) ct_law_13 (eVar 26) [26, 31] ((wipeR (E ns s a6 a7 a8 a9 a10 a11 a12 a13 a14) [30]).set 30 (.val (.str z))) [A ns k, RD s] = .ok (mineD s z) [A ns k, RD s] :=
        eComp_map (fun e : N3 => .tup [.str e.n, .str e.h]) (fun e : N3 => .str e.n) (fun e : N3 => decide (e.h = z)) s.nm (by
          unfold lD
          show RC.ok ((lawN s.nm).map _) _ = _
          unfold lawN
          rw [List.map_map]
          rfl) (by omega) fun e he => ⟨_, rfl, by
            unfold ct_law_13
            exact v_tB ((v_e2 (x := .str e.h) (y := .str z) rfl rfl).trans (r_eqSS ..)), fun _ => ⟨rfl, rfl⟩⟩
      have g : gIx (.lst ((holds s.nm z).map (fun e => D.str e.n) ++ [.non])) (.int 0) [A ns k, RD s] = .ok (nameD (holds s.nm z)) [A ns k, RD s] := by
        cases holds s.nm z with
        | nil => rfl
        | cons e r => simp [gIx, itemsOf, atI, L2.ixN, nameD, show (0 : Int) < (r.length : Int) + 1 + 1 by omega]
      have lz : (holds s.nm z).length ≤ s.nm.length := List.length_filter_le ..
      have e2' := (v_e2 e1 (mb := eLst (aCons (eC .non) aNil)) (y := .lst [.non]) (st2 := [A ns k, RD s]) rfl).trans (add_lst (st := [A ns k, RD s]) (by rw [List.length_map]; simp; omega))
      exact (v_e2 (m1.trans (name_of_ok o (by omega) nz hu)) ((v_e2 e2' (y := .int 0) (st2 := [A ns k, RD s]) rfl).trans g)).trans (ne_self (nameD_ok o)), rfl⟩⟩)]
    exact any_false (fun d hd => by
      obtain ⟨_, _, rfl⟩ := List.mem_map.mp hd
      rfl) _
  rw [v_ifF (st1 := [A ns k, RD s])]
  · rfl
  rw [v_orF c1]
  have b : ∀ {m : EDen} {ρ : REnv} {st : Store}, m ρ st = .ok (.bl false) st → tTr m ρ st = .ok false st := fun {m ρ st} h => by rw [r_tTr, h]; rfl
  rw [v_orF (b c2)]
  exact b c3
end
end Lw
namespace Lw
open Gh L2 PyProof.Rows PySem.Spec PySem
section
variable {a6 a7 a8 a9 a10 a11 a12 a13 a14 : Sl} {ns : List Int} {s : S} {k i w : Int} {x n : Str} {t : Nat} {ρ : REnv} {st : Store}
theorem there_ok (o : Ok s t) (nx : Nm x) (hi : 1 ≤ i ∧ i ≤ 9999) : ce_law_15 ((wipeR ((wipeR (E ns s a6 a7 a8 a9 a10 a11 a12 a13 a14) [32]).set 32 (.val (.str x))) [33]).set 33 (.val (.int i))) [A ns k, RD s] = .ok (.bl false) [A ns k, RD s] := by
  obtain ⟨ρ, hρ⟩ : ∃ ρ, ρ = (wipeR ((wipeR (E ns s a6 a7 a8 a9 a10 a11 a12 a13 a14) [32]).set 32 (.val (.str x))) [33]).set 33 (.val (.int i)) := ⟨_, rfl⟩
  have m1 : eMethU [("Registry", m_Registry_is_there)] "is_there" (eVar 2) (aCons (eTup (aCons (eVar 32) (aCons (eVar 33) aNil))) aNil) ρ [A ns k, RD s] = m_Registry_is_there [.loc 1, .tup [.str x, .int i]] [A ns k, RD s] := by rw [hρ]; kernel_rfl
  have p32 : ePeek 32 ρ [A ns k, RD s] = .ok (.str x) [A ns k, RD s] := by rw [hρ]; rfl
  have p33 : ePeek 33 ρ [A ns k, RD s] = .ok (.int i) [A ns k, RD s] := by rw [hρ]; rfl
  have p4 : ePeek 4 ρ [A ns k, RD s] = .ok (.lst ((ups s.up).map D.str)) [A ns k, RD s] := by rw [hρ]; rfl
  have p3 : ePeek 3 ρ [A ns k, RD s] = .ok (.dct s.lv) [A ns k, RD s] := by rw [hρ]; rfl
  rw [← hρ]
  have g : eAnd (e2 gIn (ePeek 32) (ePeek 4)) (e2 gEq (e2 gIx (ePeek 3) (ePeek 32)) (ePeek 33)) ρ [A ns k, RD s] = .ok (.bl (decide ((x, i) ∈ s.up))) [A ns k, RD s] := by
    rw [r_eAnd, v_e2 p32 p4, up_in, RC.bind_ok]
    by_cases hu : isUp s x
    · obtain ⟨j, hj⟩ := o.life hu
      have v : gIx (.dct s.lv) (.str x) [A ns k, RD s] = .ok (.int j) [A ns k, RD s] := by
        have := (o.uk _ hj).2
        simp only at this
        simp [gIx, this]
      rw [decide_eq_true hu]
      show e2 gEq (e2 gIx (ePeek 3) (ePeek 32)) (ePeek 33) ρ [A ns k, RD s] = _
      rw [v_e2 ((v_e2 p3 p32).trans v) p33, r_eqII]
      have : decide (j = i) = decide ((x, i) ∈ s.up) := decide_eq_decide.mpr ⟨fun z => z ▸ hj, fun z => o.one hj z⟩
      rw [this]
    · rw [decide_eq_false hu, decide_eq_false fun z => hu (List.mem_map.mpr ⟨_, z, rfl⟩)]
      rfl
  unfold ce_law_15
  exact (v_e2 (m1.trans (is_there_ok o nx hi)) g).trans (by rw [r_neBB]; simp)
theorem there3 (o : Ok s t) (nx : Nm x) : ce_law_16 ((wipeR (E ns s a6 a7 a8 a9 a10 a11 a12 a13 a14) [32]).set 32 (.val (.str x))) [A ns k, RD s] = .ok (.lst [.bl false, .bl false, .bl false]) [A ns k, RD s] := by
  unfold ce_law_16
  exact eComp_map D.int (fun _ => .bl false) (fun _ => true) [1, 2, 3] rfl (by decide) fun i hi => ⟨_, rfl, rfl, fun _ => ⟨there_ok o nx (by
    have : i = 1 ∨ i = 2 ∨ i = 3 := by simpa using hi
    omega), rfl⟩⟩
theorem there_all (o : Ok s t) : x_law_43 (E ns s a6 a7 a8 a9 a10 a11 a12 a13 a14) [A ns k, RD s] = .nx (E ns s a6 a7 a8 a9 a10 a11 a12 a13 a14) [A ns k, RD s] := by
  unfold x_law_43
  have e1 := eComp_map (mi := lSeq (eTup (aCons (eC (.str "a")) (aCons (eC (.str "b")) (aCons (eC (.str "c")) aNil))))) (bd := bName 32) (t := tYes) (me := ce_law_16) (vs := [32]) (ρ := E ns s a6 a7 a8 a9 a10 a11 a12 a13 a14) (st := [A ns k, RD s]) D.str (fun _ => .lst [.bl false, .bl false, .bl false]) (fun _ => true) ["a", "b", "c"] rfl (by decide) fun z hz => ⟨_, rfl, rfl, fun _ => ⟨there3 o (by simpa using hz), rfl⟩⟩
  have f1 : m__law_flat [.lst [.lst [.bl false, .bl false, .bl false], .lst [.bl false, .bl false, .bl false], .lst [.bl false, .bl false, .bl false]]] [A ns k, RD s] = .ok (.lst [.bl false, .bl false, .bl false, .bl false, .bl false, .bl false, .bl false, .bl false, .bl false]) [A ns k, RD s] := callD_rt0 rfl (by kernel_rfl) rfl
  have e2' := (v_call (f := m__law_flat) (v_cons e1 (rfl : aNil _ _ = .ok [] _))).trans f1
  rw [v_ifF (st1 := [A ns k, RD s])]
  · rfl
  rw [r_tTr, v_eN1 e2']
  rfl
theorem turn (o : Ok s t) (ht : t < 49) (hk : 0 ≤ k) (hl : ns.length ≤ 63) : ∃ (s' : S) (b7 b8 b9 b10 b11 b12 b13 b14 : Sl), Ok s' (t + 1) ∧
    lb_law_17 (E ns s a6 a7 a8 a9 a10 a11 a12 a13 a14) [A ns k, RD s] = .nx (E ns s' a6 b7 b8 b9 b10 b11 b12 b13 b14) [A ns (k + 3), RD s'] := by
  obtain ⟨w, x, n, h0, h1, nx, nn, e1⟩ := draws (a6 := a6) (a7 := a7) (a8 := a8) (a9 := a9) (a10 := a10) (a11 := a11) (a12 := a12) (a13 := a13) (a14 := a14) (s := s) hl hk
  have e2' := mine_ok (a6 := a6) (a7 := .val (.int w)) (a9 := .val (.str n)) (a10 := a10) (a11 := a11) (a12 := a12) (a13 := a13) (a14 := a14) (ns := ns) (k := k + 3) (x := x) o (by omega)
  have go : ∃ (s' : S) (b10 b11 b12 b13 b14 : Sl), Ok s' (t + 1) ∧ x_law_33 (E ns s a6 (.val (.int w)) (.val (.str x)) (.val (.str n)) (.val (mineD s x)) a11 a12 a13 a14) [A ns (k + 3), RD s] = .nx (E ns s' a6 (.val (.int w)) (.val (.str x)) (.val (.str n)) b10 b11 b12 b13 b14) [A ns (k + 3), RD s'] := by
    by_cases h2 : w < 2
    · obtain ⟨s', b11, b13, b14, o', e⟩ := turn_start (a6 := a6) (n := n) (a10 := .val (mineD s x)) (a11 := a11) (a12 := a12) (a13 := a13) (a14 := a14) (ns := ns) (k := k + 3) o (by omega) nx h2
      exact ⟨s', _, b11, _, b13, b14, o', e⟩
    · by_cases h3 : w = 2
      · subst h3
        obtain ⟨s', b12, b13, b14, o', e⟩ := turn_end (a6 := a6) (n := n) (a11 := a11) (a12 := a12) (a13 := a13) (a14 := a14) (ns := ns) (k := k + 3) o (by omega) nx
        exact ⟨s', _, _, b12, b13, b14, o', e⟩
      · obtain ⟨s', b12, b13, b14, o', e⟩ := turn_take (a6 := a6) (a11 := a11) (a12 := a12) (a13 := a13) (a14 := a14) (ns := ns) (k := k + 3) (w := w) o (by omega) nx nn (by omega)
        exact ⟨s', _, _, b12, b13, b14, o', e⟩
  obtain ⟨s', b10, b11, b12, b13, b14, o', e3⟩ := go
  refine ⟨s', .val (.int w), .val (.str x), .val (.str n), b10, b11, b12, b13, b14, o', ?_⟩
  unfold lb_law_17
  rw [seq_nx e1, seq_nx e2', seq_nx e3]
  -- the checks go with t + 1
  rw [seq_nx (check_ok o' (by omega)), there_all o']
theorem turns (hl : ns.length ≤ 63) : ∀ (l : List D) (s : S) (t : Nat) (k : Int) (a6 a7 a8 a9 a10 a11 a12 a13 a14 : Sl), Ok s t → t + l.length < 49 → 0 ≤ k → ∃ (s' : S) (k' : Int) (b6 b7 b8 b9 b10 b11 b12 b13 b14 : Sl), Ok s' (t + l.length) ∧ 0 ≤ k' ∧
    forGo (bName 6) lb_law_17 l (E ns s a6 a7 a8 a9 a10 a11 a12 a13 a14) [A ns k, RD s] = .nx (E ns s' b6 b7 b8 b9 b10 b11 b12 b13 b14) [A ns k', RD s']
  | [], s, t, k, a6, a7, a8, a9, a10, a11, a12, a13, a14, o, ht, hk => ⟨s, k, a6, a7, a8, a9, a10, a11, a12, a13, a14, o, hk, rfl⟩
  | d :: l, s, t, k, a6, a7, a8, a9, a10, a11, a12, a13, a14, o, ht, hk => by
    simp only [List.length_cons] at ht
    obtain ⟨s', b7, b8, b9, b10, b11, b12, b13, b14, o', e⟩ := turn (a6 := .val d) (a7 := a7) (a8 := a8) (a9 := a9) (a10 := a10) (a11 := a11) (a12 := a12) (a13 := a13) (a14 := a14) o (by omega) hk hl
    obtain ⟨s2, k2, c6, c7, c8, c9, c10, c11, c12, c13, c14, o2, hk2, e2'⟩ := turns hl l s' (t + 1) (k + 3) (.val d) b7 b8 b9 b10 b11 b12 b13 b14 o' (by omega) (by omega)
    refine ⟨s2, k2, c6, c7, c8, c9, c10, c11, c12, c13, c14, ?_, hk2, ?_⟩
    · rw [List.length_cons, show t + (l.length + 1) = t + 1 + l.length by omega]
      exact o2
    · unfold forGo
      show (match lb_law_17 (E ns s (.val d) a7 a8 a9 a10 a11 a12 a13 a14) [A ns k, RD s] with
        | .nx ρ2 st2 => forGo (bName 6) lb_law_17 l ρ2 st2
        | .ct ρ2 st2 => forGo (bName 6) lb_law_17 l ρ2 st2
        | .bk ρ2 st2 => .nx ρ2 st2
        | r => r) = _
      rw [e]
      exact e2'
end
end Lw
namespace Lw
open Gh L2 PyProof.Rows PySem.Spec PySem
/-! the crew -/
structure C where
  (many most : Int) (wt : List Str) (hd : List (Option Str)) (dn as : List Str) (tk : List (Str × Int))
def optD : Option Str → D
  | some s => .str s
  | none => .non
abbrev strL (l : List Str) : List D := l.map D.str
abbrev optL (l : List (Option Str)) : List D := l.map optD
abbrev CD (c : C) : D := .ins "Crew" [("many", .int c.many), ("most", .int c.most), ("waiting", .tup (strL c.wt)), ("held", .tup (optL c.hd)), ("done", .tup (strL c.dn)), ("aside", .tup (strL c.as)), ("taken", .dct (upD c.tk))]
def Jb (s : Str) : Prop := m_is_name [.str s] = fun st => .ok (.bl true) st
structure Ck (c : C) (t : Nat) : Prop where
  lm : (c.hd.length : Int) = c.many
  m9 : c.many ≤ 9
  lw : c.wt.length ≤ t
  ld : c.dn.length ≤ t
  la : c.as.length ≤ t
  lt : c.tk.length ≤ t
  nt : (c.tk.map (·.1)).Nodup
  wk : ∀ x ∈ c.wt, x ∈ c.tk.map (·.1)
  hk : ∀ x, some x ∈ c.hd → x ∈ c.tk.map (·.1)
section
variable {A B : D} {c : C} {ρ : REnv} {h : Int} {x : Str} {t : Nat}
theorem ac_many : eAttC "many" ["Crew"] (.loc 2) [A, B, CD c] = .ok (.int c.many) [A, B, CD c] := by kernel_rfl
theorem ac_most : eAttC "most" ["Crew"] (.loc 2) [A, B, CD c] = .ok (.int c.most) [A, B, CD c] := by kernel_rfl
theorem ac_wt : eAttC "waiting" ["Crew"] (.loc 2) [A, B, CD c] = .ok (.tup (strL c.wt)) [A, B, CD c] := by kernel_rfl
theorem ac_hd : eAttC "held" ["Crew"] (.loc 2) [A, B, CD c] = .ok (.tup (optL c.hd)) [A, B, CD c] := by kernel_rfl
theorem ac_dn : eAttC "done" ["Crew"] (.loc 2) [A, B, CD c] = .ok (.tup (strL c.dn)) [A, B, CD c] := by kernel_rfl
theorem ac_as : eAttC "aside" ["Crew"] (.loc 2) [A, B, CD c] = .ok (.tup (strL c.as)) [A, B, CD c] := by kernel_rfl
theorem ac_tk : eAttC "taken" ["Crew"] (.loc 2) [A, B, CD c] = .ok (.dct (upD c.tk)) [A, B, CD c] := by kernel_rfl
theorem ec (f : Str) {d : D} (h0 : ρ[0]? = some (.val (.loc 2))) (e : eAttC f ["Crew"] (.loc 2) [A, B, CD c] = .ok d [A, B, CD c]) : Gh.e1 (eAttC f ["Crew"]) (eVar 0) ρ [A, B, CD c] = .ok d [A, B, CD c] := by rw [r_e1, r_var, h0]; exact e
theorem sc_wt {mv : EDen} {x : List Str} (h0 : ρ[0]? = some (.val (.loc 2))) (h : mv ρ [A, B, CD c] = .ok (.tup (strL x)) [A, B, CD c]) : sAtt "waiting" ["Crew"] (eVar 0) mv ρ [A, B, CD c] = .nx ρ [A, B, CD { c with wt := x }] := by
  rw [r_att, h]
  show (eVar 0 ρ [A, B, CD c]).s ρ _ = _
  rw [r_var, h0]
  kernel_rfl
theorem sc_hd {mv : EDen} {x : List (Option Str)} (h0 : ρ[0]? = some (.val (.loc 2))) (h : mv ρ [A, B, CD c] = .ok (.tup (optL x)) [A, B, CD c]) : sAtt "held" ["Crew"] (eVar 0) mv ρ [A, B, CD c] = .nx ρ [A, B, CD { c with hd := x }] := by
  rw [r_att, h]
  show (eVar 0 ρ [A, B, CD c]).s ρ _ = _
  rw [r_var, h0]
  kernel_rfl
theorem sc_dn {mv : EDen} {x : List Str} (h0 : ρ[0]? = some (.val (.loc 2))) (h : mv ρ [A, B, CD c] = .ok (.tup (strL x)) [A, B, CD c]) : sAtt "done" ["Crew"] (eVar 0) mv ρ [A, B, CD c] = .nx ρ [A, B, CD { c with dn := x }] := by
  rw [r_att, h]
  show (eVar 0 ρ [A, B, CD c]).s ρ _ = _
  rw [r_var, h0]
  kernel_rfl
theorem sc_as {mv : EDen} {x : List Str} (h0 : ρ[0]? = some (.val (.loc 2))) (h : mv ρ [A, B, CD c] = .ok (.tup (strL x)) [A, B, CD c]) : sAtt "aside" ["Crew"] (eVar 0) mv ρ [A, B, CD c] = .nx ρ [A, B, CD { c with as := x }] := by
  rw [r_att, h]
  show (eVar 0 ρ [A, B, CD c]).s ρ _ = _
  rw [r_var, h0]
  kernel_rfl
theorem sc_tk {mv : EDen} {x : List (Str × Int)} (h0 : ρ[0]? = some (.val (.loc 2))) (h : mv ρ [A, B, CD c] = .ok (.dct (upD x)) [A, B, CD c]) : sAtt "taken" ["Crew"] (eVar 0) mv ρ [A, B, CD c] = .nx ρ [A, B, CD { c with tk := x }] := by
  rw [r_att, h]
  show (eVar 0 ρ [A, B, CD c]).s ρ _ = _
  rw [r_var, h0]
  kernel_rfl
theorem check_hand_ok (hm : 0 ≤ h ∧ h < c.many) : m_Crew_check_hand [.loc 2, .int h] [A, B, CD c] = .ok .non [A, B, CD c] := by
  refine callD_nx0 (ρ' := [.val (.loc 2), .val (.int h)]) rfl ?_
  show b_Crew_check_hand [.val (.loc 2), .val (.int h)] [A, B, CD c] = _
  unfold b_Crew_check_hand
  have e := number_in (k := h) (lo := 0) (hi := c.many - 1) ⟨hm.1, by omega⟩ [A, B, CD c]
  have g : e2 gSub (Gh.e1 (eAttC "many" ["Crew"]) (eVar 0)) (eC (.int 1)) [.val (.loc 2), .val (.int h)] [A, B, CD c] = .ok (.int (c.many - 1)) [A, B, CD c] := (v_e2 (ec "many" rfl ac_many) rfl).trans rfl
  have k : eCall m_is_number (aCons (eVar 1) (aCons (eC (.int 0)) (aCons (e2 gSub (Gh.e1 (eAttC "many" ["Crew"]) (eVar 0)) (eC (.int 1))) aNil))) [.val (.loc 2), .val (.int h)] [A, B, CD c] = .ok (.bl true) [A, B, CD c] := (v_call (v_cons rfl (v_cons rfl (v_cons g (rfl : aNil _ _ = .ok [] _))))).trans e
  rw [v_ifF (st1 := [A, B, CD c])]
  · rfl
  rw [r_tNot, r_tTr, k]
  rfl
/-! slices -/
theorem cut_to' (l : List D) (j : Nat) (h : j ≤ l.length) : Gh.cutD l none (some (j : Int)) = l.take j := by
  unfold Gh.cutD
  rw [HT.sIx_none, HT.sIx_nat, List.drop_zero]
  congr 1
  omega
theorem cut_from' (l : List D) (j : Nat) (h : j ≤ l.length) : Gh.cutD l (some (j : Int)) none = l.drop j := by
  unfold Gh.cutD
  rw [HT.sIx_none, HT.sIx_nat, show min j l.length = j by omega]
  exact List.take_of_length_le (by simp)
theorem set_cut {α : Type} (l : List α) (j : Nat) (h : j < l.length) (v : α) : l.take j ++ v :: l.drop (j + 1) = l.set j v := by
  rw [List.set_eq_take_append_cons_drop, if_pos h]
/-- (*held[:h], v, *held[h + 1:]) -/
theorem held_set (j : Nat) (hj : j < c.hd.length) (h9 : c.hd.length ≤ 9) {mv : EDen} {v : Option Str} (h0 : ρ[0]? = some (.val (.loc 2))) (h1 : ρ[1]? = some (.val (.int (j : Int)))) (hv : mv ρ [A, B, CD c] = .ok (optD v) [A, B, CD c]) :
    eTup (aStar (eCut (Gh.e1 (eAttC "held" ["Crew"]) (eVar 0)) oNone (oSome (ePeek 1))) (aCons mv (aStar (eCut (Gh.e1 (eAttC "held" ["Crew"]) (eVar 0)) (oSome (e2 gAdd (ePeek 1) (eC (.int 1)))) oNone) aNil))) ρ [A, B, CD c] = .ok (.tup (optL (c.hd.set j v))) [A, B, CD c] := by
  have p1 : ePeek 1 ρ [A, B, CD c] = .ok (.int (j : Int)) [A, B, CD c] := by rw [r_peek, h1]
  have hl : j < (optL c.hd).length := by rw [List.length_map]; exact hj
  have c1 : eCut (Gh.e1 (eAttC "held" ["Crew"]) (eVar 0)) oNone (oSome (ePeek 1)) ρ [A, B, CD c] = .ok (.tup ((optL c.hd).take j)) [A, B, CD c] := by
    rw [r_cut, ec "held" h0 ac_hd]
    simp only [RC.bind_ok, r_oNone, r_oSome, p1]
    show RC.ok (D.tup (Gh.cutD (optL c.hd) none (some (j : Int)))) _ = _
    rw [cut_to' _ _ (by omega)]
  have c2 : eCut (Gh.e1 (eAttC "held" ["Crew"]) (eVar 0)) (oSome (e2 gAdd (ePeek 1) (eC (.int 1)))) oNone ρ [A, B, CD c] = .ok (.tup ((optL c.hd).drop (j + 1))) [A, B, CD c] := by
    rw [r_cut, ec "held" h0 ac_hd]
    simp only [RC.bind_ok, r_oNone, r_oSome, r_e2, p1, r_c, r_addII]
    show RC.ok (D.tup (Gh.cutD (optL c.hd) (some ((j : Int) + 1)) none)) _ = _
    rw [show ((j : Int) + 1) = ((j + 1 : Nat) : Int) by omega, cut_from' _ _ (by omega)]
  have fl : ∀ l : List (Option Str), flatL (l.map optD) = true := fun l => flatL_map _ l fun a => by cases a <;> rfl
  have fv : isLoc (optD v) = false := by cases v <;> rfl
  rw [r_tup, r_star, c1]
  simp only [RC.bind_ok, r_starT, r_aCons, hv, r_star, c2, r_aNil]
  have e : (optL c.hd).take j ++ optD v :: ((optL c.hd).drop (j + 1) ++ []) = optL (c.hd.set j v) := by
    rw [List.append_nil, set_cut _ _ hl]
    show (c.hd.map optD).set j (optD v) = (c.hd.set j v).map optD
    rw [List.map_set]
  rw [e, if_pos ⟨fl _, by rw [List.length_map, List.length_set]; omega⟩]
theorem ix_held (j : Nat) (hj : j < c.hd.length) (st : Store) : gIx (.tup (optL c.hd)) (.int (j : Int)) st = .ok (optD c.hd[j]) st := by
  have : (optL c.hd)[j]? = some (optD c.hd[j]) := by rw [List.getElem?_map, List.getElem?_eq_getElem hj]; rfl
  have l2 : L2.ixN c.hd.length (j : Int) = some j := by
    unfold L2.ixN
    rw [if_pos (by omega), if_pos (by omega)]
    simp
  simp [gIx, itemsOf, atI, l2, this, List.getElem?_eq_getElem hj]
theorem let_go_ok (k : Ck c t) (j : Nat) (hj : j < c.hd.length) : m_Crew_let_go [.loc 2, .int (j : Int)] [A, B, CD c] = .ok (optD c.hd[j]) [A, B, CD { c with hd := c.hd.set j none }] := by
  have lm := k.lm
  have m9 := k.m9
  refine callD_rtL (st' := [A, B, CD { c with hd := c.hd.set j none }]) rfl rfl ?_ (by cases c.hd[j] <;> rfl)
  show b_Crew_let_go [.val (.loc 2), .val (.int (j : Int)), .un] [A, B, CD c] = _
  unfold b_Crew_let_go
  have m1 : eMethU [("Crew", m_Crew_check_hand)] "check_hand" (eVar 0) (aCons (eVar 1) aNil) [.val (.loc 2), .val (.int (j : Int)), .un] [A, B, CD c] = m_Crew_check_hand [.loc 2, .int (j : Int)] [A, B, CD c] := by kernel_rfl
  rw [seq_nx (v_drop (m1.trans (check_hand_ok ⟨by omega, by omega⟩)))]
  rw [seq_nx (v_asg ((v_e2 (ec "held" rfl ac_hd) (y := .int (j : Int)) (st2 := [A, B, CD c]) rfl).trans (ix_held j hj _)))]
  show sSeq _ _ [.val (.loc 2), .val (.int (j : Int)), .val (optD c.hd[j])] _ = _
  rw [seq_nx (sc_hd (x := c.hd.set j none) rfl (held_set j hj (by omega) rfl rfl rfl))]
  rfl
end
end Lw
namespace Lw
open Gh L2 PyProof.Rows PySem.Spec PySem
/-! give, take, finish, fall -/
def tkOf (l : List (Str × Int)) (x : Str) : Int := match l.find? fun p => decide (p.1 = x) with
  | some p => p.2
  | none => 0
def tkPut (l : List (Str × Int)) (x : Str) (i : Int) : List (Str × Int) := l.map fun p => if p.1 = x then (p.1, i) else p
section
variable {A B : D} {c : C} {ρ : REnv} {h : Int} {x : Str} {t : Nat}
theorem Ck.tkv (k : Ck c t) (hx : x ∈ c.tk.map (·.1)) : valD (upD c.tk) (.inr x) = some (.int (tkOf c.tk x)) := by
  obtain ⟨p, hp, rfl⟩ := List.mem_map.mp hx
  have e : (c.tk.find? fun q => decide (q.1 = p.1)) = some p := by
    cases q : c.tk.find? fun q => decide (q.1 = p.1) with
    | none => exact absurd (List.find?_eq_none.mp q p hp) (by simp)
    | some r => rw [nodup_inj k.nt (List.mem_of_find?_eq_some q) hp (by simpa using List.find?_some q)]
  unfold tkOf
  rw [e]
  exact val_of (α := Str × Int) (fun p => p.1) (fun p => D.int p.2) k.nt hp
theorem tk_put (hx : x ∈ c.tk.map (·.1)) (i : Int) : putD (upD c.tk) (.inr x) (.int i) = upD (tkPut c.tk x i) := by
  rw [putD_old (by rw [keysUp]; simpa using hx)]
  unfold upD tkPut
  rw [List.map_map, List.map_map]
  refine List.map_congr_left fun p _ => ?_
  show (if (upE p).1 = Sum.inr x then ((upE p).1, D.int i) else upE p) = upE (if p.1 = x then (p.1, i) else p)
  by_cases e : p.1 = x
  · rw [if_pos e, if_pos (show (upE p).1 = Sum.inr x by rw [← e]; rfl)]
    rfl
  · rw [if_neg e, if_neg (show ¬ (upE p).1 = Sum.inr x from fun z => e (Sum.inr.inj z))]
theorem keys_tkPut (l : List (Str × Int)) (x : Str) (i : Int) : (tkPut l x i).map (·.1) = l.map (·.1) := by
  unfold tkPut
  rw [List.map_map]
  refine List.map_congr_left fun p _ => ?_
  simp only [Function.comp]
  split <;> rfl
theorem Ck.merge (k : Ck c t) : mergeD [] (upD c.tk) = upD c.tk := mergeD_id (by
  rw [keysUp]
  have := k.nt
  rw [List.nodup_iff_pairwise_ne] at this ⊢
  rw [List.pairwise_map]
  exact this.imp fun {a b} n e => n (Sum.inr.inj e))
theorem flS (l : List Str) : flatL (l.map D.str) = true := flatL_map _ l fun _ => rfl
theorem strL_app (l : List Str) (x : Str) : strL l ++ [D.str x] = strL (l ++ [x]) := by
  show l.map D.str ++ [D.str x] = (l ++ [x]).map D.str
  rw [List.map_append]
  rfl
def given (c : C) (x : Str) : C := { c with tk := c.tk ++ [(x, 0)], wt := c.wt ++ [x] }
theorem give_ok (k : Ck c t) (ht : t < 900) (hj : ∀ st, m_is_name [.str x] st = .ok (.bl true) st) (hx : x ∉ c.tk.map (·.1)) : ∃ d, isLoc d = false ∧ m_Crew_give [.loc 2, .str x] [A, B, CD c] = .ok d [A, B, CD (given c x)] := by
  refine ⟨.int (((strL (c.wt ++ [x])).length : Nat) : Int), rfl, ?_⟩
  refine callD_rtL (st' := [A, B, CD (given c x)]) rfl rfl ?_ rfl
  show b_Crew_give [.val (.loc 2), .val (.str x)] [A, B, CD c] = _
  unfold b_Crew_give
  have i1 : gIn (.str x) (.dct (upD c.tk)) [A, B, CD c] = .ok (.bl false) [A, B, CD c] := by
    rw [in_dct (r_keyS x), show (valD (upD c.tk) (.inr x)).isSome = decide (x ∈ c.tk.map (·.1)) from in_of (α := Str × Int) (fun p => p.1) (fun p => D.int p.2), decide_eq_false hx]
  rw [seq_nx (ρ' := [.val (.loc 2), .val (.str x)]) (st' := [A, B, CD c]) (by
    rw [v_ifF (st1 := [A, B, CD c])]
    · rfl
    rw [v_orF (st1 := [A, B, CD c]) (by rw [r_tNot, r_tTr, v_call (ds := [.str x]) (f := m_is_name) (st1 := [A, B, CD c]) rfl, hj]; rfl)]
    exact v_tB ((v_e2 (x := .str x) (st1 := [A, B, CD c]) rfl (ec "taken" rfl ac_tk)).trans i1))]
  have l1 := k.lt
  have l2 := k.lw
  rw [seq_nx (sc_tk (x := c.tk ++ [(x, 0)]) rfl (by
    have hl : (upD c.tk).length < 1000000 := by rw [upD, List.length_map]; omega
    have e : putD (mergeD [] (upD c.tk)) (.inr x) (.int 0) = upD (c.tk ++ [(x, 0)]) := by
      rw [k.merge, putD_new]
      · unfold upD; rw [List.map_append]; rfl
      · rw [keysUp]; simpa using hx
    rw [r_dstar, ec "taken" rfl ac_tk]
    simp [hl, isLoc, e]))]
  rw [seq_nx (sc_wt (c := { c with tk := c.tk ++ [(x, 0)] }) (x := c.wt ++ [x]) rfl (by
    rw [r_tup, r_star, ec (c := { c with tk := c.tk ++ [(x, 0)] }) "waiting" rfl ac_wt]
    simp only [RC.bind_ok, r_starT, r_aCons, r_aNil]
    show (if flatL (strL c.wt ++ [D.str x]) = true ∧ (strL c.wt ++ [D.str x]).length ≤ 1000 then RC.ok (D.tup (strL c.wt ++ [D.str x])) [A, B, CD { c with tk := c.tk ++ [(x, 0)] }] else .bad) = _
    rw [if_pos ⟨by rw [flatL_app, flS]; rfl, by rw [List.length_append, List.length_map]; simp; omega⟩, strL_app]))]
  exact v_ret ((v_eN1 (ec (c := given c x) "waiting" rfl ac_wt)).trans rfl)
/-- (*l, x) -/
theorem app_ok {f : Str} {l : List Str} {mx : EDen} (h0 : ρ[0]? = some (.val (.loc 2))) (hf : eAttC f ["Crew"] (.loc 2) [A, B, CD c] = .ok (.tup (strL l)) [A, B, CD c]) (hl : l.length ≤ 900) (hx : mx ρ [A, B, CD c] = .ok (.str x) [A, B, CD c]) :
    eTup (aStar (Gh.e1 (eAttC f ["Crew"]) (eVar 0)) (aCons mx aNil)) ρ [A, B, CD c] = .ok (.tup (strL (l ++ [x]))) [A, B, CD c] := by
  rw [r_tup, r_star, ec f h0 hf]
  simp only [RC.bind_ok, r_starT, r_aCons, r_aNil, hx]
  show (if flatL (strL l ++ [D.str x]) = true ∧ (strL l ++ [D.str x]).length ≤ 1000 then RC.ok (D.tup (strL l ++ [D.str x])) [A, B, CD c] else .bad) = _
  rw [if_pos ⟨by rw [flatL_app, flS]; rfl, by rw [List.length_append, List.length_map]; simp; omega⟩, strL_app]
/-- (x, *l) -/
theorem front_ok {f : Str} {l : List Str} {mx : EDen} (h0 : ρ[0]? = some (.val (.loc 2))) (hf : eAttC f ["Crew"] (.loc 2) [A, B, CD c] = .ok (.tup (strL l)) [A, B, CD c]) (hl : l.length ≤ 900) (hx : mx ρ [A, B, CD c] = .ok (.str x) [A, B, CD c]) :
    eTup (aCons mx (aStar (Gh.e1 (eAttC f ["Crew"]) (eVar 0)) aNil)) ρ [A, B, CD c] = .ok (.tup (strL (x :: l))) [A, B, CD c] := by
  rw [r_tup, r_aCons, hx]
  simp only [RC.bind_ok, r_star, ec f h0 hf, r_starT, r_aNil]
  show (if flatL (D.str x :: (strL l ++ [])) = true ∧ (D.str x :: (strL l ++ [])).length ≤ 1000 then RC.ok (D.tup (D.str x :: (strL l ++ []))) [A, B, CD c] else .bad) = _
  rw [List.append_nil, if_pos ⟨by
    have := flS l
    unfold flatL at this ⊢
    rw [List.all_cons, this]
    rfl, by rw [List.length_cons, List.length_map]; omega⟩]
  rfl
def finished (c : C) (j : Nat) (x : Str) : C := { c with hd := c.hd.set j none, dn := c.dn ++ [x] }
theorem finish_ok (k : Ck c t) (ht : t < 900) (j : Nat) (hj : j < c.hd.length) (hx : c.hd[j] = some x) : ∃ d, isLoc d = false ∧ m_Crew_finish [.loc 2, .int (j : Int)] [A, B, CD c] = .ok d [A, B, CD (finished c j x)] := by
  refine ⟨.str x, rfl, ?_⟩
  refine callD_rtL (st' := [A, B, CD (finished c j x)]) rfl rfl ?_ rfl
  show b_Crew_finish [.val (.loc 2), .val (.int (j : Int)), .un] [A, B, CD c] = _
  unfold b_Crew_finish
  have m1 : eMethU [("Crew", m_Crew_let_go)] "let_go" (eVar 0) (aCons (eVar 1) aNil) [.val (.loc 2), .val (.int (j : Int)), .un] [A, B, CD c] = m_Crew_let_go [.loc 2, .int (j : Int)] [A, B, CD c] := by kernel_rfl
  rw [seq_nx (v_asg (m1.trans (let_go_ok k j hj))), hx]
  show sSeq _ _ [.val (.loc 2), .val (.int (j : Int)), .val (.str x)] _ = _
  rw [seq_nx (ρ' := [.val (.loc 2), .val (.int (j : Int)), .val (.str x)]) (st' := [A, B, CD { c with hd := c.hd.set j none }]) (by rw [v_ifF (st1 := [A, B, CD { c with hd := c.hd.set j none }]) rfl]; rfl)]
  have l1 := k.ld
  rw [seq_nx (sc_dn (c := { c with hd := c.hd.set j none }) (x := c.dn ++ [x]) rfl (app_ok rfl ac_dn (by show c.dn.length ≤ 900; omega) rfl))]
  rfl
def fallen (c : C) (j : Nat) (x : Str) : C := if tkOf c.tk x < c.most then { c with hd := c.hd.set j none, wt := x :: c.wt } else { c with hd := c.hd.set j none, as := c.as ++ [x] }
theorem fall_ok (k : Ck c t) (ht : t < 900) (j : Nat) (hj : j < c.hd.length) (hx : c.hd[j] = some x) : ∃ d, isLoc d = false ∧ m_Crew_fall [.loc 2, .int (j : Int)] [A, B, CD c] = .ok d [A, B, CD (fallen c j x)] := by
  refine ⟨.str x, rfl, ?_⟩
  refine callD_rtL (st' := [A, B, CD (fallen c j x)]) rfl rfl ?_ rfl
  show b_Crew_fall [.val (.loc 2), .val (.int (j : Int)), .un] [A, B, CD c] = _
  unfold b_Crew_fall
  have m1 : eMethU [("Crew", m_Crew_let_go)] "let_go" (eVar 0) (aCons (eVar 1) aNil) [.val (.loc 2), .val (.int (j : Int)), .un] [A, B, CD c] = m_Crew_let_go [.loc 2, .int (j : Int)] [A, B, CD c] := by kernel_rfl
  rw [seq_nx (v_asg (m1.trans (let_go_ok k j hj))), hx]
  show sSeq _ _ [.val (.loc 2), .val (.int (j : Int)), .val (.str x)] _ = _
  have mem : x ∈ c.tk.map (·.1) := k.hk x (by rw [← hx]; exact List.getElem_mem hj)
  have g : tB (e2 gLt (e2 gIx (Gh.e1 (eAttC "taken" ["Crew"]) (eVar 0)) (ePeek 2)) (Gh.e1 (eAttC "most" ["Crew"]) (eVar 0))) [.val (.loc 2), .val (.int (j : Int)), .val (.str x)] [A, B, CD { c with hd := c.hd.set j none }] = .ok (decide (tkOf c.tk x < c.most)) [A, B, CD { c with hd := c.hd.set j none }] := by
    have v : gIx (.dct (upD c.tk)) (.str x) [A, B, CD { c with hd := c.hd.set j none }] = .ok (.int (tkOf c.tk x)) [A, B, CD { c with hd := c.hd.set j none }] := by simp [gIx, k.tkv mem]
    exact v_tB ((v_e2 ((v_e2 (ec (c := { c with hd := c.hd.set j none }) "taken" rfl ac_tk) (y := .str x) (st2 := [A, B, CD { c with hd := c.hd.set j none }]) rfl).trans v) (ec (c := { c with hd := c.hd.set j none }) "most" rfl ac_most)).trans rfl)
  have l1 := k.lw
  have l2 := k.la
  by_cases q : tkOf c.tk x < c.most
  · rw [seq_nx (ρ' := [.val (.loc 2), .val (.int (j : Int)), .val (.str x)]) (st' := [A, B, CD (fallen c j x)]) (by
      rw [v_ifT ((v_andT (st1 := [A, B, CD { c with hd := c.hd.set j none }]) rfl).trans (g.trans (by rw [decide_eq_true q])))]
      rw [show fallen c j x = { c with hd := c.hd.set j none, wt := x :: c.wt } by unfold fallen; rw [if_pos q]]
      exact sc_wt (c := { c with hd := c.hd.set j none }) (x := x :: c.wt) rfl (front_ok rfl ac_wt (by show c.wt.length ≤ 900; omega) rfl))]
    rfl
  · rw [seq_nx (ρ' := [.val (.loc 2), .val (.int (j : Int)), .val (.str x)]) (st' := [A, B, CD (fallen c j x)]) (by
      rw [v_ifF ((v_andT (st1 := [A, B, CD { c with hd := c.hd.set j none }]) rfl).trans (g.trans (by rw [decide_eq_false q]))), v_ifT (st1 := [A, B, CD { c with hd := c.hd.set j none }]) rfl]
      rw [show fallen c j x = { c with hd := c.hd.set j none, as := c.as ++ [x] } by unfold fallen; rw [if_neg q]]
      exact sc_as (c := { c with hd := c.hd.set j none }) (x := c.as ++ [x]) rfl (app_ok rfl ac_as (by show c.as.length ≤ 900; omega) rfl))]
    rfl
theorem set_same (j : Nat) (hj : j < c.hd.length) (hx : c.hd[j] = none) : c.hd.set j none = c.hd := by
  rw [← hx]
  exact List.set_getElem_self hj
theorem fall_no (k : Ck c t) (j : Nat) (hj : j < c.hd.length) (hx : c.hd[j] = none) : m_Crew_fall [.loc 2, .int (j : Int)] [A, B, CD c] = .ok .non [A, B, CD c] := by
  refine callD_rt0 rfl ?_ rfl
  show b_Crew_fall [.val (.loc 2), .val (.int (j : Int)), .un] [A, B, CD c] = _
  unfold b_Crew_fall
  have m1 : eMethU [("Crew", m_Crew_let_go)] "let_go" (eVar 0) (aCons (eVar 1) aNil) [.val (.loc 2), .val (.int (j : Int)), .un] [A, B, CD c] = m_Crew_let_go [.loc 2, .int (j : Int)] [A, B, CD c] := by kernel_rfl
  rw [seq_nx (v_asg (m1.trans (let_go_ok k j hj))), hx, set_same j hj hx]
  show sSeq _ _ [.val (.loc 2), .val (.int (j : Int)), .val .non] _ = _
  rw [seq_nx (ρ' := [.val (.loc 2), .val (.int (j : Int)), .val .non]) (st' := [A, B, CD c]) (by
    rw [v_ifF (st1 := [A, B, CD c]) (v_andF rfl), v_ifF (st1 := [A, B, CD c]) rfl]
    rfl)]
  rfl
end
end Lw
namespace Lw
open Gh L2 PyProof.Rows PySem.Spec PySem
section
variable {A B : D} {c : C} {ρ : REnv} {h : Int} {x : Str} {t : Nat}
theorem strs_eq (l : List Str) (h : ∀ z ∈ l, ∀ k, okD k (.str z) = true) (st : Store) : gEq (.tup (strL l)) (.tup []) st = .ok (.bl l.isEmpty) st := by
  have k1 : okD 20 (.tup (strL l)) = true := by
    show ((l.map D.str).all (okD 19)) = true
    rw [List.all_map]
    exact List.all_eq_true.mpr fun z hz => h z hz 19
  unfold gEq eqD
  show (match (if okD 20 (.tup (strL l)) = true ∧ okD 20 (.tup []) = true then some (D.eqv (.tup (strL l)) (.tup [])) else none) with | some b => RC.ok (D.bl b) st | none => .bad) = _
  rw [if_pos ⟨k1, rfl⟩]
  cases l <;> simp [D.eqv, eqvL]
def takenC (c : C) (j : Nat) (x : Str) (r : List Str) : C := { c with wt := r, hd := c.hd.set j (some x), tk := tkPut c.tk x (tkOf c.tk x + 1) }
theorem ctake_no (k : Ck c t) (j : Nat) (hj : j < c.hd.length) (hx : c.hd[j] = none) (hw : c.wt = []) : m_Crew_take [.loc 2, .int (j : Int)] [A, B, CD c] = .ok .non [A, B, CD c] := by
  have lm := k.lm
  refine callD_rt0 rfl ?_ rfl
  show b_Crew_take [.val (.loc 2), .val (.int (j : Int)), .un] [A, B, CD c] = _
  unfold b_Crew_take
  have m1 : eMethU [("Crew", m_Crew_check_hand)] "check_hand" (eVar 0) (aCons (eVar 1) aNil) [.val (.loc 2), .val (.int (j : Int)), .un] [A, B, CD c] = m_Crew_check_hand [.loc 2, .int (j : Int)] [A, B, CD c] := by kernel_rfl
  rw [seq_nx (v_drop (m1.trans (check_hand_ok ⟨by omega, by omega⟩)))]
  have i1 := (v_e2 (ec (A := A) (B := B) (c := c) (ρ := [.val (.loc 2), .val (.int (j : Int)), .un]) "held" rfl ac_hd) (mb := ePeek 1) (y := .int (j : Int)) (st2 := [A, B, CD c]) rfl).trans (ix_held j hj _)
  rw [hx] at i1
  rw [seq_nx (ρ' := [.val (.loc 2), .val (.int (j : Int)), .un]) (st' := [A, B, CD c]) (by
    rw [v_ifF (v_tB ((v_e2 i1 rfl).trans rfl))]
    rfl)]
  have w1 := (v_e2 (ec (A := A) (B := B) (c := c) (ρ := [.val (.loc 2), .val (.int (j : Int)), .un]) "waiting" rfl ac_wt) (mb := eTup aNil) (y := .tup []) (st2 := [A, B, CD c]) rfl).trans (strs_eq c.wt (by rw [hw]; simp) _)
  rw [hw] at w1
  have s1 : sIf (tB (e2 gEq (Gh.e1 (eAttC "waiting" ["Crew"]) (eVar 0)) (eTup aNil))) (sRet (eC .non)) sNil [.val (.loc 2), .val (.int (j : Int)), .un] [A, B, CD c] = .rt .non [A, B, CD c] := by
    rw [v_ifT (v_tB w1)]
    rfl
  rw [r_seq, s1]
theorem ctake_ok (k : Ck c t) (ht : t < 900) (j : Nat) (hj : j < c.hd.length) (hx : c.hd[j] = none) {r : List Str} (hw : c.wt = x :: r) (ho : ∀ z ∈ c.wt, ∀ k, okD k (.str z) = true) : m_Crew_take [.loc 2, .int (j : Int)] [A, B, CD c] = .ok (.str x) [A, B, CD (takenC c j x r)] := by
  have lm := k.lm
  have m9 := k.m9
  refine callD_rtL (st' := [A, B, CD (takenC c j x r)]) rfl rfl ?_ rfl
  show b_Crew_take [.val (.loc 2), .val (.int (j : Int)), .un] [A, B, CD c] = _
  unfold b_Crew_take
  have m1 : eMethU [("Crew", m_Crew_check_hand)] "check_hand" (eVar 0) (aCons (eVar 1) aNil) [.val (.loc 2), .val (.int (j : Int)), .un] [A, B, CD c] = m_Crew_check_hand [.loc 2, .int (j : Int)] [A, B, CD c] := by kernel_rfl
  rw [seq_nx (v_drop (m1.trans (check_hand_ok ⟨by omega, by omega⟩)))]
  have i1 := (v_e2 (ec (A := A) (B := B) (c := c) (ρ := [.val (.loc 2), .val (.int (j : Int)), .un]) "held" rfl ac_hd) (mb := ePeek 1) (y := .int (j : Int)) (st2 := [A, B, CD c]) rfl).trans (ix_held j hj _)
  rw [hx] at i1
  rw [seq_nx (ρ' := [.val (.loc 2), .val (.int (j : Int)), .un]) (st' := [A, B, CD c]) (by
    rw [v_ifF (v_tB ((v_e2 i1 rfl).trans rfl))]
    rfl)]
  have w1 := (v_e2 (ec (A := A) (B := B) (c := c) (ρ := [.val (.loc 2), .val (.int (j : Int)), .un]) "waiting" rfl ac_wt) (mb := eTup aNil) (y := .tup []) (st2 := [A, B, CD c]) rfl).trans (strs_eq c.wt ho _)
  rw [hw] at w1
  rw [seq_nx (ρ' := [.val (.loc 2), .val (.int (j : Int)), .un]) (st' := [A, B, CD c]) (by
    rw [v_ifF (v_tB w1)]
    rfl)]
  have mem : x ∈ c.tk.map (·.1) := k.wk x (by rw [hw]; exact List.mem_cons_self)
  have g0 : gIx (.tup (strL c.wt)) (.int 0) [A, B, CD c] = .ok (.str x) [A, B, CD c] := by
    rw [hw]
    simp [gIx, itemsOf, atI, L2.ixN]
  rw [seq_nx (v_asg ((v_e2 (ec "waiting" rfl ac_wt) (y := .int 0) (st2 := [A, B, CD c]) rfl).trans g0))]
  show sSeq _ _ [.val (.loc 2), .val (.int (j : Int)), .val (.str x)] _ = _
  rw [seq_nx (sc_wt (x := r) rfl (by
    rw [r_cut, ec "waiting" rfl ac_wt]
    show RC.ok (D.tup (Gh.cutD (strL c.wt) (some ((1 : Nat) : Int)) none)) _ = _
    rw [cut_from' _ _ (by rw [hw]; simp), hw]
    rfl))]
  rw [seq_nx (sc_hd (c := { c with wt := r }) (x := c.hd.set j (some x)) rfl (held_set (c := { c with wt := r }) j hj (by show c.hd.length ≤ 9; omega) rfl rfl rfl))]
  have v : ∀ st : Store, gIx (.dct (upD c.tk)) (.str x) st = .ok (.int (tkOf c.tk x)) st := fun st => by simp [gIx, k.tkv mem]
  have l1 := k.lt
  have hl : (upD c.tk).length < 1000000 := by rw [upD, List.length_map]; omega
  rw [seq_nx (sc_tk (c := { c with wt := r, hd := c.hd.set j (some x) }) (x := tkPut c.tk x (tkOf c.tk x + 1)) rfl (by
    have a := ec (A := A) (B := B) (c := { c with wt := r, hd := c.hd.set j (some x) }) (ρ := [.val (.loc 2), .val (.int (j : Int)), .val (.str x)]) "taken" rfl ac_tk
    rw [r_dstar, a]
    simp only [RC.bind_ok, r_var, r_e2, a, r_peek]
    have b := ac_tk (A := A) (B := B) (c := { c with wt := r, hd := c.hd.set j (some x) })
    simp [b, v, hl, isLoc, k.merge, tk_put mem]))]
  rfl
end
end Lw
namespace Lw
open Gh L2 PyProof.Rows PySem.Spec PySem
abbrev jobs : List Str := ["j0", "j1", "j2", "j3", "j4", "j5"]
theorem job_cases {x : Str} (h : x ∈ jobs) : x = "j0" ∨ x = "j1" ∨ x = "j2" ∨ x = "j3" ∨ x = "j4" ∨ x = "j5" := by simpa using h
theorem job_name {x : Str} (h : x ∈ jobs) (st : Store) : m_is_name [.str x] st = .ok (.bl true) st := by
  rcases job_cases h with rfl | rfl | rfl | rfl | rfl | rfl <;> exact callD_rt0 rfl (by kernel_rfl) rfl
theorem job_ok {x : Str} (h : x ∈ jobs) (k : Nat) : okD k (.str x) = true := by
  rcases job_cases h with rfl | rfl | rfl | rfl | rfl | rfl <;> cases k <;> kernel_rfl
inductive Dd where
  | give (x : Str)
  | take (j : Nat)
  | fin (j : Nat)
  | fall (j : Nat)
def Dd.word : Dd → Str
  | .give _ => "give"
  | .take _ => "take"
  | .fin _ => "finish"
  | .fall _ => "fall"
def Dd.thing : Dd → D
  | .give x => .str x
  | .take j => .int (j : Int)
  | .fin j => .int (j : Int)
  | .fall j => .int (j : Int)
def Dd.d (e : Dd) : D := .tup [.str e.word, e.thing]
def step (c : C) : Dd → C
  | .give x => given c x
  | .take j => (match c.wt with
    | [] => c
    | x :: r => takenC c j x r)
  | .fin j => (match c.hd[j]? with
    | some (some x) => finished c j x
    | _ => c)
  | .fall j => (match c.hd[j]? with
    | some (some x) => fallen c j x
    | _ => c)
def can (c : C) : Dd → Prop
  | .give x => x ∈ jobs ∧ x ∉ c.tk.map (·.1)
  | .take j => c.hd[j]? = some none
  | .fin j => ∃ x, c.hd[j]? = some (some x)
  | .fall j => j < c.hd.length
theorem step_fin {c : C} {j : Nat} {x : Str} (hx : c.hd[j]? = some (some x)) : step c (.fin j) = finished c j x := by
  show (match c.hd[j]? with
    | some (some x) => finished c j x
    | _ => c) = _
  rw [hx]
theorem step_fall {c : C} {j : Nat} {x : Str} (hx : c.hd[j]? = some (some x)) : step c (.fall j) = fallen c j x := by
  show (match c.hd[j]? with
    | some (some x) => fallen c j x
    | _ => c) = _
  rw [hx]
theorem step_fall0 {c : C} {j : Nat} (hx : c.hd[j]? = some none) : step c (.fall j) = c := by
  show (match c.hd[j]? with
    | some (some x) => fallen c j x
    | _ => c) = _
  rw [hx]
theorem step_take {c : C} {j : Nat} {x : Str} {r : List Str} (hw : c.wt = x :: r) : step c (.take j) = takenC c j x r := by
  show (match c.wt with
    | [] => c
    | x :: r => takenC c j x r) = _
  rw [hw]
theorem step_take0 {c : C} {j : Nat} (hw : c.wt = []) : step c (.take j) = c := by
  show (match c.wt with
    | [] => c
    | x :: r => takenC c j x r) = _
  rw [hw]
section
variable {A B : D} {c : C} {ρ : REnv} {h : Int} {x : Str} {t : Nat}
theorem do_ok (k : Ck c t) (ht : t < 900) (hj : ∀ z ∈ c.tk.map (·.1), z ∈ jobs) (e : Dd) (hc : can c e) : ∃ d, isLoc d = false ∧ m_do [.loc 2, .str e.word, e.thing] [A, B, CD c] = .ok d [A, B, CD (step c e)] := by
  have go : ∀ {d : D}, isLoc d = false → b_do [.val (.loc 2), .val (.str e.word), .val e.thing] [A, B, CD c] = .rt d [A, B, CD (step c e)] → m_do [.loc 2, .str e.word, e.thing] [A, B, CD c] = .ok d [A, B, CD (step c e)] := fun {d} hd q => callD_rtL (st' := [A, B, CD (step c e)]) rfl rfl q hd
  cases e with
  | give x =>
    obtain ⟨d, hd, q⟩ := give_ok (A := A) (B := B) k ht (job_name hc.1) hc.2
    have m1 : eMethU [("Crew", m_Crew_give)] "give" (eVar 0) (aCons (eVar 2) aNil) [.val (.loc 2), .val (.str "give"), .val (.str x)] [A, B, CD c] = m_Crew_give [.loc 2, .str x] [A, B, CD c] := by kernel_rfl
    refine ⟨d, hd, go hd ?_⟩
    show b_do [.val (.loc 2), .val (.str "give"), .val (.str x)] [A, B, CD c] = _
    unfold b_do
    rw [r_seq, v_ifT (st1 := [A, B, CD c]) rfl, v_ret (m1.trans q)]
    rfl
  | take j =>
    have hj1 : j < c.hd.length := (List.getElem?_eq_some_iff.mp hc).1
    have hx : c.hd[j] = none := (List.getElem?_eq_some_iff.mp hc).2
    have q : ∃ d, isLoc d = false ∧ m_Crew_take [.loc 2, .int (j : Int)] [A, B, CD c] = .ok d [A, B, CD (step c (.take j))] := by
      cases hw : c.wt with
      | nil =>
        refine ⟨.non, rfl, ?_⟩
        rw [step_take0 hw]
        exact ctake_no k j hj1 hx hw
      | cons x r =>
        refine ⟨.str x, rfl, ?_⟩
        rw [step_take hw]
        exact ctake_ok k ht j hj1 hx hw fun z hz n => job_ok (hj z (k.wk z hz)) n
    obtain ⟨d, hd, q⟩ := q
    have m1 : eMethU [("Crew", m_Crew_take)] "take" (eVar 0) (aCons (eVar 2) aNil) [.val (.loc 2), .val (.str "take"), .val (.int (j : Int))] [A, B, CD c] = m_Crew_take [.loc 2, .int (j : Int)] [A, B, CD c] := by kernel_rfl
    refine ⟨d, hd, go hd ?_⟩
    show b_do [.val (.loc 2), .val (.str "take"), .val (.int (j : Int))] [A, B, CD c] = _
    unfold b_do
    rw [seq_nx (ρ' := [.val (.loc 2), .val (.str "take"), .val (.int (j : Int))]) (st' := [A, B, CD c]) (by rw [v_ifF (st1 := [A, B, CD c]) rfl]; rfl)]
    rw [r_seq, v_ifT (st1 := [A, B, CD c]) rfl, v_ret (m1.trans q)]
  | fin j =>
    obtain ⟨x, hx⟩ := hc
    have hj1 : j < c.hd.length := (List.getElem?_eq_some_iff.mp hx).1
    have hx2 : c.hd[j] = some x := (List.getElem?_eq_some_iff.mp hx).2
    obtain ⟨d, hd, q⟩ := finish_ok (A := A) (B := B) k ht j hj1 hx2
    have m1 : eMethU [("Crew", m_Crew_finish)] "finish" (eVar 0) (aCons (eVar 2) aNil) [.val (.loc 2), .val (.str "finish"), .val (.int (j : Int))] [A, B, CD c] = m_Crew_finish [.loc 2, .int (j : Int)] [A, B, CD c] := by kernel_rfl
    refine ⟨d, hd, go hd ?_⟩
    rw [step_fin hx]
    show b_do [.val (.loc 2), .val (.str "finish"), .val (.int (j : Int))] [A, B, CD c] = _
    unfold b_do
    rw [seq_nx (ρ' := [.val (.loc 2), .val (.str "finish"), .val (.int (j : Int))]) (st' := [A, B, CD c]) (by rw [v_ifF (st1 := [A, B, CD c]) rfl]; rfl)]
    rw [seq_nx (ρ' := [.val (.loc 2), .val (.str "finish"), .val (.int (j : Int))]) (st' := [A, B, CD c]) (by rw [v_ifF (st1 := [A, B, CD c]) rfl]; rfl)]
    exact v_ret (by rw [r_eIf, v_tB (b := true) (st1 := [A, B, CD c]) rfl]; exact m1.trans q)
  | fall j =>
    have hj1 : j < c.hd.length := hc
    have q : ∃ d, isLoc d = false ∧ m_Crew_fall [.loc 2, .int (j : Int)] [A, B, CD c] = .ok d [A, B, CD (step c (.fall j))] := by
      have e0 : c.hd[j]? = some c.hd[j] := List.getElem?_eq_getElem hj1
      cases hx : c.hd[j] with
      | none =>
        refine ⟨.non, rfl, ?_⟩
        rw [step_fall0 (by rw [e0, hx])]
        exact fall_no k j hj1 hx
      | some x =>
        rw [step_fall (by rw [e0, hx])]
        exact fall_ok k ht j hj1 hx
    obtain ⟨d, hd, q⟩ := q
    have m1 : eMethU [("Crew", m_Crew_fall)] "fall" (eVar 0) (aCons (eVar 2) aNil) [.val (.loc 2), .val (.str "fall"), .val (.int (j : Int))] [A, B, CD c] = m_Crew_fall [.loc 2, .int (j : Int)] [A, B, CD c] := by kernel_rfl
    refine ⟨d, hd, go hd ?_⟩
    show b_do [.val (.loc 2), .val (.str "fall"), .val (.int (j : Int))] [A, B, CD c] = _
    unfold b_do
    rw [seq_nx (ρ' := [.val (.loc 2), .val (.str "fall"), .val (.int (j : Int))]) (st' := [A, B, CD c]) (by rw [v_ifF (st1 := [A, B, CD c]) rfl]; rfl)]
    rw [seq_nx (ρ' := [.val (.loc 2), .val (.str "fall"), .val (.int (j : Int))]) (st' := [A, B, CD c]) (by rw [v_ifF (st1 := [A, B, CD c]) rfl]; rfl)]
    exact v_ret (by rw [r_eIf, v_tB (b := false) (st1 := [A, B, CD c]) rfl]; exact m1.trans q)
end
end Lw
namespace Lw
open Gh L2 PyProof.Rows PySem.Spec PySem
section
variable {c : C} {x : Str} {t : Nat}
theorem Ck.up1 (k : Ck c t) : Ck c (t + 1) := ⟨k.lm, k.m9, Nat.le_succ_of_le k.lw, Nat.le_succ_of_le k.ld, Nat.le_succ_of_le k.la, Nat.le_succ_of_le k.lt, k.nt, k.wk, k.hk⟩
theorem mem_set {l : List (Option Str)} {j : Nat} {v : Option Str} {z : Option Str} (h : z ∈ l.set j v) : z ∈ l ∨ z = v := by
  rcases List.mem_or_eq_of_mem_set h with h | h
  · exact .inl h
  · exact .inr h
theorem Ck.step (k : Ck c t) (hj : ∀ z ∈ c.tk.map (·.1), z ∈ jobs) (e : Dd) (hc : can c e) : Ck (step c e) (t + 1) ∧ (∀ z ∈ (step c e).tk.map (·.1), z ∈ jobs) ∧ (step c e).many = c.many ∧ (step c e).most = c.most := by
  cases e with
  | give x =>
    refine ⟨⟨k.lm, k.m9, ?_, Nat.le_succ_of_le k.ld, Nat.le_succ_of_le k.la, ?_, ?_, fun z hz => ?_, fun z hz => ?_⟩, fun z hz => ?_, rfl, rfl⟩
    · show (c.wt ++ [x]).length ≤ t + 1
      rw [List.length_append]
      have := k.lw
      simp; omega
    · show (c.tk ++ [(x, 0)]).length ≤ t + 1
      rw [List.length_append]
      have := k.lt
      simp; omega
    · show ((c.tk ++ [(x, 0)]).map fun p : Str × Int => p.1).Nodup
      rw [List.map_append, List.nodup_append]
      refine ⟨k.nt, by simp, fun a ha b hb e => ?_⟩
      have hb : b = x := by simpa using hb
      exact hc.2 (by rw [← hb, ← e]; exact ha)
    · show z ∈ (c.tk ++ [(x, 0)]).map fun p : Str × Int => p.1
      rw [List.map_append]
      rcases List.mem_append.mp hz with hz | hz
      · exact List.mem_append_left _ (k.wk z hz)
      · exact List.mem_append_right _ (by simpa using hz)
    · show z ∈ (c.tk ++ [(x, 0)]).map fun p : Str × Int => p.1
      rw [List.map_append]
      exact List.mem_append_left _ (k.hk z hz)
    · have hz : z ∈ ((c.tk ++ [(x, 0)]).map fun p : Str × Int => p.1) := hz
      rw [List.map_append] at hz
      rcases List.mem_append.mp hz with hz | hz
      · exact hj z hz
      · have hz : z = x := by simpa using hz
        rw [hz]; exact hc.1
  | take j =>
    cases hw : c.wt with
    | nil =>
      rw [step_take0 hw]
      exact ⟨k.up1, hj, rfl, rfl⟩
    | cons x r =>
      rw [step_take hw]
      have ke := keys_tkPut c.tk x (tkOf c.tk x + 1)
      refine ⟨⟨?_, k.m9, ?_, Nat.le_succ_of_le k.ld, Nat.le_succ_of_le k.la, ?_, ?_, fun z hz => ?_, fun z hz => ?_⟩, fun z hz => ?_, rfl, rfl⟩
      · show (((c.hd.set j (some x)).length : Nat) : Int) = c.many
        rw [List.length_set]; exact k.lm
      · have := k.lw
        rw [hw, List.length_cons] at this
        show r.length ≤ t + 1
        omega
      · show (tkPut c.tk x _).length ≤ t + 1
        unfold tkPut
        rw [List.length_map]
        exact Nat.le_succ_of_le k.lt
      · show ((tkPut c.tk x _).map (·.1)).Nodup
        rw [ke]; exact k.nt
      · show z ∈ (tkPut c.tk x _).map (·.1)
        rw [ke]
        exact k.wk z (by rw [hw]; exact List.mem_cons_of_mem _ hz)
      · show z ∈ (tkPut c.tk x _).map (·.1)
        rw [ke]
        rcases mem_set hz with h | h
        · exact k.hk z h
        · cases h
          exact k.wk x (by rw [hw]; exact List.mem_cons_self)
      · have hz : z ∈ (tkPut c.tk x (tkOf c.tk x + 1)).map (·.1) := hz
        rw [ke] at hz
        exact hj z hz
  | fin j =>
    obtain ⟨x, hx⟩ := hc
    rw [step_fin hx]
    refine ⟨⟨?_, k.m9, Nat.le_succ_of_le k.lw, ?_, Nat.le_succ_of_le k.la, Nat.le_succ_of_le k.lt, k.nt, k.wk, fun z hz => ?_⟩, hj, rfl, rfl⟩
    · show (((c.hd.set j none).length : Nat) : Int) = c.many
      rw [List.length_set]; exact k.lm
    · show (c.dn ++ [x]).length ≤ t + 1
      rw [List.length_append]
      have := k.ld
      simp; omega
    · rcases mem_set hz with h | h
      · exact k.hk z h
      · cases h
  | fall j =>
    have e0 : c.hd[j]? = some c.hd[j] := List.getElem?_eq_getElem hc
    cases hx : c.hd[j] with
    | none =>
      rw [step_fall0 (by rw [e0, hx])]
      exact ⟨k.up1, hj, rfl, rfl⟩
    | some x =>
      rw [step_fall (by rw [e0, hx])]
      have mem : x ∈ c.tk.map (·.1) := k.hk x (by rw [← hx]; exact List.getElem_mem hc)
      have hl : (((c.hd.set j none).length : Nat) : Int) = c.many := by rw [List.length_set]; exact k.lm
      have hh : ∀ z, some z ∈ c.hd.set j none → z ∈ c.tk.map (·.1) := fun z hz => by
        rcases mem_set hz with h | h
        · exact k.hk z h
        · cases h
      unfold fallen
      split
      · refine ⟨⟨hl, k.m9, ?_, Nat.le_succ_of_le k.ld, Nat.le_succ_of_le k.la, Nat.le_succ_of_le k.lt, k.nt, fun z hz => ?_, hh⟩, hj, rfl, rfl⟩
        · show (x :: c.wt).length ≤ t + 1
          have := k.lw
          rw [List.length_cons]; omega
        · rcases List.mem_cons.mp hz with rfl | hz
          · exact mem
          · exact k.wk z hz
      · refine ⟨⟨hl, k.m9, Nat.le_succ_of_le k.lw, Nat.le_succ_of_le k.ld, ?_, Nat.le_succ_of_le k.lt, k.nt, k.wk, hh⟩, hj, rfl, rfl⟩
        show (c.as ++ [x]).length ≤ t + 1
        rw [List.length_append]
        have := k.la
        simp; omega
end
end Lw
namespace Lw
open Gh L2 PyProof.Rows PySem.Spec PySem
abbrev RE (a b d p w th : Sl) : REnv := [a, b, d, .val (.loc 2), p, w, th]
def runC (c : C) : List Dd → C
  | [] => c
  | e :: r => runC (step c e) r
def canAll (c : C) : List Dd → Prop
  | [] => True
  | e :: r => can c e ∧ canAll (step c e) r
section
variable {A B : D} {a b d : Sl}
theorem run_loop : ∀ (ps : List (Int × Dd)) (c : C) (t : Nat) (p w th : Sl), Ck c t → (∀ z ∈ c.tk.map (·.1), z ∈ jobs) → canAll c (ps.map (·.2)) → t + ps.length < 900 → ∃ (p' w' th' : Sl),
    forGo (bTup 2 (bCons (bName 4) (bCons (bTup 2 (bCons (bName 5) (bCons (bName 6) bNil))) bNil))) lb_run_crew_3 (ps.map fun q : Int × Dd => D.tup [.int q.1, q.2.d]) (RE a b d p w th) [A, B, CD c] = .nx (RE a b d p' w' th') [A, B, CD (runC c (ps.map (·.2)))]
  | [], c, t, p, w, th, k, hj, hc, ht => ⟨p, w, th, rfl⟩
  | q :: ps, c, t, p, w, th, k, hj, hc, ht => by
    simp only [List.length_cons] at ht
    obtain ⟨h1, h2⟩ := hc
    obtain ⟨k', hj', _, _⟩ := k.step hj q.2 h1
    obtain ⟨p', w', th', e⟩ := run_loop ps (step c q.2) (t + 1) (.val (.int q.1)) (.val (.str q.2.word)) (.val q.2.thing) k' hj' h2 (by omega)
    refine ⟨p', w', th', ?_⟩
    obtain ⟨dd, hd, e1⟩ := do_ok (A := A) (B := B) k (by omega) hj q.2 h1
    have body : lb_run_crew_3 (RE a b d (.val (.int q.1)) (.val (.str q.2.word)) (.val q.2.thing)) [A, B, CD c] = .nx (RE a b d (.val (.int q.1)) (.val (.str q.2.word)) (.val q.2.thing)) [A, B, CD (step c q.2)] := by
      unfold lb_run_crew_3 lb_run_crew_1
      rw [r_try, v_drop ((v_call (ds := [.loc 2, .str q.2.word, q.2.thing]) (st1 := [A, B, CD c]) rfl).trans e1)]
    rw [List.map_cons]
    unfold forGo
    show (match lb_run_crew_3 (RE a b d (.val (.int q.1)) (.val (.str q.2.word)) (.val q.2.thing)) [A, B, CD c] with
      | .nx ρ2 st2 => forGo _ lb_run_crew_3 (ps.map fun q : Int × Dd => D.tup [.int q.1, q.2.d]) ρ2 st2
      | .ct ρ2 st2 => forGo _ lb_run_crew_3 (ps.map fun q : Int × Dd => D.tup [.int q.1, q.2.d]) ρ2 st2
      | .bk ρ2 st2 => .nx ρ2 st2
      | r => r) = _
    rw [body]
    exact e
end
end Lw
namespace Lw
open Gh L2 PyProof.Rows PySem.Spec PySem
/-- a deed that may be told to a crew of that many -/
def fine (many : Int) : Dd → Prop
  | .give x => x ∈ jobs
  | .take j => (j : Int) < many
  | .fin j => (j : Int) < many
  | .fall j => (j : Int) < many
theorem deed_ok {many : Int} {dl pl : Sl} {e : Dd} (h : fine many e) (st : Store) : lb_check_deeds_0 [.val (.int many), dl, pl, .val e.d] st = .nx [.val (.int many), dl, pl, .val e.d] st := by
  unfold lb_check_deeds_0
  have w0 : tB (e2 gNotIn (e2 gIx (ePeek 3) (eC (.int 0))) (eTup (aCons (eC (.str "give")) (aCons (eC (.str "take")) (aCons (eC (.str "finish")) (aCons (eC (.str "fall")) aNil)))))) [.val (.int many), dl, pl, .val e.d] st = .ok false st := by
    cases e <;> kernel_rfl
  rw [seq_nx (ρ' := [.val (.int many), dl, pl, .val e.d]) (st' := st) (by
    rw [v_ifF (st1 := st)]
    · rfl
    rw [v_orF (st1 := st) (by rfl), v_orF (st1 := st) (by rfl)]
    exact w0)]
  rw [v_ifF (st1 := st)]
  · rfl
  have num : ∀ {j : Nat}, (j : Int) < many → ∀ {ρ : REnv}, ρ[0]? = some (.val (.int many)) → e2 gIx (ePeek 3) (eC (.int 1)) ρ st = .ok (.int (j : Int)) st → tTr (eCall m_is_number (aCons (e2 gIx (ePeek 3) (eC (.int 1))) (aCons (eC (.int 0)) (aCons (e2 gSub (ePeek 0) (eC (.int 1))) aNil)))) ρ st = .ok true st := fun {j} hj {ρ} h0 h1 => by
    have g : e2 gSub (ePeek 0) (eC (.int 1)) ρ st = .ok (.int (many - 1)) st := (v_e2 (by rw [r_peek, h0]) rfl).trans rfl
    rw [r_tTr, v_call (v_cons h1 (v_cons rfl (v_cons g (rfl : aNil _ _ = .ok [] _)))), number_in ⟨by omega, by omega⟩]
    rfl
  rw [r_tNot]
  cases e with
  | give x =>
    rw [r_tIf, show tB (e2 gEq (e2 gIx (ePeek 3) (eC (.int 0))) (eC (.str "give"))) [.val (.int many), dl, pl, .val (Dd.give x).d] st = .ok true st by kernel_rfl]
    simp only [RC.bind_ok, if_true]
    rw [r_tTr, v_call (ds := [.str x]) (f := m_is_name) (st1 := st) rfl, job_name h]
    rfl
  | take j =>
    rw [r_tIf, show tB (e2 gEq (e2 gIx (ePeek 3) (eC (.int 0))) (eC (.str "give"))) [.val (.int many), dl, pl, .val (Dd.take j).d] st = .ok false st by kernel_rfl]
    simp only [RC.bind_ok]
    rw [if_neg (by decide), num h rfl rfl]
    rfl
  | fin j =>
    rw [r_tIf, show tB (e2 gEq (e2 gIx (ePeek 3) (eC (.int 0))) (eC (.str "give"))) [.val (.int many), dl, pl, .val (Dd.fin j).d] st = .ok false st by kernel_rfl]
    simp only [RC.bind_ok]
    rw [if_neg (by decide), num h rfl rfl]
    rfl
  | fall j =>
    rw [r_tIf, show tB (e2 gEq (e2 gIx (ePeek 3) (eC (.int 0))) (eC (.str "give"))) [.val (.int many), dl, pl, .val (Dd.fall j).d] st = .ok false st by kernel_rfl]
    simp only [RC.bind_ok]
    rw [if_neg (by decide), num h rfl rfl]
    rfl
theorem deeds_ok {many : Int} {dl : Sl} (st : Store) : ∀ (ps : List (Int × Dd)) (a b : Sl), (∀ p ∈ ps, fine many p.2) → ∃ a' b', forGo (bTup 2 (bCons (bName 2) (bCons (bName 3) bNil))) lb_check_deeds_0 (ps.map fun q : Int × Dd => D.tup [.int q.1, q.2.d]) [.val (.int many), dl, a, b] st = .nx [.val (.int many), dl, a', b'] st
  | [], a, b, _ => ⟨a, b, rfl⟩
  | q :: ps, a, b, h => by
    obtain ⟨a', b', e⟩ := deeds_ok (many := many) (dl := dl) st ps (.val (.int q.1)) (.val q.2.d) fun p hp => h p (List.mem_cons_of_mem _ hp)
    refine ⟨a', b', ?_⟩
    rw [List.map_cons]
    unfold forGo
    show (match lb_check_deeds_0 [.val (.int many), dl, .val (.int q.1), .val q.2.d] st with
      | .nx ρ2 st2 => forGo _ lb_check_deeds_0 (ps.map fun q : Int × Dd => D.tup [.int q.1, q.2.d]) ρ2 st2
      | .ct ρ2 st2 => forGo _ lb_check_deeds_0 (ps.map fun q : Int × Dd => D.tup [.int q.1, q.2.d]) ρ2 st2
      | .bk ρ2 st2 => .nx ρ2 st2
      | r => r) = _
    rw [deed_ok (h q List.mem_cons_self)]
    exact e
end Lw
namespace Lw
open Gh L2 PyProof.Rows PySem.Spec PySem
def idx : Int → List Dd → List (Int × Dd)
  | _, [] => []
  | i, e :: r => (i, e) :: idx (i + 1) r
theorem idx_snd : ∀ (i : Int) (es : List Dd), (idx i es).map (·.2) = es
  | _, [] => rfl
  | i, e :: r => by
    show e :: (idx (i + 1) r).map (·.2) = e :: r
    rw [idx_snd (i + 1) r]
theorem idx_len : ∀ (i : Int) (es : List Dd), (idx i es).length = es.length
  | _, [] => rfl
  | i, e :: r => by
    show (idx (i + 1) r).length + 1 = r.length + 1
    rw [idx_len (i + 1) r]
theorem idx_get : ∀ (es : List Dd) (i : Int) (n : Nat) (h : n < es.length), (idx i es)[n]? = some (i + (n : Int), es[n])
  | [], i, n, h => by cases h
  | e :: r, i, 0, h => by
    show some (i, e) = _
    simp
  | e :: r, i, n + 1, h => by
    have hr : n < r.length := by simpa using h
    show (idx (i + 1) r)[n]? = _
    rw [idx_get r (i + 1) n hr]
    simp only [List.getElem_cons_succ]
    rw [show i + 1 + (n : Int) = i + ((n + 1 : Nat) : Int) by omega]
theorem numbered_idx (es : List Dd) : Gh.numbered (es.map Dd.d) = (idx 0 es).map fun q : Int × Dd => D.tup [.int q.1, q.2.d] := by
  refine List.ext_getElem? fun n => ?_
  unfold Gh.numbered
  by_cases h : n < es.length
  · rw [List.getElem?_map, List.getElem?_map, idx_get es 0 n h, List.getElem?_range (by simpa using h)]
    simp [List.getD, List.getElem?_map, List.getElem?_eq_getElem h]
  · rw [List.getElem?_eq_none (by simp; omega), List.getElem?_eq_none (by rw [List.length_map, idx_len]; omega)]
theorem check_deeds_ok {many : Int} (es : List Dd) (h : ∀ e ∈ es, fine many e) (st : Store) : m_check_deeds [.int many, .lst (es.map Dd.d)] st = .ok .non st := by
  have hf : ∀ p ∈ idx 0 es, fine many p.2 := fun p hp => h _ (by
    have := List.mem_map_of_mem (f := fun q : Int × Dd => q.2) hp
    rw [idx_snd] at this
    exact this)
  obtain ⟨a', b', e⟩ := deeds_ok (many := many) (dl := .val (.lst (es.map Dd.d))) st (idx 0 es) .un .un hf
  refine callD_nx0 (ρ' := [.val (.int many), .val (.lst (es.map Dd.d)), a', b']) rfl ?_
  show b_check_deeds [.val (.int many), .val (.lst (es.map Dd.d)), .un, .un] st = _
  unfold b_check_deeds
  have r1 : m_is_row [.lst (es.map Dd.d)] st = .ok (.bl true) st := callD_rt0 rfl (by rfl) rfl
  rw [seq_nx (ρ' := [.val (.int many), .val (.lst (es.map Dd.d)), .un, .un]) (st' := st) (by
    rw [v_ifF (st1 := st) (by rw [r_tNot, r_tTr, v_call (ds := [.lst (es.map Dd.d)]) (st1 := st) rfl, r1]; rfl)]
    rfl)]
  rw [r_for]
  show forGo _ _ (Gh.numbered (es.map Dd.d)) _ _ = _
  rw [numbered_idx]
  exact e
def c0 (many most : Int) : C := ⟨many, most, [], List.replicate many.toNat none, [], [], []⟩
theorem small {m : Int} (h : 1 ≤ m ∧ m ≤ 3) : m = 1 ∨ m = 2 ∨ m = 3 := by omega
theorem init_ok {many most : Int} (h1 : 1 ≤ many ∧ many ≤ 3) (h2 : 1 ≤ most ∧ most ≤ 3) (A B : D) (ρ : REnv) (h0 : ρ[0]? = some (.val (.int many))) (h3 : ρ[1]? = some (.val (.int most))) : eMakeM "Crew" m_Crew___init__ (aCons (eVar 0) (aCons (eVar 1) aNil)) ρ [A, B] = .ok (.loc 2) [A, B, CD (c0 many most)] := by
  have e : aCons (eVar 0) (aCons (eVar 1) aNil) ρ [A, B] = .ok [.int many, .int most] [A, B] := v_cons (by rw [r_var, h0]) (v_cons (by rw [r_var, h3]) rfl)
  unfold eMakeM
  rw [e, RC.bind_ok]
  rcases small h1 with rfl | rfl | rfl <;> rcases small h2 with rfl | rfl | rfl <;> kernel_rfl
theorem ck0 {many most : Int} (h1 : 1 ≤ many ∧ many ≤ 3) : Ck (c0 many most) 0 := by
  refine ⟨?_, by show many ≤ 9; omega, Nat.le_refl _, Nat.le_refl _, Nat.le_refl _, Nat.le_refl _, List.nodup_nil, fun z hz => (by cases hz), fun z hz => ?_⟩
  · show (((List.replicate many.toNat (none : Option Str)).length : Nat) : Int) = many
    rw [List.length_replicate]
    omega
  · have := List.eq_of_mem_replicate hz
    cases this
theorem run_ok {many most : Int} (h1 : 1 ≤ many ∧ many ≤ 3) (h2 : 1 ≤ most ∧ most ≤ 3) (A B : D) (es : List Dd) (hl : es.length < 100) (hf : ∀ e ∈ es, fine many e) (hc : canAll (c0 many most) es) :
    m_run_crew [.int many, .int most, .lst (es.map Dd.d)] [A, B] = .ok (CD (runC (c0 many most) es)) [A, B] := by
  obtain ⟨p', w', th', e⟩ := run_loop (A := A) (B := B) (a := .val (.int many)) (b := .val (.int most)) (d := .val (.lst (es.map Dd.d))) (idx 0 es) (c0 many most) 0 .un .un .un (ck0 h1) (fun z hz => (by cases hz)) (by rw [idx_snd]; exact hc) (by rw [idx_len]; omega)
  rw [idx_snd] at e
  have body : b_run_crew [.val (.int many), .val (.int most), .val (.lst (es.map Dd.d)), .un, .un, .un, .un] [A, B] = .rt (.loc 2) [A, B, CD (runC (c0 many most) es)] := by
    unfold b_run_crew
    rw [seq_nx (v_asg (init_ok h1 h2 A B _ rfl rfl))]
    show sSeq _ _ [.val (.int many), .val (.int most), .val (.lst (es.map Dd.d)), .val (.loc 2), .un, .un, .un] _ = _
    rw [seq_nx (v_drop ((v_call (ds := [.int many, .lst (es.map Dd.d)]) (st1 := [A, B, CD (c0 many most)]) rfl).trans (check_deeds_ok es hf _)))]
    rw [seq_nx (ρ' := RE (.val (.int many)) (.val (.int most)) (.val (.lst (es.map Dd.d))) p' w' th') (st' := [A, B, CD (runC (c0 many most) es)]) (by
      rw [r_for]
      show forGo _ _ (Gh.numbered (es.map Dd.d)) _ _ = _
      rw [numbered_idx]
      exact e)]
    rfl
  show callD 3 7 b_run_crew _ _ = _
  unfold callD
  show (match b_run_crew [.val (.int many), .val (.int most), .val (.lst (es.map Dd.d)), .un, .un, .un, .un] [A, B] with
    | .nx _ st' => finD 2 .non st'
    | .rt d st' => finD 2 d st'
    | .exc c fs _ st' => .exc c fs (st'.take 2)
    | _ => .bad) = _
  rw [body]
  rfl
end Lw
namespace Lw
open Gh L2 PyProof.Rows PySem.Spec PySem
/-- law's slots while it goes on with the crew -/
abbrev E2 (ns : List Int) (v3 v4 v5 v9 v10 v11 v12 v13 v14 : Sl) (c : C) (es : List Dd) (a6 a7 a8 a24 a25 a26 : Sl) : REnv := [.val (.scr (I ns)), .val (.loc 0), .val (.loc 1), v3, v4, v5, a6, a7, a8, v9, v10, v11, v12, v13, v14,
  .val (.int c.many), .val (.int c.most), .val (.lst (es.map Dd.d)), .val (.lst (strL c.wt)), .own (.lst (optL c.hd)), .val (.lst (strL c.dn)), .val (.lst (strL c.as)), .own (.dct (upD c.tk)), .val (.lst (strL (c.tk.map fun p => p.1))), a24, a25, a26,
  .un, .un, .un, .un, .un, .un, .un]
section
variable {ns : List Int} {v3 v4 v5 v9 v10 v11 v12 v13 v14 a6 a7 a8 a24 a25 a26 : Sl} {c : C} {es : List Dd} {B : D} {k : Int} {t : Nat}
theorem job_of (v : Int) (h : 0 ≤ v ∧ v < 6) (st : Store) : ∃ x, x ∈ jobs ∧ (gStrI [.int v] st).bind (fun y st2 => gAdd (.str "j") y st2) = .ok (.str x) st := by
  have : v = 0 ∨ v = 1 ∨ v = 2 ∨ v = 3 ∨ v = 4 ∨ v = 5 := by omega
  rcases this with rfl | rfl | rfl | rfl | rfl | rfl
  · exact ⟨"j0", by simp, by kernel_rfl⟩
  · exact ⟨"j1", by simp, by kernel_rfl⟩
  · exact ⟨"j2", by simp, by kernel_rfl⟩
  · exact ⟨"j3", by simp, by kernel_rfl⟩
  · exact ⟨"j4", by simp, by kernel_rfl⟩
  · exact ⟨"j5", by simp, by kernel_rfl⟩
theorem draws2 (hl : ns.length ≤ 63) (hk : 0 ≤ k) (hm : 0 < c.many ∧ c.many ≤ 9) : ∃ (w : Int) (x : Str) (j : Nat), 0 ≤ w ∧ w < 4 ∧ x ∈ jobs ∧ (j : Int) < c.many ∧
    x_law_48 (E2 ns v3 v4 v5 v9 v10 v11 v12 v13 v14 c es a6 a7 a8 a24 a25 a26) [A ns k, B] = .nx (E2 ns v3 v4 v5 v9 v10 v11 v12 v13 v14 c es a6 (.val (.int w)) (.val (.int (j : Int))) (.val (.str x)) a25 a26) [A ns (k + 3), B] := by
  obtain ⟨w, h1, h2, e1⟩ := take_ok ns k 4 [B] hk (by decide) hl
  obtain ⟨v, h3, h4, e2'⟩ := take_ok ns (k + 1) 6 [B] (by omega) (by decide) hl
  obtain ⟨u, h5, h6, e3⟩ := take_ok ns (k + 1 + 1) c.many [B] (by omega) (by omega) hl
  obtain ⟨x, hx, ex⟩ := job_of v ⟨h3, h4⟩ [A ns (k + 1 + 1), B]
  obtain ⟨j, rfl⟩ : ∃ j : Nat, u = (j : Int) := ⟨u.toNat, by omega⟩
  refine ⟨w, x, j, h1, h2, hx, h6, ?_⟩
  unfold x_law_48
  rw [show k + 3 = k + 1 + 1 + 1 by omega]
  have w1 : eCall m__law_take (aCons (eVar 1) (aCons (eC (.int 4)) aNil)) (E2 ns v3 v4 v5 v9 v10 v11 v12 v13 v14 c es a6 a7 a8 a24 a25 a26) [A ns k, B] = .ok (.int w) [A ns (k + 1), B] := (v_call (ds := [.loc 0, .int 4]) rfl).trans e1
  have w2 : eCall m__law_take (aCons (eVar 1) (aCons (eC (.int 6)) aNil)) (E2 ns v3 v4 v5 v9 v10 v11 v12 v13 v14 c es a6 a7 a8 a24 a25 a26) [A ns (k + 1), B] = .ok (.int v) [A ns (k + 1 + 1), B] := (v_call (ds := [.loc 0, .int 6]) rfl).trans e2'
  have w3 : eCall m__law_take (aCons (eVar 1) (aCons (eVar 15) aNil)) (E2 ns v3 v4 v5 v9 v10 v11 v12 v13 v14 c es a6 a7 a8 a24 a25 a26) [A ns (k + 1 + 1), B] = .ok (.int (j : Int)) [A ns (k + 1 + 1 + 1), B] := (v_call (ds := [.loc 0, .int c.many]) rfl).trans e3
  have w2' : e2 gAdd (eC (.str "j")) (eN gStrI (aCons (eCall m__law_take (aCons (eVar 1) (aCons (eC (.int 6)) aNil))) aNil)) (E2 ns v3 v4 v5 v9 v10 v11 v12 v13 v14 c es a6 a7 a8 a24 a25 a26) [A ns (k + 1), B] = .ok (.str x) [A ns (k + 1 + 1), B] := by
    rw [r_e2, r_c, RC.bind_ok, v_eN1 w2]
    exact ex
  exact (v_par (v_mVal w1 (v_mVal w2' (v_mVal w3 rfl))) rfl).trans rfl
end
end Lw
namespace Lw
open Gh L2 PyProof.Rows PySem.Spec PySem
theorem v_eIfT {t : TDen} {a b : EDen} {ρ : REnv} {st st1 : Store} (h : t ρ st = .ok true st1) : eIf t a b ρ st = a ρ st1 := by rw [r_eIf, h]; rfl
theorem v_eIfF {t : TDen} {a b : EDen} {ρ : REnv} {st st1 : Store} (h : t ρ st = .ok false st1) : eIf t a b ρ st = b ρ st1 := by rw [r_eIf, h]; rfl
section
variable {ns : List Int} {v3 v4 v5 v9 v10 v11 v12 v13 v14 a6 a7 a8 a24 a25 a26 : Sl} {c : C} {es : List Dd} {B : D} {k w : Int} {x : Str} {j : Nat} {t : Nat} {st : Store}
/-- the deed that a turn makes -/
def deedOf (c : C) (w : Int) (x : Str) (j : Nat) : Option Dd :=
  if w = 0 then (if x ∈ c.tk.map (fun p => p.1) then none else some (.give x))
  else if w = 1 then (if c.hd[j]? = some none then some (.take j) else none)
  else if w = 2 then (if c.hd[j]? = some none then none else some (.fin j))
  else some (.fall j)
theorem ix_heldL (hj : j < c.hd.length) (st : Store) : gIx (.lst (optL c.hd)) (.int (j : Int)) st = .ok (optD c.hd[j]) st := by
  have : (optL c.hd)[j]? = some (optD c.hd[j]) := by rw [List.getElem?_map, List.getElem?_eq_getElem hj]; rfl
  have l2 : L2.ixN c.hd.length (j : Int) = some j := by
    unfold L2.ixN
    rw [if_pos (by omega), if_pos (by omega)]
    simp
  simp [gIx, itemsOf, atI, l2, this, List.getElem?_eq_getElem hj]
theorem isNon_opt (o : Option Str) : isNon (optD o) = decide (o = none) := by cases o <;> rfl
theorem can_ok (hj : j < c.hd.length) (h0 : 0 ≤ w ∧ w < 4) : x_law_49 (E2 ns v3 v4 v5 v9 v10 v11 v12 v13 v14 c es a6 (.val (.int w)) (.val (.int (j : Int))) (.val (.str x)) a25 a26) st = .nx (E2 ns v3 v4 v5 v9 v10 v11 v12 v13 v14 c es a6 (.val (.int w)) (.val (.int (j : Int))) (.val (.str x)) (.val (.bl (deedOf c w x j).isSome)) a26) st := by
  unfold x_law_49
  have e0 : c.hd[j]? = some c.hd[j] := List.getElem?_eq_getElem hj
  have i1 := ix_heldL (c := c) hj st
  refine v_asg ?_
  unfold deedOf
  have : w = 0 ∨ w = 1 ∨ w = 2 ∨ w = 3 := by omega
  rcases this with rfl | rfl | rfl | rfl
  · rw [v_eIfT (st1 := st) rfl, v_e2 (x := .str x) (y := .lst (strL (c.tk.map fun p => p.1))) (st1 := st) (st2 := st) rfl rfl, notin_flat rfl rfl (all_flat_map _ (fun _ => rfl) _), inD_str]
    by_cases q : x ∈ c.tk.map (fun p => p.1) <;> simp [q]
  · rw [v_eIfF (st1 := st) rfl]
    rw [v_eIfT (st1 := st) rfl, v_e2 ((v_e2 (x := .lst (optL c.hd)) (y := .int (j : Int)) (st1 := st) (st2 := st) rfl rfl).trans i1) rfl, r_gIs, isNon_opt, e0]
    cases c.hd[j] <;> simp
  · rw [v_eIfF (st1 := st) rfl]
    rw [v_eIfF (st1 := st) rfl]
    rw [v_eIfT (st1 := st) rfl, v_e2 ((v_e2 (x := .lst (optL c.hd)) (y := .int (j : Int)) (st1 := st) (st2 := st) rfl rfl).trans i1) rfl, r_gIsNot, isNon_opt, e0]
    cases c.hd[j] <;> simp
  · rfl
theorem deeds_add (h0 : 0 ≤ w ∧ w < 4) (hl : es.length < 900) : x_law_50 (E2 ns v3 v4 v5 v9 v10 v11 v12 v13 v14 c es a6 (.val (.int w)) (.val (.int (j : Int))) (.val (.str x)) (.val (.bl (deedOf c w x j).isSome)) a26) st = .nx (E2 ns v3 v4 v5 v9 v10 v11 v12 v13 v14 c (es ++ (deedOf c w x j).toList) a6 (.val (.int w)) (.val (.int (j : Int))) (.val (.str x)) (.val (.bl (deedOf c w x j).isSome)) a26) st := by
  unfold x_law_50
  refine (v_asg (x := .lst ((es ++ (deedOf c w x j).toList).map Dd.d)) (st1 := st) ?_).trans rfl
  have add : ∀ l : List Dd, l.length ≤ 1 → gAdd (.lst (es.map Dd.d)) (.lst (l.map Dd.d)) st = .ok (.lst ((es ++ l).map Dd.d)) st := fun l h => by
    rw [add_lst (by rw [List.length_map, List.length_map]; omega), List.map_append]
  have len : (deedOf c w x j).toList.length ≤ 1 := by cases deedOf c w x j <;> simp
  refine (v_e2 (x := .lst (es.map Dd.d)) (y := .lst ((deedOf c w x j).toList.map Dd.d)) (st1 := st) (st2 := st) rfl ?_).trans (add _ len)
  cases q : deedOf c w x j with
  | none => rfl
  | some e =>
    rw [v_eIfT (st1 := st) rfl]
    have : w = 0 ∨ w = 1 ∨ w = 2 ∨ w = 3 := by omega
    unfold deedOf at q
    rcases this with rfl | rfl | rfl | rfl
    · simp only [if_true] at q
      split at q
      · cases q
      · cases q; rfl
    · simp at q
      obtain ⟨_, rfl⟩ := q
      rfl
    · simp at q
      obtain ⟨_, rfl⟩ := q
      rfl
    · simp at q
      subst q
      rfl
end
end Lw
namespace Lw
open Gh L2 PyProof.Rows PySem.Spec PySem
section
variable {ns : List Int} {v3 v4 v5 v9 v10 v11 v12 v13 v14 a6 a7 a8 a24 a25 a26 : Sl} {c : C} {es : List Dd} {B : D} {k w : Int} {x : Str} {j : Nat} {t : Nat} {st : Store}
/-- the four statements that change law's own crew -/
def four : SDen := sSeq x_law_52 (sSeq x_law_55 (sSeq x_law_57 x_law_60))
theorem app_l (l : List Str) (x : Str) (hl : l.length < 900) (st : Store) : gAdd (.lst (strL l)) (.lst [.str x]) st = .ok (.lst (strL (l ++ [x]))) st := by
  rw [add_lst (by rw [List.length_map]; simp; omega), strL_app]
theorem four_give (ck : Ck c t) (ht : t < 900) (hx : x ∉ c.tk.map (·.1)) : four (E2 ns v3 v4 v5 v9 v10 v11 v12 v13 v14 c es a6 (.val (.int 0)) (.val (.int (j : Int))) (.val (.str x)) a25 a26) st = .nx (E2 ns v3 v4 v5 v9 v10 v11 v12 v13 v14 (step c (.give x)) es a6 (.val (.int 0)) (.val (.int (j : Int))) (.val (.str x)) a25 a26) st := by
  have l1 := ck.lw
  have l2 := ck.lt
  have s52 : x_law_52 (E2 ns v3 v4 v5 v9 v10 v11 v12 v13 v14 c es a6 (.val (.int 0)) (.val (.int (j : Int))) (.val (.str x)) a25 a26) st = .nx (E2 ns v3 v4 v5 v9 v10 v11 v12 v13 v14 (step c (.give x)) es a6 (.val (.int 0)) (.val (.int (j : Int))) (.val (.str x)) a25 a26) st := by
    unfold x_law_52
    have n1 : gNotIn (.str x) (.lst (strL (c.tk.map fun p => p.1))) st = .ok (.bl true) st := by
      rw [notin_flat rfl rfl (all_flat_map _ (fun _ => rfl) _), inD_str]
      simp only [decide_eq_false hx]
      rfl
    rw [v_ifT (st1 := st) ((v_andT (st1 := st) rfl).trans (v_tB ((v_e2 (x := .str x) (y := .lst (strL (c.tk.map fun p => p.1))) (st1 := st) (st2 := st) rfl rfl).trans n1)))]
    unfold x_law_51
    have g1 := app_l (c.tk.map fun p => p.1) x (by rw [List.length_map]; omega) st
    have g2 := app_l c.wt x (by omega) st
    rw [r_many]
    rw [v_mVal ((v_e2 (x := .lst (strL (c.tk.map fun p => p.1))) (y := .lst [.str x]) (st1 := st) (st2 := st) rfl rfl).trans g1) (v_mVal ((v_e2 (x := .lst (strL c.wt)) (y := .lst [.str x]) (st1 := st) (st2 := st) rfl rfl).trans g2) (v_mVal (x := .int 0) (st1 := st) rfl rfl))]
    have p1 : putAt 22 (eVar 24) (.int 0) (((E2 ns v3 v4 v5 v9 v10 v11 v12 v13 v14 c es a6 (.val (.int 0)) (.val (.int (j : Int))) (.val (.str x)) a25 a26).set 23 (.val (.lst (strL ((c.tk.map fun p => p.1) ++ [x]))))).set 18 (.val (.lst (strL (c.wt ++ [x]))))) st = some (_, _) := putAt_d (kvs := upD c.tk) (y := .str x) rfl rfl rfl (by rw [upD, List.length_map]; omega) rfl
    show (match pdName 23 (pdName 18 (pdPut 22 (eVar 24) pdNil)) [(.lst (strL ((c.tk.map fun p => p.1) ++ [x])), false), (.lst (strL (c.wt ++ [x])), false), (.int 0, false)] (E2 ns v3 v4 v5 v9 v10 v11 v12 v13 v14 c es a6 (.val (.int 0)) (.val (.int (j : Int))) (.val (.str x)) a25 a26) st with | some (ρ', st') => SR.nx ρ' st' | none => .bad) = _
    rw [r_pdNameV, r_pdNameV, r_pdPut, p1]
    have e : putD (upD c.tk) (.inr x) (.int 0) = upD (c.tk ++ [(x, 0)]) := by
      rw [putD_new]
      · unfold upD; rw [List.map_append]; rfl
      · rw [keysUp]; simpa using hx
    have e2' : strL ((c.tk.map fun p => p.1) ++ [x]) = strL ((c.tk ++ [(x, 0)]).map fun p : Str × Int => p.1) := by rw [List.map_append]; rfl
    rw [e, e2']
    rfl
  unfold four
  rw [seq_nx s52]
  rfl
theorem four_give_no (hx : x ∈ c.tk.map (·.1)) : four (E2 ns v3 v4 v5 v9 v10 v11 v12 v13 v14 c es a6 (.val (.int 0)) (.val (.int (j : Int))) (.val (.str x)) a25 a26) st = .nx (E2 ns v3 v4 v5 v9 v10 v11 v12 v13 v14 c es a6 (.val (.int 0)) (.val (.int (j : Int))) (.val (.str x)) a25 a26) st := by
  have s52 : x_law_52 (E2 ns v3 v4 v5 v9 v10 v11 v12 v13 v14 c es a6 (.val (.int 0)) (.val (.int (j : Int))) (.val (.str x)) a25 a26) st = .nx (E2 ns v3 v4 v5 v9 v10 v11 v12 v13 v14 c es a6 (.val (.int 0)) (.val (.int (j : Int))) (.val (.str x)) a25 a26) st := by
    unfold x_law_52
    have n1 : gNotIn (.str x) (.lst (strL (c.tk.map fun p => p.1))) st = .ok (.bl false) st := by
      rw [notin_flat rfl rfl (all_flat_map _ (fun _ => rfl) _), inD_str]
      simp only [decide_eq_true hx]
      rfl
    rw [v_ifF (st1 := st) ((v_andT (st1 := st) rfl).trans (v_tB ((v_e2 (x := .str x) (y := .lst (strL (c.tk.map fun p => p.1))) (st1 := st) (st2 := st) rfl rfl).trans n1)))]
    rfl
  unfold four
  rw [seq_nx s52]
  rfl
theorem held_non (hj : j < c.hd.length) {ρ : REnv} (h1 : ρ[19]? = some (.own (.lst (optL c.hd)))) (h2 : ρ[8]? = some (.val (.int (j : Int)))) : e2 gIx (ePeek 19) (ePeek 8) ρ st = .ok (optD c.hd[j]) st :=
  (v_e2 (by rw [r_peek, h1]) (by rw [r_peek, h2])).trans (ix_heldL hj st)
theorem four_fin (hj : j < c.hd.length) (hx : c.hd[j] = some x) (ck : Ck c t) (ht : t < 900) {a24 : Sl} : four (E2 ns v3 v4 v5 v9 v10 v11 v12 v13 v14 c es a6 (.val (.int 2)) (.val (.int (j : Int))) a24 a25 a26) st = .nx (E2 ns v3 v4 v5 v9 v10 v11 v12 v13 v14 (finished c j x) es a6 (.val (.int 2)) (.val (.int (j : Int))) a24 a25 a26) st := by
  have l1 := ck.ld
  have s57 : x_law_57 (E2 ns v3 v4 v5 v9 v10 v11 v12 v13 v14 c es a6 (.val (.int 2)) (.val (.int (j : Int))) a24 a25 a26) st = .nx (E2 ns v3 v4 v5 v9 v10 v11 v12 v13 v14 (finished c j x) es a6 (.val (.int 2)) (.val (.int (j : Int))) a24 a25 a26) st := by
    unfold x_law_57
    have i1 := held_non (c := c) (st := st) hj (ρ := E2 ns v3 v4 v5 v9 v10 v11 v12 v13 v14 c es a6 (.val (.int 2)) (.val (.int (j : Int))) a24 a25 a26) rfl rfl
    rw [hx] at i1
    rw [v_ifT (st1 := st) ((v_andT (st1 := st) rfl).trans (v_tB ((v_e2 i1 rfl).trans rfl)))]
    unfold x_law_56
    have g2 := app_l c.dn x (by omega) st
    have b : eLst (aCons (e2 gIx (ePeek 19) (ePeek 8)) aNil) (E2 ns v3 v4 v5 v9 v10 v11 v12 v13 v14 c es a6 (.val (.int 2)) (.val (.int (j : Int))) a24 a25 a26) st = .ok (.lst [.str x]) st := by
      rw [r_lst, v_cons i1 rfl]
      rfl
    rw [r_many]
    rw [v_mVal ((v_e2 (x := .lst (strL c.dn)) (y := .lst [.str x]) (st1 := st) (st2 := st) rfl b).trans g2) (v_mVal (x := .non) (st1 := st) rfl rfl)]
    have l2 : L2.ixN (optL c.hd).length (j : Int) = some j := by
      unfold L2.ixN
      rw [List.length_map, if_pos (by omega), if_pos (by omega)]
      simp
    have p1 : putAt 19 (eVar 8) .non ((E2 ns v3 v4 v5 v9 v10 v11 v12 v13 v14 c es a6 (.val (.int 2)) (.val (.int (j : Int))) a24 a25 a26).set 20 (.val (.lst (strL (c.dn ++ [x]))))) st = some (_, _) := putAt_l (xs := optL c.hd) (n := (j : Int)) rfl rfl l2 rfl
    show (match pdName 20 (pdPut 19 (eVar 8) pdNil) [(.lst (strL (c.dn ++ [x])), false), (.non, false)] (E2 ns v3 v4 v5 v9 v10 v11 v12 v13 v14 c es a6 (.val (.int 2)) (.val (.int (j : Int))) a24 a25 a26) st with | some (ρ', st') => SR.nx ρ' st' | none => .bad) = _
    rw [r_pdNameV, r_pdPut, p1]
    have e : (optL c.hd).set j .non = optL (c.hd.set j none) := by
      show (c.hd.map optD).set j (optD none) = (c.hd.set j none).map optD
      rw [List.map_set]
    rw [e]
    rfl
  unfold four
  rw [seq_nx (show x_law_52 (E2 ns v3 v4 v5 v9 v10 v11 v12 v13 v14 c es a6 (.val (.int 2)) (.val (.int (j : Int))) a24 a25 a26) st = .nx (E2 ns v3 v4 v5 v9 v10 v11 v12 v13 v14 c es a6 (.val (.int 2)) (.val (.int (j : Int))) a24 a25 a26) st from rfl), seq_nx (show x_law_55 (E2 ns v3 v4 v5 v9 v10 v11 v12 v13 v14 c es a6 (.val (.int 2)) (.val (.int (j : Int))) a24 a25 a26) st = .nx (E2 ns v3 v4 v5 v9 v10 v11 v12 v13 v14 c es a6 (.val (.int 2)) (.val (.int (j : Int))) a24 a25 a26) st from rfl), seq_nx s57]
  rfl
end
end Lw
namespace Lw
open Gh L2 PyProof.Rows PySem.Spec PySem
section
variable {ns : List Int} {v3 v4 v5 v9 v10 v11 v12 v13 v14 a6 a7 a8 a24 a25 a26 : Sl} {c : C} {es : List Dd} {B : D} {k w : Int} {x : Str} {j : Nat} {t : Nat} {st : Store}
/-- a hand that holds nothing: neither finish nor fall does a thing -/
theorem four_no (hj : j < c.hd.length) (hx : c.hd[j] = none) (hw : w = 2 ∨ w = 3) : four (E2 ns v3 v4 v5 v9 v10 v11 v12 v13 v14 c es a6 (.val (.int w)) (.val (.int (j : Int))) a24 a25 a26) st = .nx (E2 ns v3 v4 v5 v9 v10 v11 v12 v13 v14 c es a6 (.val (.int w)) (.val (.int (j : Int))) a24 a25 a26) st := by
  have i1 := held_non (c := c) (st := st) hj (ρ := E2 ns v3 v4 v5 v9 v10 v11 v12 v13 v14 c es a6 (.val (.int w)) (.val (.int (j : Int))) a24 a25 a26) rfl rfl
  rw [hx] at i1
  have n : tB (e2 gIsNot (e2 gIx (ePeek 19) (ePeek 8)) (eC .non)) (E2 ns v3 v4 v5 v9 v10 v11 v12 v13 v14 c es a6 (.val (.int w)) (.val (.int (j : Int))) a24 a25 a26) st = .ok false st := v_tB ((v_e2 i1 rfl).trans rfl)
  have no : ∀ (i : Int) (s : SDen), sIf (tAnd (tB (e2 gEq (ePeek 7) (eC (.int i)))) (tB (e2 gIsNot (e2 gIx (ePeek 19) (ePeek 8)) (eC .non)))) s sNil (E2 ns v3 v4 v5 v9 v10 v11 v12 v13 v14 c es a6 (.val (.int w)) (.val (.int (j : Int))) a24 a25 a26) st = .nx (E2 ns v3 v4 v5 v9 v10 v11 v12 v13 v14 c es a6 (.val (.int w)) (.val (.int (j : Int))) a24 a25 a26) st := fun i s => by
    have q : tB (e2 gEq (ePeek 7) (eC (.int i))) (E2 ns v3 v4 v5 v9 v10 v11 v12 v13 v14 c es a6 (.val (.int w)) (.val (.int (j : Int))) a24 a25 a26) st = .ok (decide (w = i)) st := rfl
    rw [v_ifF (st1 := st)]
    · rfl
    rw [r_tAnd, q, RC.bind_ok]
    split
    · exact n
    · rfl
  have s57 : x_law_57 (E2 ns v3 v4 v5 v9 v10 v11 v12 v13 v14 c es a6 (.val (.int w)) (.val (.int (j : Int))) a24 a25 a26) st = .nx (E2 ns v3 v4 v5 v9 v10 v11 v12 v13 v14 c es a6 (.val (.int w)) (.val (.int (j : Int))) a24 a25 a26) st := no 2 _
  have s60 : x_law_60 (E2 ns v3 v4 v5 v9 v10 v11 v12 v13 v14 c es a6 (.val (.int w)) (.val (.int (j : Int))) a24 a25 a26) st = .nx (E2 ns v3 v4 v5 v9 v10 v11 v12 v13 v14 c es a6 (.val (.int w)) (.val (.int (j : Int))) a24 a25 a26) st := no 3 _
  unfold four
  rcases hw with rfl | rfl
  · rw [seq_nx (show x_law_52 (E2 ns v3 v4 v5 v9 v10 v11 v12 v13 v14 c es a6 (.val (.int 2)) (.val (.int (j : Int))) a24 a25 a26) st = .nx _ st from rfl), seq_nx (show x_law_55 (E2 ns v3 v4 v5 v9 v10 v11 v12 v13 v14 c es a6 (.val (.int 2)) (.val (.int (j : Int))) a24 a25 a26) st = .nx _ st from rfl), seq_nx s57, s60]
  · rw [seq_nx (show x_law_52 (E2 ns v3 v4 v5 v9 v10 v11 v12 v13 v14 c es a6 (.val (.int 3)) (.val (.int (j : Int))) a24 a25 a26) st = .nx _ st from rfl), seq_nx (show x_law_55 (E2 ns v3 v4 v5 v9 v10 v11 v12 v13 v14 c es a6 (.val (.int 3)) (.val (.int (j : Int))) a24 a25 a26) st = .nx _ st from rfl), seq_nx s57, s60]
theorem four_fall (hj : j < c.hd.length) (hx : c.hd[j] = some x) (ck : Ck c t) (ht : t < 900) : four (E2 ns v3 v4 v5 v9 v10 v11 v12 v13 v14 c es a6 (.val (.int 3)) (.val (.int (j : Int))) a24 a25 a26) st = .nx (E2 ns v3 v4 v5 v9 v10 v11 v12 v13 v14 (fallen c j x) es a6 (.val (.int 3)) (.val (.int (j : Int))) a24 a25 (.val (.str x))) st := by
  have l1 := ck.lw
  have l3 := ck.la
  have mem : x ∈ c.tk.map (·.1) := ck.hk x (by rw [← hx]; exact List.getElem_mem hj)
  have i1 := held_non (c := c) (st := st) hj (ρ := E2 ns v3 v4 v5 v9 v10 v11 v12 v13 v14 c es a6 (.val (.int 3)) (.val (.int (j : Int))) a24 a25 a26) rfl rfl
  rw [hx] at i1
  have s58 : x_law_58 (E2 ns v3 v4 v5 v9 v10 v11 v12 v13 v14 c es a6 (.val (.int 3)) (.val (.int (j : Int))) a24 a25 a26) st = .nx (E2 ns v3 v4 v5 v9 v10 v11 v12 v13 v14 { c with hd := c.hd.set j none } es a6 (.val (.int 3)) (.val (.int (j : Int))) a24 a25 (.val (.str x))) st := by
    unfold x_law_58
    rw [r_many]
    rw [v_mVal i1 (v_mVal (x := .non) (st1 := st) rfl rfl)]
    have l2 : L2.ixN (optL c.hd).length (j : Int) = some j := by
      unfold L2.ixN
      rw [List.length_map, if_pos (by omega), if_pos (by omega)]
      simp
    have p1 : putAt 19 (eVar 8) .non ((E2 ns v3 v4 v5 v9 v10 v11 v12 v13 v14 c es a6 (.val (.int 3)) (.val (.int (j : Int))) a24 a25 a26).set 26 (.val (.str x))) st = some (_, _) := putAt_l (xs := optL c.hd) (n := (j : Int)) rfl rfl l2 rfl
    show (match pdName 26 (pdPut 19 (eVar 8) pdNil) [(.str x, false), (.non, false)] (E2 ns v3 v4 v5 v9 v10 v11 v12 v13 v14 c es a6 (.val (.int 3)) (.val (.int (j : Int))) a24 a25 a26) st with | some (ρ', st') => SR.nx ρ' st' | none => .bad) = _
    rw [r_pdNameV, r_pdPut, p1]
    have e : (optL c.hd).set j .non = optL (c.hd.set j none) := by
      show (c.hd.map optD).set j (optD none) = (c.hd.set j none).map optD
      rw [List.map_set]
    rw [e]
    rfl
  have v : gIx (.dct (upD c.tk)) (.str x) st = .ok (.int (tkOf c.tk x)) st := by simp [gIx, ck.tkv mem]
  have tv : e2 gIx (ePeek 22) (ePeek 26) (E2 ns v3 v4 v5 v9 v10 v11 v12 v13 v14 { c with hd := c.hd.set j none } es a6 (.val (.int 3)) (.val (.int (j : Int))) a24 a25 (.val (.str x))) st = .ok (.int (tkOf c.tk x)) st := (v_e2 (x := .dct (upD c.tk)) (y := .str x) (st1 := st) (st2 := st) rfl rfl).trans v
  have s59 : x_law_59 (E2 ns v3 v4 v5 v9 v10 v11 v12 v13 v14 { c with hd := c.hd.set j none } es a6 (.val (.int 3)) (.val (.int (j : Int))) a24 a25 (.val (.str x))) st = .nx (E2 ns v3 v4 v5 v9 v10 v11 v12 v13 v14 (fallen c j x) es a6 (.val (.int 3)) (.val (.int (j : Int))) a24 a25 (.val (.str x))) st := by
    unfold x_law_59
    by_cases q : tkOf c.tk x < c.most
    · rw [show fallen c j x = { c with hd := c.hd.set j none, wt := x :: c.wt } by unfold fallen; rw [if_pos q]]
      have t1 : tB (e2 gGe (e2 gIx (ePeek 22) (ePeek 26)) (ePeek 16)) (E2 ns v3 v4 v5 v9 v10 v11 v12 v13 v14 { c with hd := c.hd.set j none } es a6 (.val (.int 3)) (.val (.int (j : Int))) a24 a25 (.val (.str x))) st = .ok false st := v_tB ((v_e2 tv (y := .int c.most) (st2 := st) rfl).trans (by rw [r_gGe]; simp [q]))
      have t2 : tB (e2 gLt (e2 gIx (ePeek 22) (ePeek 26)) (ePeek 16)) (E2 ns v3 v4 v5 v9 v10 v11 v12 v13 v14 { c with hd := c.hd.set j none } es a6 (.val (.int 3)) (.val (.int (j : Int))) a24 a25 (.val (.str x))) st = .ok true st := v_tB ((v_e2 tv (y := .int c.most) (st2 := st) rfl).trans (by rw [r_gLt]; simp [q]))
      have a1 : gAdd (.lst (strL c.as)) (.lst []) st = .ok (.lst (strL c.as)) st := by rw [add_lst (by rw [List.length_map]; simp; omega), List.append_nil]
      have a2 : gAdd (.lst [.str x]) (.lst (strL c.wt)) st = .ok (.lst (strL (x :: c.wt))) st := by rw [add_lst (by rw [List.length_map]; simp; omega)]; rfl
      exact (v_par (v_mVal ((v_e2 (x := .lst (strL c.as)) (st1 := st) rfl (v_eIfF t1)).trans a1) (v_mVal ((v_e2 (v_eIfT t2) (y := .lst (strL c.wt)) (st2 := st) rfl).trans a2) rfl)) rfl).trans rfl
    · rw [show fallen c j x = { c with hd := c.hd.set j none, as := c.as ++ [x] } by unfold fallen; rw [if_neg q]]
      have t1 : tB (e2 gGe (e2 gIx (ePeek 22) (ePeek 26)) (ePeek 16)) (E2 ns v3 v4 v5 v9 v10 v11 v12 v13 v14 { c with hd := c.hd.set j none } es a6 (.val (.int 3)) (.val (.int (j : Int))) a24 a25 (.val (.str x))) st = .ok true st := v_tB ((v_e2 tv (y := .int c.most) (st2 := st) rfl).trans (by rw [r_gGe]; simp; omega))
      have t2 : tB (e2 gLt (e2 gIx (ePeek 22) (ePeek 26)) (ePeek 16)) (E2 ns v3 v4 v5 v9 v10 v11 v12 v13 v14 { c with hd := c.hd.set j none } es a6 (.val (.int 3)) (.val (.int (j : Int))) a24 a25 (.val (.str x))) st = .ok false st := v_tB ((v_e2 tv (y := .int c.most) (st2 := st) rfl).trans (by rw [r_gLt]; simp; omega))
      have a1 := app_l c.as x (by omega) st
      have a2 : gAdd (.lst []) (.lst (strL c.wt)) st = .ok (.lst (strL c.wt)) st := by rw [add_lst (by rw [List.length_map]; simp; omega)]; rfl
      exact (v_par (v_mVal ((v_e2 (x := .lst (strL c.as)) (st1 := st) rfl (v_eIfT t1)).trans a1) (v_mVal ((v_e2 (v_eIfF t2) (y := .lst (strL c.wt)) (st2 := st) rfl).trans a2) rfl)) rfl).trans rfl
  have s60 : x_law_60 (E2 ns v3 v4 v5 v9 v10 v11 v12 v13 v14 c es a6 (.val (.int 3)) (.val (.int (j : Int))) a24 a25 a26) st = .nx (E2 ns v3 v4 v5 v9 v10 v11 v12 v13 v14 (fallen c j x) es a6 (.val (.int 3)) (.val (.int (j : Int))) a24 a25 (.val (.str x))) st := by
    unfold x_law_60
    rw [v_ifT (st1 := st) ((v_andT (st1 := st) rfl).trans (v_tB ((v_e2 i1 rfl).trans rfl))), seq_nx s58, s59]
  unfold four
  rw [seq_nx (show x_law_52 (E2 ns v3 v4 v5 v9 v10 v11 v12 v13 v14 c es a6 (.val (.int 3)) (.val (.int (j : Int))) a24 a25 a26) st = .nx (E2 ns v3 v4 v5 v9 v10 v11 v12 v13 v14 c es a6 (.val (.int 3)) (.val (.int (j : Int))) a24 a25 a26) st from rfl), seq_nx (show x_law_55 (E2 ns v3 v4 v5 v9 v10 v11 v12 v13 v14 c es a6 (.val (.int 3)) (.val (.int (j : Int))) a24 a25 a26) st = .nx (E2 ns v3 v4 v5 v9 v10 v11 v12 v13 v14 c es a6 (.val (.int 3)) (.val (.int (j : Int))) a24 a25 a26) st from rfl), seq_nx (show x_law_57 (E2 ns v3 v4 v5 v9 v10 v11 v12 v13 v14 c es a6 (.val (.int 3)) (.val (.int (j : Int))) a24 a25 a26) st = .nx (E2 ns v3 v4 v5 v9 v10 v11 v12 v13 v14 c es a6 (.val (.int 3)) (.val (.int (j : Int))) a24 a25 a26) st from rfl), s60]
end
end Lw
namespace Lw
open Gh L2 PyProof.Rows PySem.Spec PySem
section
variable {ns : List Int} {v3 v4 v5 v9 v10 v11 v12 v13 v14 a6 a7 a8 a24 a25 a26 : Sl} {c : C} {es : List Dd} {B : D} {k w : Int} {x : Str} {j : Nat} {t : Nat} {st : Store}
abbrev E1 (ns : List Int) (v3 v4 v5 v9 v10 v11 v12 v13 v14 : Sl) (c : C) (es : List Dd) (a6 : Sl) (j : Nat) (a24 a25 a26 : Sl) : REnv := E2 ns v3 v4 v5 v9 v10 v11 v12 v13 v14 c es a6 (.val (.int 1)) (.val (.int (j : Int))) a24 a25 a26
/-- nothing is taken: the hand holds, or nothing waits -/
theorem four_take_no (hj : j < c.hd.length) (hx : c.hd[j] ≠ none ∨ c.wt = []) (hk : ∀ z ∈ c.wt, z ∈ jobs) : four (E1 ns v3 v4 v5 v9 v10 v11 v12 v13 v14 c es a6 j a24 a25 a26) st = .nx (E1 ns v3 v4 v5 v9 v10 v11 v12 v13 v14 c es a6 j a24 a25 a26) st := by
  have i1 := held_non (c := c) (st := st) hj (ρ := E1 ns v3 v4 v5 v9 v10 v11 v12 v13 v14 c es a6 j a24 a25 a26) rfl rfl
  have n : tB (e2 gIs (e2 gIx (ePeek 19) (ePeek 8)) (eC .non)) (E1 ns v3 v4 v5 v9 v10 v11 v12 v13 v14 c es a6 j a24 a25 a26) st = .ok (decide (c.hd[j] = none)) st := v_tB ((v_e2 i1 rfl).trans (by rw [r_gIs, isNon_opt]))
  have m : tB (e2 gNe (ePeek 18) (eLst aNil)) (E1 ns v3 v4 v5 v9 v10 v11 v12 v13 v14 c es a6 j a24 a25 a26) st = .ok (!c.wt.isEmpty) st := v_tB ((v_e2 (x := .lst (strL c.wt)) (y := .lst []) (st1 := st) (st2 := st) rfl rfl).trans (strs_ne _ (fun z hz n => job_ok (hk z hz) n) st))
  have s55 : x_law_55 (E1 ns v3 v4 v5 v9 v10 v11 v12 v13 v14 c es a6 j a24 a25 a26) st = .nx (E1 ns v3 v4 v5 v9 v10 v11 v12 v13 v14 c es a6 j a24 a25 a26) st := by
    unfold x_law_55
    rw [v_ifF (st1 := st)]
    · rfl
    rw [v_andT (st1 := st) rfl]
    by_cases q : c.hd[j] = none
    · rw [v_andT (n.trans (by rw [decide_eq_true q])), m]
      rcases hx with h | h
      · exact absurd q h
      · rw [h]; rfl
    · exact v_andF (n.trans (by rw [decide_eq_false q]))
  unfold four
  rw [seq_nx (show x_law_52 (E1 ns v3 v4 v5 v9 v10 v11 v12 v13 v14 c es a6 j a24 a25 a26) st = .nx (E1 ns v3 v4 v5 v9 v10 v11 v12 v13 v14 c es a6 j a24 a25 a26) st from rfl), seq_nx s55]
  rfl
theorem four_take (hj : j < c.hd.length) (hx : c.hd[j] = none) {r : List Str} (hw : c.wt = x :: r) (ck : Ck c t) (ht : t < 900) (hk : ∀ z ∈ c.wt, z ∈ jobs) : four (E1 ns v3 v4 v5 v9 v10 v11 v12 v13 v14 c es a6 j a24 a25 a26) st = .nx (E1 ns v3 v4 v5 v9 v10 v11 v12 v13 v14 (takenC c j x r) es a6 j a24 a25 a26) st := by
  have l2 := ck.lt
  have mem : x ∈ c.tk.map (·.1) := ck.wk x (by rw [hw]; exact List.mem_cons_self)
  have i1 := held_non (c := c) (st := st) hj (ρ := E1 ns v3 v4 v5 v9 v10 v11 v12 v13 v14 c es a6 j a24 a25 a26) rfl rfl
  rw [hx] at i1
  have m : tB (e2 gNe (ePeek 18) (eLst aNil)) (E1 ns v3 v4 v5 v9 v10 v11 v12 v13 v14 c es a6 j a24 a25 a26) st = .ok true st := v_tB ((v_e2 (x := .lst (strL c.wt)) (y := .lst []) (st1 := st) (st2 := st) rfl rfl).trans ((strs_ne _ (fun z hz n => job_ok (hk z hz) n) st).trans (by rw [hw]; rfl)))
  have s53 : x_law_53 (E1 ns v3 v4 v5 v9 v10 v11 v12 v13 v14 c es a6 j a24 a25 a26) st = .nx (E1 ns v3 v4 v5 v9 v10 v11 v12 v13 v14 { c with wt := r, hd := c.hd.set j (some x) } es a6 j a24 a25 a26) st := by
    unfold x_law_53
    have g0 : gIx (.lst (strL c.wt)) (.int 0) st = .ok (.str x) st := by
      rw [hw]
      simp [gIx, itemsOf, atI, L2.ixN]
    have g1 : eCutL (ePeek 18) (oSome (eC (.int 1))) oNone (E1 ns v3 v4 v5 v9 v10 v11 v12 v13 v14 c es a6 j a24 a25 a26) st = .ok (.lst (strL r)) st := by
      rw [r_cutL, show ePeek 18 (E1 ns v3 v4 v5 v9 v10 v11 v12 v13 v14 c es a6 j a24 a25 a26) st = .ok (.lst (strL c.wt)) st from rfl]
      show RC.ok (D.lst (Gh.cutD (strL c.wt) (some ((1 : Nat) : Int)) none)) _ = _
      rw [cut_from' _ _ (by rw [hw]; simp), hw]
      rfl
    rw [r_many]
    rw [v_mVal ((v_e2 (x := .lst (strL c.wt)) (y := .int 0) (st1 := st) (st2 := st) rfl rfl).trans g0) (v_mVal g1 rfl)]
    have l3 : L2.ixN (optL c.hd).length (j : Int) = some j := by
      unfold L2.ixN
      rw [List.length_map, if_pos (by omega), if_pos (by omega)]
      simp
    have p1 : putAt 19 (eVar 8) (.str x) (E1 ns v3 v4 v5 v9 v10 v11 v12 v13 v14 c es a6 j a24 a25 a26) st = some (_, _) := putAt_l (xs := optL c.hd) (n := (j : Int)) rfl rfl l3 rfl
    show (match pdPut 19 (eVar 8) (pdName 18 pdNil) [(.str x, false), (.lst (strL r), false)] (E1 ns v3 v4 v5 v9 v10 v11 v12 v13 v14 c es a6 j a24 a25 a26) st with | some (ρ', st') => SR.nx ρ' st' | none => .bad) = _
    rw [r_pdPut, p1]
    have e : (optL c.hd).set j (.str x) = optL (c.hd.set j (some x)) := by
      show (c.hd.map optD).set j (optD (some x)) = (c.hd.set j (some x)).map optD
      rw [List.map_set]
    rw [e]
    rfl
  have s54 : x_law_54 (E1 ns v3 v4 v5 v9 v10 v11 v12 v13 v14 { c with wt := r, hd := c.hd.set j (some x) } es a6 j a24 a25 a26) st = .nx (E1 ns v3 v4 v5 v9 v10 v11 v12 v13 v14 (takenC c j x r) es a6 j a24 a25 a26) st := by
    unfold x_law_54
    have i2 : e2 gIx (ePeek 19) (ePeek 8) (E1 ns v3 v4 v5 v9 v10 v11 v12 v13 v14 { c with wt := r, hd := c.hd.set j (some x) } es a6 j a24 a25 a26) st = .ok (.str x) st := (held_non (c := { c with wt := r, hd := c.hd.set j (some x) }) (st := st) (by show j < (c.hd.set j (some x)).length; rw [List.length_set]; exact hj) rfl rfl).trans (by simp [optD])
    have v : gIx (.dct (upD c.tk)) (.str x) st = .ok (.int (tkOf c.tk x)) st := by simp [gIx, ck.tkv mem]
    have i3 : e2 gAddI (e2 gIx (ePeek 22) (e2 gIx (ePeek 19) (ePeek 8))) (eC (.int 1)) (E1 ns v3 v4 v5 v9 v10 v11 v12 v13 v14 { c with wt := r, hd := c.hd.set j (some x) } es a6 j a24 a25 a26) st = .ok (.int (tkOf c.tk x + 1)) st := (v_e2 ((v_e2 (x := .dct (upD c.tk)) (st1 := st) rfl i2).trans v) rfl).trans rfl
    rw [r_put, i3]
    have p1 : putAt 22 (e2 gIx (ePeek 19) (ePeek 8)) (.int (tkOf c.tk x + 1)) (E1 ns v3 v4 v5 v9 v10 v11 v12 v13 v14 { c with wt := r, hd := c.hd.set j (some x) } es a6 j a24 a25 a26) st = some (_, _) := putAt_d (kvs := upD c.tk) (y := .str x) rfl i2 rfl (by rw [upD, List.length_map]; omega) rfl
    show (match putAt 22 (e2 gIx (ePeek 19) (ePeek 8)) (.int (tkOf c.tk x + 1)) (E1 ns v3 v4 v5 v9 v10 v11 v12 v13 v14 { c with wt := r, hd := c.hd.set j (some x) } es a6 j a24 a25 a26) st with | some (ρ', st') => SR.nx ρ' st' | none => .bad) = _
    rw [p1, tk_put mem]
    have ke := keys_tkPut c.tk x (tkOf c.tk x + 1)
    show SR.nx _ st = SR.nx (E2 ns v3 v4 v5 v9 v10 v11 v12 v13 v14 (takenC c j x r) es a6 (.val (.int 1)) (.val (.int (j : Int))) a24 a25 a26) st
    unfold E2
    rw [show ((takenC c j x r).tk.map fun p => p.1) = c.tk.map (fun p => p.1) from ke]
    rfl
  have s55 : x_law_55 (E1 ns v3 v4 v5 v9 v10 v11 v12 v13 v14 c es a6 j a24 a25 a26) st = .nx (E1 ns v3 v4 v5 v9 v10 v11 v12 v13 v14 (takenC c j x r) es a6 j a24 a25 a26) st := by
    unfold x_law_55
    rw [v_ifT (st1 := st) ((v_andT (st1 := st) rfl).trans ((v_andT (v_tB ((v_e2 i1 rfl).trans rfl))).trans m)), seq_nx s53, s54]
  unfold four
  rw [seq_nx (show x_law_52 (E1 ns v3 v4 v5 v9 v10 v11 v12 v13 v14 c es a6 j a24 a25 a26) st = .nx (E1 ns v3 v4 v5 v9 v10 v11 v12 v13 v14 c es a6 j a24 a25 a26) st from rfl), seq_nx s55]
  rfl
end
end Lw
namespace Lw
open Gh L2 PyProof.Rows PySem.Spec PySem
theorem runC_app : ∀ (es : List Dd) (c : C) (fs : List Dd), runC c (es ++ fs) = runC (runC c es) fs
  | [], c, fs => rfl
  | e :: r, c, fs => runC_app r (step c e) fs
theorem canAll_app : ∀ (es : List Dd) (c : C) (fs : List Dd), canAll c es → canAll (runC c es) fs → canAll c (es ++ fs)
  | [], c, fs, _, h => h
  | e :: r, c, fs, h1, h2 => ⟨h1.1, canAll_app r (step c e) fs h1.2 h2⟩
section
variable {ns : List Int} {v3 v4 v5 v9 v10 v11 v12 v13 v14 a6 a7 a8 a24 a25 a26 : Sl} {c : C} {es : List Dd} {B : D} {k w : Int} {x : Str} {j : Nat} {t : Nat} {st : Store}
/-- what a turn makes: the crew goes the deed's step -/
theorem four_ok (hj : j < c.hd.length) (ck : Ck c t) (ht : t < 900) (hk : ∀ z ∈ c.tk.map (·.1), z ∈ jobs) (hx : x ∈ jobs) (h0 : 0 ≤ w ∧ w < 4) : ∃ (c' : C) (b26 : Sl), c' = runC c (deedOf c w x j).toList ∧ (∀ e ∈ (deedOf c w x j).toList, can c e) ∧
    four (E2 ns v3 v4 v5 v9 v10 v11 v12 v13 v14 c es a6 (.val (.int w)) (.val (.int (j : Int))) (.val (.str x)) a25 a26) st = .nx (E2 ns v3 v4 v5 v9 v10 v11 v12 v13 v14 c' es a6 (.val (.int w)) (.val (.int (j : Int))) (.val (.str x)) a25 b26) st := by
  have e0 : c.hd[j]? = some c.hd[j] := List.getElem?_eq_getElem hj
  have hw : ∀ z ∈ c.wt, z ∈ jobs := fun z hz => hk z (ck.wk z hz)
  have : w = 0 ∨ w = 1 ∨ w = 2 ∨ w = 3 := by omega
  rcases this with rfl | rfl | rfl | rfl
  · by_cases q : x ∈ c.tk.map (fun p => p.1)
    · have d : deedOf c 0 x j = none := by unfold deedOf; rw [if_pos rfl, if_pos q]
      exact ⟨c, a26, by rw [d]; rfl, by rw [d]; simp, four_give_no q⟩
    · have d : deedOf c 0 x j = some (.give x) := by unfold deedOf; rw [if_pos rfl, if_neg q]
      exact ⟨_, a26, by rw [d]; rfl, by rw [d]; simp; exact ⟨by simpa using hx, by simpa using q⟩, four_give ck ht q⟩
  · cases p : c.hd[j] with
    | some y =>
      have d : deedOf c 1 x j = none := by unfold deedOf; rw [if_neg (by decide), if_pos rfl, e0, p]; rfl
      exact ⟨c, a26, by rw [d]; rfl, by rw [d]; simp, four_take_no hj (.inl (by rw [p]; simp)) hw⟩
    | none =>
      have d : deedOf c 1 x j = some (.take j) := by unfold deedOf; rw [if_neg (by decide), if_pos rfl, e0, p]; rfl
      have cn : ∀ e ∈ (deedOf c 1 x j).toList, can c e := by rw [d]; simp; show c.hd[j]? = some none; rw [e0, p]
      cases q : c.wt with
      | nil => exact ⟨c, a26, by rw [d]; exact (step_take0 q).symm, cn, four_take_no hj (.inr q) hw⟩
      | cons y r => exact ⟨takenC c j y r, a26, by rw [d]; exact (step_take q).symm, cn, four_take hj p q ck ht hw⟩
  · cases p : c.hd[j] with
    | none =>
      have d : deedOf c 2 x j = none := by unfold deedOf; rw [if_neg (by decide), if_neg (by decide), if_pos rfl, e0, p]; rfl
      exact ⟨c, a26, by rw [d]; rfl, by rw [d]; simp, four_no hj p (.inl rfl)⟩
    | some y =>
      have d : deedOf c 2 x j = some (.fin j) := by unfold deedOf; rw [if_neg (by decide), if_neg (by decide), if_pos rfl, e0, p]; rfl
      exact ⟨finished c j y, a26, by rw [d]; exact (step_fin (by rw [e0, p])).symm, by rw [d]; simp; exact ⟨y, by rw [e0, p]⟩, four_fin hj p ck ht⟩
  · have d : deedOf c 3 x j = some (.fall j) := by unfold deedOf; rw [if_neg (by decide), if_neg (by decide), if_neg (by decide)]
    have cn : ∀ e ∈ (deedOf c 3 x j).toList, can c e := by rw [d]; simp; exact hj
    cases p : c.hd[j] with
    | none => exact ⟨c, a26, by rw [d]; exact (step_fall0 (by rw [e0, p])).symm, cn, four_no hj p (.inr rfl)⟩
    | some y => exact ⟨fallen c j y, .val (.str y), by rw [d]; exact (step_fall (by rw [e0, p])).symm, cn, four_fall hj p ck ht⟩
end
end Lw
namespace Lw
open Gh L2 PyProof.Rows PySem.Spec PySem
/-- what holds of deeds and crew -/
structure Run (many most : Int) (c : C) (es : List Dd) (t : Nat) : Prop where
  ck : Ck c t
  is : c = runC (c0 many most) es
  cn : canAll (c0 many most) es
  fn : ∀ e ∈ es, fine many e
  jb : ∀ z ∈ c.tk.map (·.1), z ∈ jobs
  mn : c.many = many
  mo : c.most = most
  le : es.length ≤ t
theorem deed_fine {c : C} {w : Int} {x : Str} {j : Nat} {many : Int} (hx : x ∈ jobs) (hj : (j : Int) < many) : ∀ e ∈ (deedOf c w x j).toList, fine many e := fun e he => by
  unfold deedOf at he
  split at he
  · split at he
    · simp at he
    · simp at he; subst he; exact hx
  · split at he
    · split at he
      · simp at he; subst he; exact hj
      · simp at he
    · split at he
      · split at he
        · simp at he
        · simp at he; subst he; exact hj
      · simp at he; subst he; exact hj
section
variable {ns : List Int} {v3 v4 v5 v9 v10 v11 v12 v13 v14 a6 a7 a8 a24 a25 a26 : Sl} {c : C} {es : List Dd} {B : D} {k w : Int} {x : Str} {j : Nat} {t : Nat} {many most : Int}
theorem turn2 (hl : ns.length ≤ 63) (hk : 0 ≤ k) (hm : 1 ≤ many ∧ many ≤ 3) (r : Run many most c es t) (ht : t < 800) : ∃ (c' : C) (es' : List Dd) (b7 b8 b24 b25 b26 : Sl), Run many most c' es' (t + 1) ∧
    lb_law_18 (E2 ns v3 v4 v5 v9 v10 v11 v12 v13 v14 c es a6 a7 a8 a24 a25 a26) [A ns k, B] = .nx (E2 ns v3 v4 v5 v9 v10 v11 v12 v13 v14 c' es' a6 b7 b8 b24 b25 b26) [A ns (k + 3), B] := by
  have mn := r.mn
  have le := r.le
  obtain ⟨w, x, j, h0, h1, hx, hj, e1⟩ := draws2 (v3 := v3) (v4 := v4) (v5 := v5) (v9 := v9) (v10 := v10) (v11 := v11) (v12 := v12) (v13 := v13) (v14 := v14) (a6 := a6) (a7 := a7) (a8 := a8) (a24 := a24) (a25 := a25) (a26 := a26) (es := es) (B := B) hl hk (c := c) (by omega)
  have lm := r.ck.lm
  have hj2 : j < c.hd.length := by omega
  have e2' := can_ok (v3 := v3) (v4 := v4) (v5 := v5) (v9 := v9) (v10 := v10) (v11 := v11) (v12 := v12) (v13 := v13) (v14 := v14) (a6 := a6) (a25 := a25) (a26 := a26) (es := es) (c := c) (x := x) (w := w) (ns := ns) (st := [A ns (k + 3), B]) hj2 ⟨h0, h1⟩
  have e3 := deeds_add (v3 := v3) (v4 := v4) (v5 := v5) (v9 := v9) (v10 := v10) (v11 := v11) (v12 := v12) (v13 := v13) (v14 := v14) (a6 := a6) (a26 := a26) (es := es) (c := c) (x := x) (j := j) (w := w) (ns := ns) (st := [A ns (k + 3), B]) ⟨h0, h1⟩ (by omega)
  obtain ⟨c', b26, hc, cn, e4⟩ := four_ok (v3 := v3) (v4 := v4) (v5 := v5) (v9 := v9) (v10 := v10) (v11 := v11) (v12 := v12) (v13 := v13) (v14 := v14) (a6 := a6) (a25 := .val (.bl (deedOf c w x j).isSome)) (a26 := a26) (es := es ++ (deedOf c w x j).toList) (ns := ns) (st := [A ns (k + 3), B]) hj2 r.ck (by omega) r.jb hx ⟨h0, h1⟩
  refine ⟨c', es ++ (deedOf c w x j).toList, .val (.int w), .val (.int (j : Int)), .val (.str x), .val (.bl (deedOf c w x j).isSome), b26, ?_, ?_⟩
  rotate_left
  · unfold lb_law_18
    rw [seq_nx e1, seq_nx e2', seq_nx e3]
    exact e4
  have lend : (deedOf c w x j).toList.length ≤ 1 := by cases deedOf c w x j <;> simp
  have key : Ck c' (t + 1) ∧ (∀ z ∈ c'.tk.map (·.1), z ∈ jobs) ∧ c'.many = c.many ∧ c'.most = c.most ∧ canAll c (deedOf c w x j).toList := by
    cases d : deedOf c w x j with
    | none =>
      rw [d] at hc
      have hc : c' = c := hc
      subst hc
      exact ⟨r.ck.up1, r.jb, rfl, rfl, trivial⟩
    | some e =>
      rw [d] at hc cn
      have hc : c' = step c e := hc
      subst hc
      have ce := cn e (by simp)
      obtain ⟨q1, q2, q3, q4⟩ := r.ck.step r.jb e ce
      exact ⟨q1, q2, q3, q4, ce, trivial⟩
  obtain ⟨q1, q2, q3, q4, q5⟩ := key
  refine ⟨q1, ?_, canAll_app es _ _ r.cn (by rw [← r.is]; exact q5), fun e he => ?_, q2, q3.trans mn, q4.trans r.mo, ?_⟩
  · rw [runC_app, ← r.is, hc]
  · rcases List.mem_append.mp he with he | he
    · exact r.fn e he
    · exact deed_fine hx (by omega) e he
  · rw [List.length_append]; omega
end
end Lw
namespace Lw
open Gh L2 PyProof.Rows PySem.Spec PySem
section
variable {ns : List Int} {v3 v4 v5 v9 v10 v11 v12 v13 v14 : Sl} {B : D} {many most : Int}
theorem turns2 (hl : ns.length ≤ 63) (hm : 1 ≤ many ∧ many ≤ 3) : ∀ (l : List D) (c : C) (es : List Dd) (t : Nat) (k : Int) (a6 a7 a8 a24 a25 a26 : Sl), Run many most c es t → t + l.length < 800 → 0 ≤ k → ∃ (c' : C) (es' : List Dd) (k' : Int) (b6 b7 b8 b24 b25 b26 : Sl), Run many most c' es' (t + l.length) ∧ 0 ≤ k' ∧
    forGo (bName 6) lb_law_18 l (E2 ns v3 v4 v5 v9 v10 v11 v12 v13 v14 c es a6 a7 a8 a24 a25 a26) [A ns k, B] = .nx (E2 ns v3 v4 v5 v9 v10 v11 v12 v13 v14 c' es' b6 b7 b8 b24 b25 b26) [A ns k', B]
  | [], c, es, t, k, a6, a7, a8, a24, a25, a26, r, ht, hk => ⟨c, es, k, a6, a7, a8, a24, a25, a26, r, hk, rfl⟩
  | d :: l, c, es, t, k, a6, a7, a8, a24, a25, a26, r, ht, hk => by
    simp only [List.length_cons] at ht
    obtain ⟨c1, es1, b7, b8, b24, b25, b26, r1, e⟩ := turn2 (v3 := v3) (v4 := v4) (v5 := v5) (v9 := v9) (v10 := v10) (v11 := v11) (v12 := v12) (v13 := v13) (v14 := v14) (a6 := .val d) (a7 := a7) (a8 := a8) (a24 := a24) (a25 := a25) (a26 := a26) (B := B) hl hk hm r (by omega)
    obtain ⟨c2, es2, k2, d6, d7, d8, d24, d25, d26, r2, hk2, e2'⟩ := turns2 hl hm l c1 es1 (t + 1) (k + 3) (.val d) b7 b8 b24 b25 b26 r1 (by omega) (by omega)
    refine ⟨c2, es2, k2, d6, d7, d8, d24, d25, d26, ?_, hk2, ?_⟩
    · rw [List.length_cons, show t + (l.length + 1) = t + 1 + l.length by omega]
      exact r2
    · unfold forGo
      show (match lb_law_18 (E2 ns v3 v4 v5 v9 v10 v11 v12 v13 v14 c es (.val d) a7 a8 a24 a25 a26) [A ns k, B] with
        | .nx ρ2 st2 => forGo (bName 6) lb_law_18 l ρ2 st2
        | .ct ρ2 st2 => forGo (bName 6) lb_law_18 l ρ2 st2
        | .bk ρ2 st2 => .nx ρ2 st2
        | r => r) = _
      rw [e]
      exact e2'
end
end Lw
namespace Lw
open Gh L2 PyProof.Rows PySem.Spec PySem
theorem check_number_ok {p : Str} {k lo hi : Int} (h : lo ≤ k ∧ k ≤ hi) (st : Store) : m_check_number [.str p, .int k, .int lo, .int hi] st = .ok .non st := by
  refine callD_nx0 (ρ' := [.val (.str p), .val (.int k), .val (.int lo), .val (.int hi)]) rfl ?_
  show b_check_number [.val (.str p), .val (.int k), .val (.int lo), .val (.int hi)] st = _
  unfold b_check_number
  rw [v_ifF (st1 := st)]
  · rfl
  rw [r_tNot, r_tTr, v_call (ds := [.int k, .int lo, .int hi]) (st1 := st) rfl, number_in h]
  rfl
theorem rounds_ok {n m : Int} (hn : 0 ≤ n ∧ n ≤ 9999) (hm : 1 ≤ m ∧ m ≤ 9) (st : Store) : m_rounds [.int n, .int m] st = .ok (.int ((n + m - 1) / m)) st := by
  refine callD_rt0 rfl ?_ rfl
  show b_rounds [.val (.int n), .val (.int m)] st = _
  unfold b_rounds
  rw [seq_nx (v_drop ((v_call (ds := [.str "jobs", .int n, .int 0, .int 9999]) (st1 := st) rfl).trans (check_number_ok hn st)))]
  rw [seq_nx (v_drop ((v_call (ds := [.str "many", .int m, .int 1, .int 9]) (st1 := st) rfl).trans (check_number_ok hm st)))]
  simp [show 0 < m by omega, show m < 1073741824 by omega]
theorem most_ok {n f m : Int} (hn : 0 ≤ n ∧ n ≤ 9999) (hf : 0 ≤ f ∧ f ≤ 9999) (hm : 1 ≤ m ∧ m ≤ 9) (st : Store) : m_most_taken [.int n, .int f, .int m] st = .ok (.int (min (n + f) (n * m))) st := by
  refine callD_rt0 rfl ?_ rfl
  show b_most_taken [.val (.int n), .val (.int f), .val (.int m)] st = _
  unfold b_most_taken
  rw [seq_nx (v_drop ((v_call (ds := [.str "jobs", .int n, .int 0, .int 9999]) (st1 := st) rfl).trans (check_number_ok hn st)))]
  rw [seq_nx (v_drop ((v_call (ds := [.str "falls", .int f, .int 0, .int 9999]) (st1 := st) rfl).trans (check_number_ok hf st)))]
  rw [seq_nx (v_drop ((v_call (ds := [.str "most", .int m, .int 1, .int 9]) (st1 := st) rfl).trans (check_number_ok hm st)))]
  have sm : (Gh.small64 n || Gh.small64 m) = true := by
    have : Gh.small64 n = true := by unfold Gh.small64; simp; omega
    rw [this]; rfl
  simp [sm, gMin2]
  split <;> omega
end Lw
namespace Lw
open Gh L2 PyProof.Rows PySem.Spec PySem
/-- no job gets lost -/
structure Bal (c : C) : Prop where
  dk : ∀ x ∈ c.dn, x ∈ jobs
  ak : ∀ x ∈ c.as, x ∈ jobs
  sm : c.wt.length + c.hd.countP Option.isSome + c.dn.length + c.as.length = c.tk.length
theorem Bal.step {c : C} {t : Nat} (b : Bal c) (k : Ck c t) (hj : ∀ z ∈ c.tk.map (·.1), z ∈ jobs) (e : Dd) (hc : can c e) : Bal (step c e) := by
  have sm := b.sm
  have wj : ∀ x ∈ c.wt, x ∈ jobs := fun x hx => hj x (k.wk x hx)
  have pos : ∀ (j : Nat) (x : Str), c.hd[j]? = some (some x) → 0 < c.hd.countP Option.isSome := fun j x hx => List.countP_pos_iff.mpr ⟨some x, List.mem_of_getElem? hx, rfl⟩
  cases e with
  | give x =>
    refine ⟨b.dk, b.ak, ?_⟩
    show (c.wt ++ [x]).length + c.hd.countP Option.isSome + c.dn.length + c.as.length = (c.tk ++ [(x, (0 : Int))]).length
    simp only [List.length_append, List.length_cons, List.length_nil]
    omega
  | take j =>
    cases hw : c.wt with
    | nil => rw [step_take0 hw]; exact b
    | cons x r =>
      rw [step_take hw]
      refine ⟨b.dk, b.ak, ?_⟩
      obtain ⟨hj1, hj2⟩ := List.getElem?_eq_some_iff.mp (show c.hd[j]? = some none from hc)
      show r.length + (c.hd.set j (some x)).countP Option.isSome + c.dn.length + c.as.length = (tkPut c.tk x (tkOf c.tk x + 1)).length
      rw [List.countP_set hj1, hj2]
      unfold tkPut
      rw [List.length_map]
      rw [hw, List.length_cons] at sm
      simp
      omega
  | fin j =>
    obtain ⟨x, hx⟩ := hc
    rw [step_fin hx]
    obtain ⟨hj1, hj2⟩ := List.getElem?_eq_some_iff.mp hx
    have p := pos j x hx
    refine ⟨fun z hz => ?_, b.ak, ?_⟩
    · have hz : z ∈ c.dn ++ [x] := hz
      rcases List.mem_append.mp hz with hz | hz
      · exact b.dk z hz
      · have hz : z = x := by simpa using hz
        rw [hz]
        exact hj x (k.hk x (List.mem_of_getElem? hx))
    · show c.wt.length + (c.hd.set j none).countP Option.isSome + (c.dn ++ [x]).length + c.as.length = c.tk.length
      rw [List.countP_set hj1, hj2]
      simp
      omega
  | fall j =>
    have hj1 : j < c.hd.length := hc
    cases hx : c.hd[j] with
    | none =>
      rw [step_fall0 (by rw [List.getElem?_eq_getElem hj1, hx])]
      exact b
    | some x =>
      have hx' : c.hd[j]? = some (some x) := by rw [List.getElem?_eq_getElem hj1, hx]
      have p := pos j x hx'
      rw [step_fall hx']
      unfold fallen
      split
      · refine ⟨b.dk, b.ak, ?_⟩
        show (x :: c.wt).length + (c.hd.set j none).countP Option.isSome + c.dn.length + c.as.length = c.tk.length
        rw [List.countP_set hj1, hx]
        simp
        omega
      · refine ⟨b.dk, fun z hz => ?_, ?_⟩
        · have hz : z ∈ c.as ++ [x] := hz
          rcases List.mem_append.mp hz with hz | hz
          · exact b.ak z hz
          · have hz : z = x := by simpa using hz
            rw [hz]
            exact hj x (k.hk x (List.mem_of_getElem? hx'))
        · show c.wt.length + (c.hd.set j none).countP Option.isSome + c.dn.length + (c.as ++ [x]).length = c.tk.length
          rw [List.countP_set hj1, hx]
          simp
          omega
theorem bal_run : ∀ (es : List Dd) (c : C) (t : Nat), Ck c t → (∀ z ∈ c.tk.map (·.1), z ∈ jobs) → Bal c → canAll c es → Bal (runC c es)
  | [], c, t, k, hj, b, hc => b
  | e :: r, c, t, k, hj, b, hc => bal_run r (step c e) (t + 1) (k.step hj e hc.1).1 (k.step hj e hc.1).2.1 (b.step k hj e hc.1) hc.2
theorem bal0 {many most : Int} : Bal (c0 many most) := ⟨fun x hx => (by cases hx), fun x hx => (by cases hx), by
  show 0 + (List.replicate many.toNat (none : Option Str)).countP Option.isSome + 0 + 0 = 0
  rw [List.countP_replicate]
  rfl⟩
end Lw
namespace Lw
open Gh L2 PyProof.Rows PySem.Spec PySem
abbrev E3 (ns : List Int) (v3 v4 v5 v9 v10 v11 v12 v13 v14 : Sl) (c : C) (es : List Dd) (a6 a7 a8 a24 a25 a26 h b28 b29 : Sl) : REnv := [.val (.scr (I ns)), .val (.loc 0), .val (.loc 1), v3, v4, v5, a6, a7, a8, v9, v10, v11, v12, v13, v14,
  .val (.int c.many), .val (.int c.most), .val (.lst (es.map Dd.d)), .val (.lst (strL c.wt)), h, .val (.lst (strL c.dn)), .val (.lst (strL c.as)), .own (.dct (upD c.tk)), .val (.lst (strL (c.tk.map fun p => p.1))), a24, a25, a26,
  .val (CD c), b28, b29, .un, .un, .un, .un]
abbrev hdS (c : C) : Sl := .val (.lst (optL c.hd))
section
variable {ns : List Int} {v3 v4 v5 v9 v10 v11 v12 v13 v14 a6 a7 a8 a24 a25 a26 b28 b29 : Sl} {c : C} {es : List Dd} {B : D} {k : Int} {t : Nat} {st : Store}
theorem hd_cases {c : C} {t : Nat} (k : Ck c t) (h : 1 ≤ c.many ∧ c.many ≤ 3) : (∃ a, c.hd = [a] ∧ c.many = 1) ∨ (∃ a b, c.hd = [a, b] ∧ c.many = 2) ∨ (∃ a b d, c.hd = [a, b, d] ∧ c.many = 3) := by
  have lm := k.lm
  match q : c.hd, lm with
  | [], lm => simp at lm; omega
  | [a], lm => exact .inl ⟨a, rfl, by simpa using lm.symm⟩
  | [a, b], lm => exact .inr (.inl ⟨a, b, rfl, by simpa using lm.symm⟩)
  | [a, b, d], lm => exact .inr (.inr ⟨a, b, d, rfl, by simpa using lm.symm⟩)
  | a :: b :: d :: e :: r, lm => simp at lm; omega
def idl : List (Option Str) → Int → List D
  | [], _ => []
  | none :: r, i => .int i :: idl r (i + 1)
  | some _ :: r, i => idl r (i + 1)
theorem idl_ok : ∀ (l : List (Option Str)) (i : Int) (n : Nat), (idl l i).all (okD n) = true
  | [], _, _ => rfl
  | none :: r, i, n => by
    show (okD n (.int i) && (idl r (i + 1)).all (okD n)) = true
    rw [idl_ok r (i + 1) n]
    cases n <;> rfl
  | some _ :: r, i, n => idl_ok r (i + 1) n
theorem idle_list (k : Ck c t) (h : 1 ≤ c.many ∧ c.many ≤ 3) : m_Crew_idle [CD c] st = .ok (.lst (idl c.hd 0)) st := by
  refine callD_rt0 rfl ?_ rfl
  obtain ⟨many, most, wt, hd, dn, as, tk⟩ := c
  rcases hd_cases k h with ⟨a, e, m⟩ | ⟨a, b, e, m⟩ | ⟨a, b, d, e, m⟩
  · simp only at e m; subst e m; cases a <;> kernel_rfl
  · simp only at e m; subst e m; cases a <;> cases b <;> kernel_rfl
  · simp only at e m; subst e m; cases a <;> cases b <;> cases d <;> kernel_rfl
theorem idle_law (k : Ck c t) (h : 1 ≤ c.many ∧ c.many ≤ 3) : eComp (lRange1 (aCons (eVar 15) aNil)) (bName 8) ct_law_19 (eVar 8) [8] (E3 ns v3 v4 v5 v9 v10 v11 v12 v13 v14 c es a6 a7 a8 a24 a25 a26 (hdS c) b28 b29) st = .ok (.lst (idl c.hd 0)) st := by
  obtain ⟨many, most, wt, hd, dn, as, tk⟩ := c
  rcases hd_cases k h with ⟨a, e, m⟩ | ⟨a, b, e, m⟩ | ⟨a, b, d, e, m⟩
  · simp only at e m; subst e m; cases a <;> kernel_rfl
  · simp only at e m; subst e m; cases a <;> cases b <;> kernel_rfl
  · simp only at e m; subst e m; cases a <;> cases b <;> cases d <;> kernel_rfl
theorem idle_eq (k : Ck c t) (h : 1 ≤ c.many ∧ c.many ≤ 3) : tB (e2 gNe (eN gList (aCons (eMethU [("Crew", m_Crew_idle)] "idle" (eVar 27) aNil) aNil)) (eComp (lRange1 (aCons (eVar 15) aNil)) (bName 8) ct_law_19 (eVar 8) [8])) (E3 ns v3 v4 v5 v9 v10 v11 v12 v13 v14 c es a6 a7 a8 a24 a25 a26 (hdS c) b28 b29) st = .ok false st := by
  have m1 : eMethU [("Crew", m_Crew_idle)] "idle" (eVar 27) aNil (E3 ns v3 v4 v5 v9 v10 v11 v12 v13 v14 c es a6 a7 a8 a24 a25 a26 (hdS c) b28 b29) st = m_Crew_idle [CD c] st := by kernel_rfl
  exact v_tB ((v_e2 ((v_eN1 (m1.trans (idle_list k h))).trans (r_gListL ..)) (idle_law k h)).trans (ne_self (idl_ok c.hd 0 19)))
theorem counts_eq (k : Ck c t) (h : 1 ≤ c.many ∧ c.many ≤ 3) : m_Crew_counts [CD c] st = .ok (.tup [.int (((strL c.wt).length : Nat) : Int), .int ((c.hd.countP Option.isSome : Nat) : Int), .int (((strL c.dn).length : Nat) : Int), .int (((strL c.as).length : Nat) : Int)]) st := by
  refine callD_rt0 rfl ?_ rfl
  obtain ⟨many, most, wt, hd, dn, as, tk⟩ := c
  rcases hd_cases k h with ⟨a, e, m⟩ | ⟨a, b, e, m⟩ | ⟨a, b, d, e, m⟩
  · simp only at e m; subst e m; cases a <;> kernel_rfl
  · simp only at e m; subst e m; cases a <;> cases b <;> kernel_rfl
  · simp only at e m; subst e m; cases a <;> cases b <;> cases d <;> kernel_rfl
theorem held_eq (k : Ck c t) (h : 1 ≤ c.many ∧ c.many ≤ 3) : eN gLen (aCons (eComp (lSeq (eVar 19)) (bName 24) ct_law_20 (eC (.int 0)) [24]) aNil) (E3 ns v3 v4 v5 v9 v10 v11 v12 v13 v14 c es a6 a7 a8 a24 a25 a26 (hdS c) b28 b29) st = .ok (.int ((c.hd.countP Option.isSome : Nat) : Int)) st := by
  obtain ⟨many, most, wt, hd, dn, as, tk⟩ := c
  rcases hd_cases k h with ⟨a, e, m⟩ | ⟨a, b, e, m⟩ | ⟨a, b, d, e, m⟩
  · simp only at e m; subst e m; cases a <;> kernel_rfl
  · simp only at e m; subst e m; cases a <;> cases b <;> kernel_rfl
  · simp only at e m; subst e m; cases a <;> cases b <;> cases d <;> kernel_rfl
theorem okL {l : List Str} (h : ∀ x ∈ l, x ∈ jobs) (n : Nat) : (strL l).all (okD n) = true := okD_map n D.str l fun x hx => job_ok (h x hx) n
theorem okO {l : List (Option Str)} (h : ∀ x, some x ∈ l → x ∈ jobs) (n : Nat) : (optL l).all (okD n) = true := okD_map n optD l fun x hx => by
  cases x with
  | none => cases n <;> rfl
  | some s => exact job_ok (h s hx) n
theorem chk1 (k : Ck c t) (h : 1 ≤ c.many ∧ c.many ≤ 3) (hj : ∀ z ∈ c.tk.map (·.1), z ∈ jobs) (b : Bal c) : x_law_66 (E3 ns v3 v4 v5 v9 v10 v11 v12 v13 v14 c es a6 a7 a8 a24 a25 a26 (.own (.lst (optL c.hd))) b28 b29) st = .nx (E3 ns v3 v4 v5 v9 v10 v11 v12 v13 v14 c es a6 a7 a8 a24 a25 a26 (hdS c) b28 b29) st := by
  unfold x_law_66
  rw [r_frz]
  show sIf _ _ _ (E3 ns v3 v4 v5 v9 v10 v11 v12 v13 v14 c es a6 a7 a8 a24 a25 a26 (hdS c) b28 b29) st = _
  have w1 : ∀ x ∈ c.wt, x ∈ jobs := fun x hx => hj x (k.wk x hx)
  have w2 : ∀ x, some x ∈ c.hd → x ∈ jobs := fun x hx => hj x (k.hk x hx)
  rw [v_ifF (st1 := st)]
  · rfl
  rw [v_orF (st1 := st) (v_tB ((v_e2 (x := .tup [.lst (strL c.wt), .lst (optL c.hd), .lst (strL c.dn), .lst (strL c.as)]) (y := .tup [.lst (strL c.wt), .lst (optL c.hd), .lst (strL c.dn), .lst (strL c.as)]) (st1 := st) (st2 := st) (by kernel_rfl) (by kernel_rfl)).trans (ne_self (by
    show ([D.lst (strL c.wt), .lst (optL c.hd), .lst (strL c.dn), .lst (strL c.as)].all (okD 19)) = true
    simp only [List.all_cons, List.all_nil, Bool.and_true]
    show ((strL c.wt).all (okD 18) && ((optL c.hd).all (okD 18) && ((strL c.dn).all (okD 18) && (strL c.as).all (okD 18)))) = true
    rw [okL w1, okO w2, okL b.dk, okL b.ak]
    rfl))))]
  rw [v_orF (st1 := st) (v_tB ((v_e2 (x := .dct (upD c.tk)) (y := .dct (upD c.tk)) (st1 := st) (st2 := st) (by kernel_rfl) (by kernel_rfl)).trans (eqDct_self (fun p hp => by
    unfold upD at hp
    obtain ⟨q, hq, rfl⟩ := List.mem_map.mp hp
    exact ⟨val_of (α := Str × Int) (fun p => p.1) (fun p => D.int p.2) k.nt hq, rfl⟩) st)))]
  exact idle_eq k h
theorem chk2 (k : Ck c t) (h : 1 ≤ c.many ∧ c.many ≤ 3) (b : Bal c) : x_law_69 (E3 ns v3 v4 v5 v9 v10 v11 v12 v13 v14 c es a6 a7 a8 a24 a25 a26 (hdS c) b28 b29) st = .nx (E3 ns v3 v4 v5 v9 v10 v11 v12 v13 v14 c es a6 a7 a8 a24 a25 a26 (hdS c) b28 b29) st := by
  unfold x_law_69
  rw [r_frz]
  show sIf _ _ _ (E3 ns v3 v4 v5 v9 v10 v11 v12 v13 v14 c es a6 a7 a8 a24 a25 a26 (hdS c) b28 b29) st = _
  have m1 : eMethU [("Crew", m_Crew_counts)] "counts" (eVar 27) aNil (E3 ns v3 v4 v5 v9 v10 v11 v12 v13 v14 c es a6 a7 a8 a24 a25 a26 (hdS c) b28 b29) st = m_Crew_counts [CD c] st := by kernel_rfl
  have m2 := m1.trans (counts_eq k h)
  rw [v_ifF (st1 := st)]
  · rfl
  rw [v_orF (st1 := st) (v_tB ((v_e2 ((v_eN1 m2).trans rfl) (y := .tup [.int (((strL c.wt).length : Nat) : Int), .int ((c.hd.countP Option.isSome : Nat) : Int), .int (((strL c.dn).length : Nat) : Int), .int (((strL c.as).length : Nat) : Int)]) (st2 := st) (by
    rw [r_tup, v_cons (x := .int (((strL c.wt).length : Nat) : Int)) (st1 := st) rfl (v_cons (held_eq k h) (v_cons (x := .int (((strL c.dn).length : Nat) : Int)) (st1 := st) rfl (v_cons (x := .int (((strL c.as).length : Nat) : Int)) (st1 := st) rfl (rfl : aNil _ _ = .ok [] _))))]
    rfl)).trans (ne_self rfl)))]
  have sm := b.sm
  refine v_tB ((v_e2 (x := .int ([(((strL c.wt).length : Nat) : Int), ((c.hd.countP Option.isSome : Nat) : Int), (((strL c.dn).length : Nat) : Int), (((strL c.as).length : Nat) : Int)].sum)) (y := .int (((strL (c.tk.map fun p => p.1)).length : Nat) : Int)) (st1 := st) (st2 := st) ((v_eN1 ((v_eN1 m2).trans rfl)).trans rfl) rfl).trans ?_)
  rw [r_neII]
  simp only [List.sum_cons, List.sum_nil, List.length_map]
  rw [decide_eq_true (by omega)]
  rfl
end
end Lw
namespace Lw
open Gh L2 PyProof.Rows PySem.Spec PySem
section
variable {ns : List Int} {v3 v4 v5 v9 v10 v11 v12 v13 v14 a6 a7 a8 a9 a10 a11 a12 a13 a14 a24 a25 a26 b28 b29 : Sl} {c : C} {es : List Dd} {B : D} {k : Int} {t : Nat} {st : Store} {s : S}
theorem last_ok (hl : ns.length ≤ 63) (hk : 0 ≤ k) (h1 : 1 ≤ c.many ∧ c.many ≤ 3) (h2 : 1 ≤ c.most ∧ c.most ≤ 3) (h : Sl) : ∃ k', sSeq x_law_70 x_law_71 (E3 ns v3 v4 v5 v9 v10 v11 v12 v13 v14 c es a6 a7 a8 a24 a25 a26 h b28 b29) [A ns k, B] = .rt (.bl true) [A ns k', B] := by
  obtain ⟨n, g1, g2, e1⟩ := take_ok ns k 40 [B] hk (by decide) hl
  obtain ⟨f, g3, g4, e2'⟩ := take_ok ns (k + 1) 20 [B] (by omega) (by decide) hl
  refine ⟨k + 1 + 1, ?_⟩
  have w1 : eCall m__law_take (aCons (eVar 1) (aCons (eC (.int 40)) aNil)) (E3 ns v3 v4 v5 v9 v10 v11 v12 v13 v14 c es a6 a7 a8 a24 a25 a26 h b28 b29) [A ns k, B] = .ok (.int n) [A ns (k + 1), B] := (v_call (ds := [.loc 0, .int 40]) rfl).trans e1
  have w2 : eCall m__law_take (aCons (eVar 1) (aCons (eC (.int 20)) aNil)) (E3 ns v3 v4 v5 v9 v10 v11 v12 v13 v14 c es a6 a7 a8 a24 a25 a26 h b28 b29) [A ns (k + 1), B] = .ok (.int f) [A ns (k + 1 + 1), B] := (v_call (ds := [.loc 0, .int 20]) rfl).trans e2'
  have s1 : x_law_70 (E3 ns v3 v4 v5 v9 v10 v11 v12 v13 v14 c es a6 a7 a8 a24 a25 a26 h b28 b29) [A ns k, B] = .nx (E3 ns v3 v4 v5 v9 v10 v11 v12 v13 v14 c es a6 a7 a8 a24 a25 a26 h (.val (.int n)) (.val (.int f))) [A ns (k + 1 + 1), B] := by
    unfold x_law_70
    exact (v_par (v_mVal w1 (v_mVal w2 rfl)) rfl).trans rfl
  rw [seq_nx s1]
  unfold x_law_71
  generalize [A ns (k + 1 + 1), B] = st
  have q1 : eCall m_rounds (aCons (eVar 28) (aCons (eVar 15) aNil)) (E3 ns v3 v4 v5 v9 v10 v11 v12 v13 v14 c es a6 a7 a8 a24 a25 a26 h (.val (.int n)) (.val (.int f))) st = .ok (.int ((n + c.many - 1) / c.many)) st := (v_call (ds := [.int n, .int c.many]) (st1 := st) rfl).trans (rounds_ok ⟨g1, by omega⟩ ⟨h1.1, by omega⟩ st)
  have q2 : eCall m_most_taken (aCons (eVar 28) (aCons (eVar 29) (aCons (eVar 16) aNil))) (E3 ns v3 v4 v5 v9 v10 v11 v12 v13 v14 c es a6 a7 a8 a24 a25 a26 h (.val (.int n)) (.val (.int f))) st = .ok (.int (min (n + f) (n * c.most))) st := (v_call (ds := [.int n, .int f, .int c.most]) (st1 := st) rfl).trans (most_ok ⟨g1, by omega⟩ ⟨g3, by omega⟩ ⟨h2.1, by omega⟩ st)
  have q3 : eCall m_most_taken (aCons (eVar 28) (aCons (eC (.int 0)) (aCons (eVar 16) aNil))) (E3 ns v3 v4 v5 v9 v10 v11 v12 v13 v14 c es a6 a7 a8 a24 a25 a26 h (.val (.int n)) (.val (.int f))) st = .ok (.int (min (n + 0) (n * c.most))) st := (v_call (ds := [.int n, .int 0, .int c.most]) (st1 := st) rfl).trans (most_ok ⟨g1, by omega⟩ ⟨by omega, by omega⟩ ⟨h2.1, by omega⟩ st)
  have q4 : eCall m_most_taken (aCons (eC (.int 0)) (aCons (eVar 29) (aCons (eVar 16) aNil))) (E3 ns v3 v4 v5 v9 v10 v11 v12 v13 v14 c es a6 a7 a8 a24 a25 a26 h (.val (.int n)) (.val (.int f))) st = .ok (.int (min (0 + f) (0 * c.most))) st := (v_call (ds := [.int 0, .int f, .int c.most]) (st1 := st) rfl).trans (most_ok ⟨by omega, by omega⟩ ⟨g3, by omega⟩ ⟨h2.1, by omega⟩ st)
  refine v_ret ?_
  have hm : n ≤ n * c.most := by
    have := Int.mul_le_mul_of_nonneg_left (show (1 : Int) ≤ c.most by omega) g1
    omega
  have p28 : ePeek 28 (E3 ns v3 v4 v5 v9 v10 v11 v12 v13 v14 c es a6 a7 a8 a24 a25 a26 h (.val (.int n)) (.val (.int f))) st = .ok (.int n) st := rfl
  have p15 : ePeek 15 (E3 ns v3 v4 v5 v9 v10 v11 v12 v13 v14 c es a6 a7 a8 a24 a25 a26 h (.val (.int n)) (.val (.int f))) st = .ok (.int c.many) st := rfl
  have p16 : ePeek 16 (E3 ns v3 v4 v5 v9 v10 v11 v12 v13 v14 c es a6 a7 a8 a24 a25 a26 h (.val (.int n)) (.val (.int f))) st = .ok (.int c.most) st := rfl
  have sm : (Gh.small64 n || Gh.small64 c.most) = true := by
    have : Gh.small64 n = true := by unfold Gh.small64; simp; omega
    rw [this]; rfl
  have r2 : e2 gFdiv (e2 gSub (e2 gAddI (ePeek 28) (ePeek 15)) (eC (.int 1))) (ePeek 15) (E3 ns v3 v4 v5 v9 v10 v11 v12 v13 v14 c es a6 a7 a8 a24 a25 a26 h (.val (.int n)) (.val (.int f))) st = .ok (.int ((n + c.many - 1) / c.many)) st := by
    rw [v_e2 ((v_e2 ((v_e2 p28 p15).trans (r_gAddI ..)) (r_c _)).trans (r_gSub ..)) p15, r_gFdiv, if_pos (by simp; omega)]
  have r3 : e2 gMul (ePeek 28) (ePeek 16) (E3 ns v3 v4 v5 v9 v10 v11 v12 v13 v14 c es a6 a7 a8 a24 a25 a26 h (.val (.int n)) (.val (.int f))) st = .ok (.int (n * c.most)) st := by
    rw [v_e2 p28 p16, r_gMul, if_pos sm]
  rw [r_eAnd, v_e2 q1 r2, r_eqII, decide_eq_true rfl]
  show eAnd _ _ _ _ = _
  rw [r_eAnd, v_e2 q2 r3, r_gLe, decide_eq_true (by omega)]
  show eAnd _ _ _ _ = _
  rw [r_eAnd, v_e2 q3 p28, r_eqII, decide_eq_true (by omega)]
  show e2 _ _ _ _ _ = _
  rw [v_e2 q4 (r_c _), r_eqII, decide_eq_true (by omega)]
theorem to_crew (hl : ns.length ≤ 63) (hk : 0 ≤ k) : ∃ many most : Int, (1 ≤ many ∧ many ≤ 3) ∧ (1 ≤ most ∧ most ≤ 3) ∧ ∃ (v3 v4 v5 : Sl), ∀ X : SDen, sSeq x_law_46 (sSeq x_law_47 X) (E ns s a6 a7 a8 a9 a10 a11 a12 a13 a14) [A ns k, B] = X (E2 ns v3 v4 v5 a9 a10 a11 a12 a13 a14 (c0 many most) [] a6 a7 a8 .un .un .un) [A ns (k + 1 + 1), B] := by
  obtain ⟨n, g1, g2, e1⟩ := take_ok ns k 3 [B] hk (by decide) hl
  obtain ⟨f, g3, g4, e2'⟩ := take_ok ns (k + 1) 3 [B] (by omega) (by decide) hl
  refine ⟨1 + n, 1 + f, ⟨by omega, by omega⟩, ⟨by omega, by omega⟩, .own (.dct s.lv), .val (.lst ((ups s.up).map D.str)), .val (.dct (lawN s.nm)), fun X => ?_⟩
  have w1 : e2 gAddI (eC (.int 1)) (eCall m__law_take (aCons (eVar 1) (aCons (eC (.int 3)) aNil))) (E ns s a6 a7 a8 a9 a10 a11 a12 a13 a14) [A ns k, B] = .ok (.int (1 + n)) [A ns (k + 1), B] := (v_e2 (r_c _) ((v_call (ds := [.loc 0, .int 3]) rfl).trans e1)).trans (r_gAddI ..)
  have w2 : e2 gAddI (eC (.int 1)) (eCall m__law_take (aCons (eVar 1) (aCons (eC (.int 3)) aNil))) (E ns s a6 a7 a8 a9 a10 a11 a12 a13 a14) [A ns (k + 1), B] = .ok (.int (1 + f)) [A ns (k + 1 + 1), B] := (v_e2 (r_c _) ((v_call (ds := [.loc 0, .int 3]) rfl).trans e2')).trans (r_gAddI ..)
  have s1 : x_law_46 (E ns s a6 a7 a8 a9 a10 a11 a12 a13 a14) [A ns k, B] = .nx (((E ns s a6 a7 a8 a9 a10 a11 a12 a13 a14).set 15 (.val (.int (1 + n)))).set 16 (.val (.int (1 + f))) |>.set 17 (.val (.lst []))) [A ns (k + 1 + 1), B] := by
    unfold x_law_46
    exact (v_par (v_mVal w1 (v_mVal w2 rfl)) rfl).trans rfl
  rw [seq_nx s1]
  have hn : n = 0 ∨ n = 1 ∨ n = 2 := by omega
  rw [seq_nx (ρ' := E2 ns (.own (.dct s.lv)) (.val (.lst ((ups s.up).map D.str))) (.val (.dct (lawN s.nm))) a9 a10 a11 a12 a13 a14 (c0 (1 + n) (1 + f)) [] a6 a7 a8 .un .un .un) (st' := [A ns (k + 1 + 1), B])]
  unfold x_law_47
  rcases hn with rfl | rfl | rfl <;> kernel_rfl
end
theorem plain (ns : List Int) (h : ns.length ≤ 63) : m_law [.scr (ns.map D.int)] [] = .ok (.bl true) [] := by
  have e0 : x_law_0 [.val (.scr (I ns)), .un, .un, .un, .un, .un, .un, .un, .un, .un, .un, .un, .un, .un, .un, .un, .un, .un, .un, .un, .un, .un, .un, .un, .un, .un, .un, .un, .un, .un, .un, .un, .un, .un] [] = .nx [.val (.scr (I ns)), .val (.loc 0), .un, .un, .un, .un, .un, .un, .un, .un, .un, .un, .un, .un, .un, .un, .un, .un, .un, .un, .un, .un, .un, .un, .un, .un, .un, .un, .un, .un, .un, .un, .un, .un] [A ns 0] := by
    unfold x_law_0
    rfl
  have e1 : x_law_1 [.val (.scr (I ns)), .val (.loc 0), .un, .un, .un, .un, .un, .un, .un, .un, .un, .un, .un, .un, .un, .un, .un, .un, .un, .un, .un, .un, .un, .un, .un, .un, .un, .un, .un, .un, .un, .un, .un, .un] [A ns 0] = .nx (E ns ⟨[], [], []⟩ .un .un .un .un .un .un .un .un .un) [A ns 0, RD ⟨[], [], []⟩] := by
    unfold x_law_1
    kernel_rfl
  obtain ⟨s', k', b6, b7, b8, b9, b10, b11, b12, b13, b14, o', hk', e2'⟩ := turns h (upto 0 24) ⟨[], [], []⟩ 0 0 .un .un .un .un .un .un .un .un .un
    ⟨.nil, fun p hp => by (cases hp), Nat.le_refl _, .nil, Nat.le_refl _, fun p hp => by (cases hp), Nat.le_refl _, .nil, fun p hp => by (cases hp), fun p hp => by (cases hp), .nil⟩ (by decide) (by omega)
  obtain ⟨many, most, h1, h2, v3, v4, v5, e3⟩ := to_crew (s := s') (a6 := b6) (a7 := b7) (a8 := b8) (a9 := b9) (a10 := b10) (a11 := b11) (a12 := b12) (a13 := b13) (a14 := b14) (B := RD s') h hk'
  have r0 : Run many most (c0 many most) [] 0 := ⟨ck0 h1, rfl, trivial, fun e he => (by cases he), fun z hz => (by cases hz), rfl, rfl, Nat.le_refl _⟩
  obtain ⟨c', es, k2, d6, d7, d8, d24, d25, d26, r, hk2, e4⟩ := turns2 (v3 := v3) (v4 := v4) (v5 := v5) (v9 := b9) (v10 := b10) (v11 := b11) (v12 := b12) (v13 := b13) (v14 := b14) (B := RD s') h h1 (upto 0 30) (c0 many most) [] 0 (k' + 1 + 1) b6 b7 b8 .un .un .un r0 (by decide) (by omega)
  have le : es.length ≤ 30 := r.le
  have mn : c'.many = many := r.mn
  have mo : c'.most = most := r.mo
  have bal : Bal c' := by
    rw [r.is]
    exact bal_run es _ 0 (ck0 h1) (fun z hz => (by cases hz)) bal0 r.cn
  have e5 : x_law_63 (E2 ns v3 v4 v5 b9 b10 b11 b12 b13 b14 c' es d6 d7 d8 d24 d25 d26) [A ns k2, RD s'] = .nx (E3 ns v3 v4 v5 b9 b10 b11 b12 b13 b14 c' es d6 d7 d8 d24 d25 d26 (.own (.lst (optL c'.hd))) .un .un) [A ns k2, RD s'] := by
    unfold x_law_63
    have run := run_ok h1 h2 (A ns k2) (RD s') es (by omega) r.fn r.cn
    rw [← r.is] at run
    exact (v_asg ((v_call (ds := [.int many, .int most, .lst (es.map Dd.d)]) (st1 := [A ns k2, RD s']) (by rw [← mn, ← mo]; rfl)).trans run)).trans rfl
  obtain ⟨k3, e6⟩ := last_ok (c := c') (es := es) (v3 := v3) (v4 := v4) (v5 := v5) (v9 := b9) (v10 := b10) (v11 := b11) (v12 := b12) (v13 := b13) (v14 := b14) (a6 := d6) (a7 := d7) (a8 := d8) (a24 := d24) (a25 := d25) (a26 := d26) (b28 := .un) (b29 := .un) (B := RD s') h hk2 (by omega) (by omega) (hdS c')
  refine callD_rt (st' := [A ns k3, RD s']) rfl ?_ rfl
  show b_law [.val (.scr (I ns)), .un, .un, .un, .un, .un, .un, .un, .un, .un, .un, .un, .un, .un, .un, .un, .un, .un, .un, .un, .un, .un, .un, .un, .un, .un, .un, .un, .un, .un, .un, .un, .un, .un] [] = _
  unfold b_law
  rw [seq_nx e0, seq_nx e1]
  have e2'' : x_law_45 (E ns ⟨[], [], []⟩ .un .un .un .un .un .un .un .un .un) [A ns 0, RD ⟨[], [], []⟩] = .nx (E ns s' b6 b7 b8 b9 b10 b11 b12 b13 b14) [A ns k', RD s'] := by
    unfold x_law_45
    exact e2'
  rw [seq_nx e2'', e3]
  have e4' : x_law_62 (E2 ns v3 v4 v5 b9 b10 b11 b12 b13 b14 (c0 many most) [] b6 b7 b8 .un .un .un) [A ns (k' + 1 + 1), RD s'] = .nx (E2 ns v3 v4 v5 b9 b10 b11 b12 b13 b14 c' es d6 d7 d8 d24 d25 d26) [A ns k2, RD s'] := by
    unfold x_law_62
    exact e4
  rw [seq_nx e4', seq_nx e5, seq_nx (chk1 r.ck (by omega) r.jb bal), seq_nx (chk2 r.ck (by omega) bal)]
  exact e6
end Lw
namespace Lw
open Gh L2 PyProof.Rows PySem.Spec PySem
theorem law_end {P : Program} {w : World} {K : PySem.W.Frag} {mg : Glob} (T : Txt K mg) : LawB P w K mg 8 "law" m_law := by
  refine lawB_of T.g_law (fun f fd F s u => ?_) fun base f fd F => fn_law T F
  obtain ⟨oc, od, kV, doc, pm, an, cdv, ct, osl, rfl, lk, hcd⟩ := F.ex
  exact .of_eq rfl
end Lw
open PySem PySem.W PyProof.Rows
set_option maxRecDepth 100000 in
set_option maxHeartbeats 0 in
theorem PySem.Challenge.cw_watchedhands_k92_names_and_crews_holds : PySem.Challenge.rw_watchedhands_k92_names_and_crews.Holds := by
  w_on; o_law; k_head; (case hw => w_witness2)
  k_fill
  refine Gh.law_walk (l := PySem.Challenge.rw_watchedhands_k92_names_and_crews) (k := 8) (m := Lw.m_law) rfl rfl ⟨rfl, by decide, by decide⟩ (fun w h Y => PySem.W.kIn_of Y) Lw.plain ?B
  case B =>
    intro w mg h KX G
    refine Lw.law_end ?_
    have c_Crew := Gh.the KX (fun K => Gh.TC K mg "Crew") (by
      refine' Gh.tc_mk KX G ?a ?pg ?hd ?po ?sa ?mk ?kc
      (case a => k_is); (case pg => k_is); (case hd => k_is); (case po => k_is); (case sa => k_is); (case mk => k_is); (case kc => k_is))
    have c_Registry := Gh.the KX (fun K => Gh.TC K mg "Registry") (by
      refine' Gh.tc_mk KX G ?a ?pg ?hd ?po ?sa ?mk ?kc
      (case a => k_is); (case pg => k_is); (case hd => k_is); (case po => k_is); (case sa => k_is); (case mk => k_is); (case kc => k_is))
    have m_Crew_counts := Gh.the KX (fun K => Gh.TM K mg "Crew" "counts" "Crew.counts" Lw.s_Crew_counts) (by
      refine' Gh.tm_mk KX G ?a ?b ?i ?l ?d ?k
      (case a => k_is); (case b => k_is); (case i => k_is); (case l => k_is); (case d => k_is); (case k => k_is))
    have m_Crew_idle := Gh.the KX (fun K => Gh.TM K mg "Crew" "idle" "Crew.idle" Lw.s_Crew_idle) (by
      refine' Gh.tm_mk KX G ?a ?b ?i ?l ?d ?k
      (case a => k_is); (case b => k_is); (case i => k_is); (case l => k_is); (case d => k_is); (case k => k_is))
    have m_Registry___init__ := Gh.the KX (fun K => Gh.TM K mg "Registry" "__init__" "Registry.__init__" Lw.s_Registry___init__) (by
      refine' Gh.tm_mk KX G ?a ?b ?i ?l ?d ?k
      (case a => k_is); (case b => k_is); (case i => k_is); (case l => k_is); (case d => k_is); (case k => k_is))
    have g_is_name := Gh.the KX (fun K => Gh.TG K mg "is_name" "is_name" Lw.s_is_name) (by
      refine' Gh.tg_mk KX G ?a ?l ?c ?k
      (case a => k_is); (case l => k_is); (case c => k_is); (case k => k_is))
    have g_check_name := Gh.the KX (fun K => Gh.TG K mg "check_name" "check_name" Lw.s_check_name) (by
      refine' Gh.tg_mk KX G ?a ?l ?c ?k
      (case a => k_is); (case l => k_is); (case c => k_is); (case k => k_is))
    have m_Registry_check_up := Gh.the KX (fun K => Gh.TM K mg "Registry" "check_up" "Registry.check_up" Lw.s_Registry_check_up) (by
      refine' Gh.tm_mk KX G ?a ?b ?i ?l ?d ?k
      (case a => k_is); (case b => k_is); (case i => k_is); (case l => k_is); (case d => k_is); (case k => k_is))
    have m_Registry_name_of := Gh.the KX (fun K => Gh.TM K mg "Registry" "name_of" "Registry.name_of" Lw.s_Registry_name_of) (by
      refine' Gh.tm_mk KX G ?a ?b ?i ?l ?d ?k
      (case a => k_is); (case b => k_is); (case i => k_is); (case l => k_is); (case d => k_is); (case k => k_is))
    have m_Registry_end := Gh.the KX (fun K => Gh.TM K mg "Registry" "end" "Registry.end" Lw.s_Registry_end) (by
      refine' Gh.tm_mk KX G ?a ?b ?i ?l ?d ?k
      (case a => k_is); (case b => k_is); (case i => k_is); (case l => k_is); (case d => k_is); (case k => k_is))
    have m_Registry_find := Gh.the KX (fun K => Gh.TM K mg "Registry" "find" "Registry.find" Lw.s_Registry_find) (by
      refine' Gh.tm_mk KX G ?a ?b ?i ?l ?d ?k
      (case a => k_is); (case b => k_is); (case i => k_is); (case l => k_is); (case d => k_is); (case k => k_is))
    have g_is_integer := Gh.the KX (fun K => Gh.TG K mg "is_integer" "is_integer" Lw.s_is_integer) (by
      refine' Gh.tg_mk KX G ?a ?l ?c ?k
      (case a => k_is); (case l => k_is); (case c => k_is); (case k => k_is))
    have g_is_number := Gh.the KX (fun K => Gh.TG K mg "is_number" "is_number" Lw.s_is_number) (by
      refine' Gh.tg_mk KX G ?a ?l ?c ?k
      (case a => k_is); (case l => k_is); (case c => k_is); (case k => k_is))
    have g_check_pair := Gh.the KX (fun K => Gh.TG K mg "check_pair" "check_pair" Lw.s_check_pair) (by
      refine' Gh.tg_mk KX G ?a ?l ?c ?k
      (case a => k_is); (case l => k_is); (case c => k_is); (case k => k_is))
    have m_Registry_is_there := Gh.the KX (fun K => Gh.TM K mg "Registry" "is_there" "Registry.is_there" Lw.s_Registry_is_there) (by
      refine' Gh.tm_mk KX G ?a ?b ?i ?l ?d ?k
      (case a => k_is); (case b => k_is); (case i => k_is); (case l => k_is); (case d => k_is); (case k => k_is))
    have m_Registry_start := Gh.the KX (fun K => Gh.TM K mg "Registry" "start" "Registry.start" Lw.s_Registry_start) (by
      refine' Gh.tm_mk KX G ?a ?b ?i ?l ?d ?k
      (case a => k_is); (case b => k_is); (case i => k_is); (case l => k_is); (case d => k_is); (case k => k_is))
    have m_Registry_take := Gh.the KX (fun K => Gh.TM K mg "Registry" "take" "Registry.take" Lw.s_Registry_take) (by
      refine' Gh.tm_mk KX G ?a ?b ?i ?l ?d ?k
      (case a => k_is); (case b => k_is); (case i => k_is); (case l => k_is); (case d => k_is); (case k => k_is))
    have m_Registry_told := Gh.the KX (fun K => Gh.TM K mg "Registry" "told" "Registry.told" Lw.s_Registry_told) (by
      refine' Gh.tm_mk KX G ?a ?b ?i ?l ?d ?k
      (case a => k_is); (case b => k_is); (case i => k_is); (case l => k_is); (case d => k_is); (case k => k_is))
    have g__law_flat := Gh.the KX (fun K => Gh.TG K mg "_law_flat" "_law_flat" Lw.s__law_flat) (by
      refine' Gh.tg_mk KX G ?a ?l ?c ?k
      (case a => k_is); (case l => k_is); (case c => k_is); (case k => k_is))
    have g__law_number := Gh.the KX (fun K => Gh.TG K mg "_law_number" "_law_number" Lw.s__law_number) (by
      refine' Gh.tg_mk KX G ?a ?l ?c ?k
      (case a => k_is); (case l => k_is); (case c => k_is); (case k => k_is))
    have g__law_take := Gh.the KX (fun K => Gh.TG K mg "_law_take" "_law_take" Lw.s__law_take) (by
      refine' Gh.tg_mk KX G ?a ?l ?c ?k
      (case a => k_is); (case l => k_is); (case c => k_is); (case k => k_is))
    have g_check_number := Gh.the KX (fun K => Gh.TG K mg "check_number" "check_number" Lw.s_check_number) (by
      refine' Gh.tg_mk KX G ?a ?l ?c ?k
      (case a => k_is); (case l => k_is); (case c => k_is); (case k => k_is))
    have g_most_taken := Gh.the KX (fun K => Gh.TG K mg "most_taken" "most_taken" Lw.s_most_taken) (by
      refine' Gh.tg_mk KX G ?a ?l ?c ?k
      (case a => k_is); (case l => k_is); (case c => k_is); (case k => k_is))
    have g_rounds := Gh.the KX (fun K => Gh.TG K mg "rounds" "rounds" Lw.s_rounds) (by
      refine' Gh.tg_mk KX G ?a ?l ?c ?k
      (case a => k_is); (case l => k_is); (case c => k_is); (case k => k_is))
    have m_Crew___init__ := Gh.the KX (fun K => Gh.TM K mg "Crew" "__init__" "Crew.__init__" Lw.s_Crew___init__) (by
      refine' Gh.tm_mk KX G ?a ?b ?i ?l ?d ?k
      (case a => k_is); (case b => k_is); (case i => k_is); (case l => k_is); (case d => k_is); (case k => k_is))
    have g_is_row := Gh.the KX (fun K => Gh.TG K mg "is_row" "is_row" Lw.s_is_row) (by
      refine' Gh.tg_mk KX G ?a ?l ?c ?k
      (case a => k_is); (case l => k_is); (case c => k_is); (case k => k_is))
    have g_check_deeds := Gh.the KX (fun K => Gh.TG K mg "check_deeds" "check_deeds" Lw.s_check_deeds) (by
      refine' Gh.tg_mk KX G ?a ?l ?c ?k
      (case a => k_is); (case l => k_is); (case c => k_is); (case k => k_is))
    have m_Crew_check_hand := Gh.the KX (fun K => Gh.TM K mg "Crew" "check_hand" "Crew.check_hand" Lw.s_Crew_check_hand) (by
      refine' Gh.tm_mk KX G ?a ?b ?i ?l ?d ?k
      (case a => k_is); (case b => k_is); (case i => k_is); (case l => k_is); (case d => k_is); (case k => k_is))
    have m_Crew_let_go := Gh.the KX (fun K => Gh.TM K mg "Crew" "let_go" "Crew.let_go" Lw.s_Crew_let_go) (by
      refine' Gh.tm_mk KX G ?a ?b ?i ?l ?d ?k
      (case a => k_is); (case b => k_is); (case i => k_is); (case l => k_is); (case d => k_is); (case k => k_is))
    have m_Crew_fall := Gh.the KX (fun K => Gh.TM K mg "Crew" "fall" "Crew.fall" Lw.s_Crew_fall) (by
      refine' Gh.tm_mk KX G ?a ?b ?i ?l ?d ?k
      (case a => k_is); (case b => k_is); (case i => k_is); (case l => k_is); (case d => k_is); (case k => k_is))
    have m_Crew_finish := Gh.the KX (fun K => Gh.TM K mg "Crew" "finish" "Crew.finish" Lw.s_Crew_finish) (by
      refine' Gh.tm_mk KX G ?a ?b ?i ?l ?d ?k
      (case a => k_is); (case b => k_is); (case i => k_is); (case l => k_is); (case d => k_is); (case k => k_is))
    have m_Crew_give := Gh.the KX (fun K => Gh.TM K mg "Crew" "give" "Crew.give" Lw.s_Crew_give) (by
      refine' Gh.tm_mk KX G ?a ?b ?i ?l ?d ?k
      (case a => k_is); (case b => k_is); (case i => k_is); (case l => k_is); (case d => k_is); (case k => k_is))
    have m_Crew_take := Gh.the KX (fun K => Gh.TM K mg "Crew" "take" "Crew.take" Lw.s_Crew_take) (by
      refine' Gh.tm_mk KX G ?a ?b ?i ?l ?d ?k
      (case a => k_is); (case b => k_is); (case i => k_is); (case l => k_is); (case d => k_is); (case k => k_is))
    have g_do := Gh.the KX (fun K => Gh.TG K mg "do" "do" Lw.s_do) (by
      refine' Gh.tg_mk KX G ?a ?l ?c ?k
      (case a => k_is); (case l => k_is); (case c => k_is); (case k => k_is))
    have g_run_crew := Gh.the KX (fun K => Gh.TG K mg "run_crew" "run_crew" Lw.s_run_crew) (by
      refine' Gh.tg_mk KX G ?a ?l ?c ?k
      (case a => k_is); (case l => k_is); (case c => k_is); (case k => k_is))
    have g_law := Gh.the KX (fun K => Gh.TG K mg "law" "law" Lw.s_law) (by
      refine' Gh.tg_mk KX G ?a ?l ?c ?k
      (case a => k_is); (case l => k_is); (case c => k_is); (case k => k_is))
    have a_aside_Crew := Gh.the KX (fun K => Gh.AttOk K mg "aside" ["Crew"]) (by
      refine Gh.AttOk.cons (by (refine' Gh.tf_mk KX G c_Crew ?a ?n); (case a => k_is); (case n => k_is)) ?_
      exact Gh.AttOk.nil)
    have a_done_Crew := Gh.the KX (fun K => Gh.AttOk K mg "done" ["Crew"]) (by
      refine Gh.AttOk.cons (by (refine' Gh.tf_mk KX G c_Crew ?a ?n); (case a => k_is); (case n => k_is)) ?_
      exact Gh.AttOk.nil)
    have a_held_Crew := Gh.the KX (fun K => Gh.AttOk K mg "held" ["Crew"]) (by
      refine Gh.AttOk.cons (by (refine' Gh.tf_mk KX G c_Crew ?a ?n); (case a => k_is); (case n => k_is)) ?_
      exact Gh.AttOk.nil)
    have a_lives_Registry := Gh.the KX (fun K => Gh.AttOk K mg "lives" ["Registry"]) (by
      refine Gh.AttOk.cons (by (refine' Gh.tf_mk KX G c_Registry ?a ?n); (case a => k_is); (case n => k_is)) ?_
      exact Gh.AttOk.nil)
    have a_many_Crew := Gh.the KX (fun K => Gh.AttOk K mg "many" ["Crew"]) (by
      refine Gh.AttOk.cons (by (refine' Gh.tf_mk KX G c_Crew ?a ?n); (case a => k_is); (case n => k_is)) ?_
      exact Gh.AttOk.nil)
    have a_most_Crew := Gh.the KX (fun K => Gh.AttOk K mg "most" ["Crew"]) (by
      refine Gh.AttOk.cons (by (refine' Gh.tf_mk KX G c_Crew ?a ?n); (case a => k_is); (case n => k_is)) ?_
      exact Gh.AttOk.nil)
    have a_names_Registry := Gh.the KX (fun K => Gh.AttOk K mg "names" ["Registry"]) (by
      refine Gh.AttOk.cons (by (refine' Gh.tf_mk KX G c_Registry ?a ?n); (case a => k_is); (case n => k_is)) ?_
      exact Gh.AttOk.nil)
    have a_taken_Crew := Gh.the KX (fun K => Gh.AttOk K mg "taken" ["Crew"]) (by
      refine Gh.AttOk.cons (by (refine' Gh.tf_mk KX G c_Crew ?a ?n); (case a => k_is); (case n => k_is)) ?_
      exact Gh.AttOk.nil)
    have a_up_Registry := Gh.the KX (fun K => Gh.AttOk K mg "up" ["Registry"]) (by
      refine Gh.AttOk.cons (by (refine' Gh.tf_mk KX G c_Registry ?a ?n); (case a => k_is); (case n => k_is)) ?_
      exact Gh.AttOk.nil)
    have a_waiting_Crew := Gh.the KX (fun K => Gh.AttOk K mg "waiting" ["Crew"]) (by
      refine Gh.AttOk.cons (by (refine' Gh.tf_mk KX G c_Crew ?a ?n); (case a => k_is); (case n => k_is)) ?_
      exact Gh.AttOk.nil)
    have i_bool := Gh.the KX (fun K => Gh.TIb K mg "bool" []) (Gh.tib_mk (by decide +kernel))
    have i_int := Gh.the KX (fun K => Gh.TIb K mg "int" []) (Gh.tib_mk (by decide +kernel))
    have i_str := Gh.the KX (fun K => Gh.TIb K mg "str" []) (Gh.tib_mk (by decide +kernel))
    have i_tuple := Gh.the KX (fun K => Gh.TIb K mg "tuple" []) (Gh.tib_mk (by decide +kernel))
    have i_list_tuple := Gh.the KX (fun K => Gh.TIb2 K mg "list" "tuple" []) (Gh.tib2_mk (by decide +kernel) (by decide +kernel) (by decide +kernel))
    have k_FIGURES : Gh.TS mg "FIGURES" "0123456789" := Gh.ts_mk KX G (by k_is)
    have k_SMALL : Gh.TS mg "SMALL" "abcdefghijklmnopqrstuvwxyz" := Gh.ts_mk KX G (by k_is)
    have k_MOST_HANDS : Gh.TN mg "MOST_HANDS" 9 := Gh.tn_mk KX G (by k_is)
    have nf_BadPart_part := Gh.the KX (fun K => Gh.NoF K mg "BadPart" "part") (by
      refine' Gh.nof_mk KX G ?a ?n
      (case a => k_is); (case n => k_is))
    have nf_BadPart_place := Gh.the KX (fun K => Gh.NoF K mg "BadPart" "place") (by
      refine' Gh.nof_mk KX G ?a ?n
      (case a => k_is); (case n => k_is))
    have x_BadPart := Gh.the KX (fun K => Gh.TX K mg "BadPart" "BadPart.__init__" ["part", "place"] Lw.s_BadPart___init__) (by
      refine' Gh.tx_mk KX G ?a (Gh.xlook_mk ?xl ?xb) ?sa ?ex ?ty ?kc ?ga ?gg ?hd ?i ?ti ?l ?d ?kf (Gh.nof_cons nf_BadPart_part (Gh.nof_cons nf_BadPart_place Gh.nof_nil))
      (case a => k_is); (case xl => k_is); (case xb => rfl); (case sa => k_is); (case ex => k_is); (case ty => k_is); (case kc => k_is); (case ga => k_is); (case gg => k_is); (case hd => k_is); (case i => k_is); (case ti => k_is); (case l => k_is); (case d => k_is); (case kf => k_is))
    have nf_Taken_name := Gh.the KX (fun K => Gh.NoF K mg "Taken" "name") (by
      refine' Gh.nof_mk KX G ?a ?n
      (case a => k_is); (case n => k_is))
    have x_Taken := Gh.the KX (fun K => Gh.TX K mg "Taken" "Taken.__init__" ["name"] Lw.s_Taken___init__) (by
      refine' Gh.tx_mk KX G ?a (Gh.xlook_mk ?xl ?xb) ?sa ?ex ?ty ?kc ?ga ?gg ?hd ?i ?ti ?l ?d ?kf (Gh.nof_cons nf_Taken_name Gh.nof_nil)
      (case a => k_is); (case xl => k_is); (case xb => rfl); (case sa => k_is); (case ex => k_is); (case ty => k_is); (case kc => k_is); (case ga => k_is); (case gg => k_is); (case hd => k_is); (case i => k_is); (case ti => k_is); (case l => k_is); (case d => k_is); (case kf => k_is))
    have x_BadPart__BadPart_Taken__BadPart := Gh.the KX (fun K => Gh.TEm K mg "BadPart" ["BadPart", "Taken"] ["BadPart"]) (by
      refine' Gh.tem_mk KX G ?a fun c hc => ?_
      (case a => k_is)
      simp only [List.mem_cons, List.not_mem_nil, or_false] at hc
      rcases hc with rfl | rfl
      · refine' Gh.em1_mk KX G ?e1 ?e2 ?e3 ?e4 ?e5 ?e6
        (case e1 => k_is); (case e2 => k_is); (case e3 => k_is); (case e4 => k_is); (case e5 => k_is); (case e6 => k_is)
      · refine' Gh.em1_mk KX G ?e1 ?e2 ?e3 ?e4 ?e5 ?e6
        (case e1 => k_is); (case e2 => k_is); (case e3 => k_is); (case e4 => k_is); (case e5 => k_is); (case e6 => k_is)
      skip)
    have x_Taken__BadPart_Taken__Taken := Gh.the KX (fun K => Gh.TEm K mg "Taken" ["BadPart", "Taken"] ["Taken"]) (by
      refine' Gh.tem_mk KX G ?a fun c hc => ?_
      (case a => k_is)
      simp only [List.mem_cons, List.not_mem_nil, or_false] at hc
      rcases hc with rfl | rfl
      · refine' Gh.em1_mk KX G ?e1 ?e2 ?e3 ?e4 ?e5 ?e6
        (case e1 => k_is); (case e2 => k_is); (case e3 => k_is); (case e4 => k_is); (case e5 => k_is); (case e6 => k_is)
      · refine' Gh.em1_mk KX G ?e1 ?e2 ?e3 ?e4 ?e5 ?e6
        (case e1 => k_is); (case e2 => k_is); (case e3 => k_is); (case e4 => k_is); (case e5 => k_is); (case e6 => k_is)
      skip)
    have z_all : mg "all" = none := PySem.W.mg_none_of KX G (by k_is)
    have z_any : mg "any" = none := PySem.W.mg_none_of KX G (by k_is)
    have z_bool : mg "bool" = none := PySem.W.mg_none_of KX G (by k_is)
    have z_dict : mg "dict" = none := PySem.W.mg_none_of KX G (by k_is)
    have z_enumerate : mg "enumerate" = none := PySem.W.mg_none_of KX G (by k_is)
    have z_int : mg "int" = none := PySem.W.mg_none_of KX G (by k_is)
    have z_isinstance : mg "isinstance" = none := PySem.W.mg_none_of KX G (by k_is)
    have z_len : mg "len" = none := PySem.W.mg_none_of KX G (by k_is)
    have z_list : mg "list" = none := PySem.W.mg_none_of KX G (by k_is)
    have z_min : mg "min" = none := PySem.W.mg_none_of KX G (by k_is)
    have z_range : mg "range" = none := PySem.W.mg_none_of KX G (by k_is)
    have z_sorted : mg "sorted" = none := PySem.W.mg_none_of KX G (by k_is)
    have z_str : mg "str" = none := PySem.W.mg_none_of KX G (by k_is)
    have z_sum : mg "sum" = none := PySem.W.mg_none_of KX G (by k_is)
    have z_tuple : mg "tuple" = none := PySem.W.mg_none_of KX G (by k_is)
    exact ⟨m_Crew_counts, m_Crew_idle, m_Registry___init__, g_is_name, g_check_name, m_Registry_check_up, m_Registry_name_of, m_Registry_end, m_Registry_find, g_is_integer, g_is_number, g_check_pair, m_Registry_is_there, m_Registry_start, m_Registry_take, m_Registry_told, g__law_flat, g__law_number, g__law_take, g_check_number, g_most_taken, g_rounds, m_Crew___init__, g_is_row, g_check_deeds, m_Crew_check_hand, m_Crew_let_go, m_Crew_fall, m_Crew_finish, m_Crew_give, m_Crew_take, g_do, g_run_crew, g_law, c_Crew, c_Registry, a_aside_Crew, a_done_Crew, a_held_Crew, a_lives_Registry, a_many_Crew, a_most_Crew, a_names_Registry, a_taken_Crew, a_up_Registry, a_waiting_Crew, i_bool, i_int, i_str, i_tuple, i_list_tuple, k_FIGURES, k_SMALL, k_MOST_HANDS, x_BadPart, x_Taken, x_BadPart__BadPart_Taken__BadPart, x_Taken__BadPart_Taken__Taken, z_all, z_any, z_bool, z_dict, z_enumerate, z_int, z_isinstance, z_len, z_list, z_min, z_range, z_sorted, z_str, z_sum, z_tuple⟩
