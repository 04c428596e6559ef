import PyProof.Rows.All
import Wide.All
import OpenK.AllK
import Wide.FinOn
import HandS.ForMost
import HandS.Exc
import HandS.TryOnly
import HandS.ExcInit
import HandS.ExcField
import HandS.WordsExc
import HandS.Star
import HandS.TupAny
import HandS.IsInst
import HandS.Flow
import HandS.Style
import HandS.Walk
import HandS.WordsDict
import KE.GoesEnum
import HandS.Records
import HandS.SlotsOwn
import HandS.Ends
import PyProof.InstEq
import HandS.SortInts
import HandS.DictComp
import KE.SortData
import HandS.Set
import HandS.SetFor
import HandS.TupSets
import HandS.Small
import HandS.Lambda
import HandS.EndOwn
import KE.KNestM
import PySem.Challenge.RW_watchedhands_k41_windows_of_falls
set_option Elab.async false
set_option linter.all false
set_option maxRecDepth 100000
set_option maxHeartbeats 4000000
/-! Gh0: data, what represents it, the ghost heap, the store, outcomes. -/
namespace Gh
open L2 PyProof.Rows PySem.Spec PySem

/-- Python data: what stands still. loc: an object of the store, at the top of a value alone -/
inductive D where
  | non | bl (b : Bool) | int (i : Int) | str (s : Str)
  | tup (ds : List D) | lst (ds : List D) | scr (ds : List D) | dct (kvs : List (Key × D))
  | ins (c : Str) (fs : List (Str × D)) | loc (n : Nat)

abbrev Glob := Str → Option Value

mutual
/-- d stands for v, by what the still heap F holds -/
def Rep (K : PySem.W.Frag) (mg : Glob) (F : Hp) : D → V → Prop
  | .non, v => v = .non
  | .bl b, v => v = .bl b
  | .int i, v => v = .int i
  | .str s, v => v = .str s
  | .tup ds, v => ∃ a vs, v = .ref a ∧ SqT K F a vs ∧ RepL K mg F ds vs
  | .lst ds, v => ∃ a vs, v = .ref a ∧ F a = some (.lst vs) ∧ RepL K mg F ds vs
  | .scr ds, v => ∃ a vs, v = .ref a ∧ SqL K F a vs ∧ RepL K mg F ds vs
  | .dct kvs, v => ∃ a kv, v = .ref a ∧ Rd F a (.dK kv) ∧ RepK K mg F kvs kv
  | .ins c fs, v => ∃ a C dx fv, v = .ref a ∧ mg c = some (.ref C) ∧ F a = some (.ins C dx fv) ∧ RepF K mg F fs fv
  | .loc _, _ => False
def RepL (K : PySem.W.Frag) (mg : Glob) (F : Hp) : List D → List V → Prop
  | [], vs => vs = []
  | d :: ds, vs => ∃ v r, vs = v :: r ∧ Rep K mg F d v ∧ RepL K mg F ds r
def RepK (K : PySem.W.Frag) (mg : Glob) (F : Hp) : List (Key × D) → List (Key × V) → Prop
  | [], vs => vs = []
  | (k, d) :: ds, vs => ∃ v r, vs = (k, v) :: r ∧ Rep K mg F d v ∧ RepK K mg F ds r
def RepF (K : PySem.W.Frag) (mg : Glob) (F : Hp) : List (Str × D) → List (Str × V) → Prop
  | [], vs => vs = []
  | (k, d) :: ds, vs => ∃ v r, vs = (k, v) :: r ∧ Rep K mg F d v ∧ RepF K mg F ds r
end

abbrev Ex (H H' : Hp) : Prop := ∀ a o, H a = some o → H' a = some o
theorem Ex.refl (H : Hp) : Ex H H := fun _ _ h => h
theorem Ex.trans {H H1 H2 : Hp} (a : Ex H H1) (b : Ex H1 H2) : Ex H H2 := fun x o h => b x o (a x o h)
theorem Ex.new {H : Hp} {p : Addr} {o : HO} (h : H p = none) : Ex H (upd H p o) := fun a u e => by
  rw [upd_ne (ne_of_none e h)]
  exact e
theorem ex_rd {H H' : Hp} {a : Addr} {u : HO} (e : Ex H H') (h : Rd H a u) : Rd H' a u := by
  rcases h with h | ⟨o, h⟩
  · exact Or.inl (e a _ h)
  · exact Or.inr ⟨o, e a _ h⟩
theorem ex_l {K : PySem.W.Frag} {H H' : Hp} {a : Addr} {xs : List V} (e : Ex H H') (h : SqL K H a xs) : SqL K H' a xs := by
  rcases h with h | h
  · exact Or.inl (ex_rd e h)
  · exact Or.inr h
theorem ex_t {K : PySem.W.Frag} {H H' : Hp} {a : Addr} {xs : List V} (e : Ex H H') (h : SqT K H a xs) : SqT K H' a xs := by
  rcases h with h | h
  · exact Or.inl (ex_rd e h)
  · exact Or.inr h

/-- F is a part of H (a dict may be locked there) -/
def ExF (F H : Hp) : Prop := ∀ a o, F a = some o → H a = some o ∨ ∃ ob kv, o = .dK kv ∧ H a = some (.frz ob o)
theorem ExF.rd {F H : Hp} {a : Addr} {u : HO} (e : ExF F H) (h : Rd F a u) : Rd H a u := by
  rcases h with h | ⟨o, h⟩
  · rcases e a _ h with h | ⟨ob, kv, _, h⟩
    · exact Or.inl h
    · exact Or.inr ⟨ob, h⟩
  · rcases e a _ h with h | ⟨ob, kv, q, h⟩
    · exact Or.inr ⟨o, h⟩
    · cases q
theorem ExF.l {K : PySem.W.Frag} {F H : Hp} {a : Addr} {xs : List V} (e : ExF F H) (h : SqL K F a xs) : SqL K H a xs := by
  rcases h with h | h
  · exact Or.inl (e.rd h)
  · exact Or.inr h
theorem ExF.t {K : PySem.W.Frag} {F H : Hp} {a : Addr} {xs : List V} (e : ExF F H) (h : SqT K F a xs) : SqT K H a xs := by
  rcases h with h | h
  · exact Or.inl (e.rd h)
  · exact Or.inr h
theorem ExF.ins {F H : Hp} {a C dx : Addr} {fs : List (Str × V)} (e : ExF F H) (h : F a = some (.ins C dx fs)) : H a = some (.ins C dx fs) := by
  rcases e a _ h with h | ⟨ob, kv, q, h⟩
  · exact h
  · cases q
theorem ExF.lst {F H : Hp} {a : Addr} {fs : List V} (e : ExF F H) (h : F a = some (.lst fs)) : H a = some (.lst fs) := by
  rcases e a _ h with h | ⟨ob, kv, q, h⟩
  · exact h
  · cases q
theorem ExF.xd {F H : Hp} {a : Addr} {fs : List (Str × V)} (e : ExF F H) (h : F a = some (.xd fs)) : H a = some (.xd fs) := by
  rcases e a _ h with h | ⟨ob, kv, q, h⟩
  · exact h
  · cases q
theorem ExF.tup {F H : Hp} {a : Addr} {fs : List V} (e : ExF F H) (h : F a = some (.tup fs)) : H a = some (.tup fs) := by
  rcases e a _ h with h | ⟨ob, kv, q, h⟩
  · exact h
  · cases q
theorem ExF.free {F H : Hp} {a : Addr} (e : ExF F H) (n : H a = none) : F a = none := by
  cases q : F a with
  | none => rfl
  | some u => rcases e a u q with h | ⟨ob, kv, _, h⟩ <;> (rw [n] at h; cases h)
theorem ExF.more {F H H' : Hp} (e : ExF F H) (x : Ex H H') : ExF F H' := fun a o h => by
  rcases e a o h with h | ⟨ob, kv, q, h⟩
  · exact .inl (x a o h)
  · exact .inr ⟨ob, kv, q, x a _ h⟩
theorem ExF.of {F H : Hp} (e : Ex F H) : ExF F H := fun a o h => .inl (e a o h)

section
variable {K : PySem.W.Frag} {mg : Glob}
mutual
theorem Rep.mono {F F' : Hp} (e : Ex F F') : ∀ (d : D) {v : V}, Rep K mg F d v → Rep K mg F' d v
  | .non, v, h => h
  | .bl b, v, h => h
  | .int i, v, h => h
  | .str s, v, h => h
  | .tup ds, v, h => by
    obtain ⟨a, vs, h1, h2, h3⟩ := h
    exact ⟨a, vs, h1, ex_t e h2, RepL.mono e ds h3⟩
  | .lst ds, v, h => by
    obtain ⟨a, vs, h1, h2, h3⟩ := h
    exact ⟨a, vs, h1, e _ _ h2, RepL.mono e ds h3⟩
  | .scr ds, v, h => by
    obtain ⟨a, vs, h1, h2, h3⟩ := h
    exact ⟨a, vs, h1, ex_l e h2, RepL.mono e ds h3⟩
  | .dct kvs, v, h => by
    obtain ⟨a, vs, h1, h2, h3⟩ := h
    exact ⟨a, vs, h1, ex_rd e h2, RepK.mono e kvs h3⟩
  | .ins c fs, v, h => by
    obtain ⟨a, C, dx, fv, h1, h2, h3, h4⟩ := h
    exact ⟨a, C, dx, fv, h1, h2, e _ _ h3, RepF.mono e fs h4⟩
  | .loc n, v, h => h
theorem RepL.mono {F F' : Hp} (e : Ex F F') : ∀ (ds : List D) {vs : List V}, RepL K mg F ds vs → RepL K mg F' ds vs
  | [], vs, h => h
  | d :: ds, vs, h => by
    obtain ⟨v, r, h1, h2, h3⟩ := h
    exact ⟨v, r, h1, Rep.mono e d h2, RepL.mono e ds h3⟩
theorem RepK.mono {F F' : Hp} (e : Ex F F') : ∀ (ds : List (Key × D)) {vs : List (Key × V)}, RepK K mg F ds vs → RepK K mg F' ds vs
  | [], vs, h => h
  | (k, d) :: ds, vs, h => by
    obtain ⟨v, r, h1, h2, h3⟩ := h
    exact ⟨v, r, h1, Rep.mono e d h2, RepK.mono e ds h3⟩
theorem RepF.mono {F F' : Hp} (e : Ex F F') : ∀ (ds : List (Str × D)) {vs : List (Str × V)}, RepF K mg F ds vs → RepF K mg F' ds vs
  | [], vs, h => h
  | (k, d) :: ds, vs, h => by
    obtain ⟨v, r, h1, h2, h3⟩ := h
    exact ⟨v, r, h1, Rep.mono e d h2, RepF.mono e ds h3⟩
end

/-! ### lists of data -/
theorem RepL.length {F : Hp} : ∀ {ds : List D} {vs : List V}, RepL K mg F ds vs → ds.length = vs.length
  | [], vs, h => by
    have h : vs = [] := h
    rw [h] <;> rfl
  | d :: ds, vs, h => by
    obtain ⟨v, r, rfl, h2, h3⟩ := h
    rw [List.length_cons, List.length_cons, RepL.length h3]
theorem RepL.get {F : Hp} : ∀ {ds : List D} {vs : List V} {i : Nat} {d : D}, RepL K mg F ds vs → ds[i]? = some d → ∃ v, vs[i]? = some v ∧ Rep K mg F d v
  | [], vs, i, d, h, e => by simp at e
  | d :: ds, vs, 0, x, h, e => by
    obtain ⟨v, r, rfl, h2, h3⟩ := h
    have e : d = x := by simpa using e
    exact ⟨v, rfl, e ▸ h2⟩
  | d :: ds, vs, i + 1, x, h, e => by
    obtain ⟨v, r, rfl, h2, h3⟩ := h
    obtain ⟨w, e1, e2⟩ := RepL.get (i := i) h3 (by simpa using e)
    exact ⟨w, by simpa using e1, e2⟩
theorem RepL.getV {F : Hp} : ∀ {ds : List D} {vs : List V} {i : Nat} {v : V}, RepL K mg F ds vs → vs[i]? = some v → ∃ d, ds[i]? = some d ∧ Rep K mg F d v
  | [], vs, i, d, h, e => by
    have h : vs = [] := h
    subst h
    simp at e
  | d :: ds, vs, 0, x, h, e => by
    obtain ⟨v, r, rfl, h2, h3⟩ := h
    have e : v = x := by simpa using e
    exact ⟨d, rfl, e ▸ h2⟩
  | d :: ds, vs, i + 1, x, h, e => by
    obtain ⟨v, r, rfl, h2, h3⟩ := h
    obtain ⟨w, e1, e2⟩ := RepL.getV (i := i) h3 (by simpa using e)
    exact ⟨w, by simpa using e1, e2⟩
theorem RepL.append {F : Hp} : ∀ {ds : List D} {vs : List V} {es : List D} {ws : List V}, RepL K mg F ds vs → RepL K mg F es ws → RepL K mg F (ds ++ es) (vs ++ ws)
  | [], vs, es, ws, h, h' => by
    have h : vs = [] := h
    subst h
    exact h'
  | d :: ds, vs, es, ws, h, h' => by
    obtain ⟨v, r, rfl, h2, h3⟩ := h
    exact ⟨v, r ++ ws, rfl, h2, RepL.append h3 h'⟩
theorem RepL.take {F : Hp} : ∀ {ds : List D} {vs : List V} (n : Nat), RepL K mg F ds vs → RepL K mg F (ds.take n) (vs.take n)
  | ds, vs, 0, h => by rw [List.take_zero, List.take_zero]; exact rfl
  | [], vs, n + 1, h => by
    have h : vs = [] := h
    subst h
    exact rfl
  | d :: ds, vs, n + 1, h => by
    obtain ⟨v, r, rfl, h2, h3⟩ := h
    exact ⟨v, r.take n, rfl, h2, RepL.take n h3⟩
theorem RepL.drop {F : Hp} : ∀ {ds : List D} {vs : List V} (n : Nat), RepL K mg F ds vs → RepL K mg F (ds.drop n) (vs.drop n)
  | ds, vs, 0, h => by rw [List.drop_zero, List.drop_zero]; exact h
  | [], vs, n + 1, h => by
    have h : vs = [] := h
    subst h
    exact rfl
  | d :: ds, vs, n + 1, h => by
    obtain ⟨v, r, rfl, h2, h3⟩ := h
    exact RepL.drop n h3
theorem RepL.set {F : Hp} : ∀ {ds : List D} {vs : List V} (n : Nat) {d : D} {v : V}, RepL K mg F ds vs → Rep K mg F d v → RepL K mg F (ds.set n d) (vs.set n v)
  | [], vs, n, d, v, h, hd => by
    have h : vs = [] := h
    subst h
    exact rfl
  | x :: ds, vs, 0, d, v, h, hd => by
    obtain ⟨w, r, rfl, h2, h3⟩ := h
    exact ⟨v, r, rfl, hd, h3⟩
  | x :: ds, vs, n + 1, d, v, h, hd => by
    obtain ⟨w, r, rfl, h2, h3⟩ := h
    exact ⟨w, r.set n v, rfl, h2, RepL.set n h3 hd⟩
theorem RepL.one {F : Hp} {d : D} {v : V} (h : Rep K mg F d v) : RepL K mg F [d] [v] := ⟨v, [], rfl, h, rfl⟩
theorem RepL.snoc {F : Hp} {ds : List D} {vs : List V} {d : D} {v : V} (h : RepL K mg F ds vs) (hd : Rep K mg F d v) : RepL K mg F (ds ++ [d]) (vs ++ [v]) := h.append (.one hd)
theorem RepL.reverse {F : Hp} : ∀ {ds : List D} {vs : List V}, RepL K mg F ds vs → RepL K mg F ds.reverse vs.reverse
  | [], vs, h => by
    have h : vs = [] := h
    subst h
    exact rfl
  | d :: ds, vs, h => by
    obtain ⟨v, r, rfl, h2, h3⟩ := h
    rw [List.reverse_cons, List.reverse_cons]
    exact h3.reverse.snoc h2
theorem RepL.nil_iff {F : Hp} {ds : List D} {vs : List V} (h : RepL K mg F ds vs) : ds.isEmpty = vs.isEmpty := by
  have e := h.length
  cases ds <;> cases vs <;> simp_all
theorem RepK.length {F : Hp} : ∀ {ds : List (Key × D)} {vs : List (Key × V)}, RepK K mg F ds vs → ds.length = vs.length
  | [], vs, h => by
    have h : vs = [] := h
    rw [h] <;> rfl
  | (k, d) :: ds, vs, h => by
    obtain ⟨v, r, rfl, h2, h3⟩ := h
    rw [List.length_cons, List.length_cons, RepK.length h3]

/-! ### pairs by key -/
def valD (kvs : List (Key × D)) (k : Key) : Option D := (kvs.find? fun kv => decide (kv.1 = k)).map (·.2)
def putD (kvs : List (Key × D)) (k : Key) (v : D) : List (Key × D) :=
  if (kvs.any fun kv => decide (kv.1 = k)) = true then kvs.map (fun kv => if kv.1 = k then (kv.1, v) else kv) else kvs ++ [(k, v)]
def dropD (kvs : List (Key × D)) (k : Key) : List (Key × D) := kvs.filter fun kv => decide (kv.1 ≠ k)
def mergeD (kvs more : List (Key × D)) : List (Key × D) := more.foldl (fun acc kv => putD acc kv.1 kv.2) kvs
theorem RepK.val {F : Hp} : ∀ {kvs : List (Key × D)} {vs : List (Key × V)} (k : Key), RepK K mg F kvs vs → (valD kvs k = none ∧ valV vs k = none) ∨ ∃ d v, valD kvs k = some d ∧ valV vs k = some v ∧ Rep K mg F d v
  | [], vs, k, h => by
    have h : vs = [] := h
    subst h
    exact .inl ⟨rfl, rfl⟩
  | (j, d) :: ds, vs, k, h => by
    obtain ⟨v, r, rfl, h2, h3⟩ := h
    by_cases e : j = k
    · refine .inr ⟨d, v, ?_, ?_, h2⟩
      · unfold valD; simp [e]
      · exact valV_pos e
    · have e1 : valD ((j, d) :: ds) k = valD ds k := by unfold valD; simp [e]
      have e2 : valV ((j, v) :: r) k = valV r k := valV_neg e
      rw [e1, e2]
      exact RepK.val k h3
theorem RepK.any {F : Hp} : ∀ {kvs : List (Key × D)} {vs : List (Key × V)} (k : Key), RepK K mg F kvs vs → (kvs.any fun kv => decide (kv.1 = k)) = vs.any fun kv => decide (kv.1 = k)
  | [], vs, k, h => by
    have h : vs = [] := h
    subst h
    rfl
  | (j, d) :: ds, vs, k, h => by
    obtain ⟨v, r, rfl, h2, h3⟩ := h
    rw [List.any_cons, List.any_cons, RepK.any k h3]
theorem RepK.append {F : Hp} : ∀ {ds : List (Key × D)} {vs : List (Key × V)} {es : List (Key × D)} {ws : List (Key × V)}, RepK K mg F ds vs → RepK K mg F es ws → RepK K mg F (ds ++ es) (vs ++ ws)
  | [], vs, es, ws, h, h' => by
    have h : vs = [] := h
    subst h
    exact h'
  | (k, d) :: ds, vs, es, ws, h, h' => by
    obtain ⟨v, r, rfl, h2, h3⟩ := h
    exact ⟨v, r ++ ws, rfl, h2, RepK.append h3 h'⟩
theorem RepK.mapv {F : Hp} {d : D} {v : V} (hd : Rep K mg F d v) (k : Key) : ∀ {kvs : List (Key × D)} {vs : List (Key × V)}, RepK K mg F kvs vs →
    RepK K mg F (kvs.map fun kv => if kv.1 = k then (kv.1, d) else kv) (vs.map fun kv => if kv.1 = k then (kv.1, v) else kv)
  | [], vs, h => by
    have h : vs = [] := h
    subst h
    exact rfl
  | (j, x) :: ds, vs, h => by
    obtain ⟨w, r, rfl, h2, h3⟩ := h
    have ih := RepK.mapv hd k h3
    rw [List.map_cons, List.map_cons]
    by_cases e : j = k
    · rw [if_pos e, if_pos e]
      exact ⟨v, _, rfl, hd, ih⟩
    · rw [if_neg e, if_neg e]
      exact ⟨w, _, rfl, h2, ih⟩
theorem RepK.put {F : Hp} {kvs : List (Key × D)} {vs : List (Key × V)} (h : RepK K mg F kvs vs) (k : Key) {d : D} {v : V} (hd : Rep K mg F d v) : RepK K mg F (putD kvs k d) (putK vs k v) := by
  unfold putD putK
  rw [h.any k]
  split
  · exact h.mapv hd k
  · exact h.append ⟨v, [], rfl, hd, rfl⟩
theorem RepK.drop {F : Hp} (k : Key) : ∀ {kvs : List (Key × D)} {vs : List (Key × V)}, RepK K mg F kvs vs → RepK K mg F (dropD kvs k) (dropK vs k)
  | [], vs, h => by
    have h : vs = [] := h
    subst h
    exact rfl
  | (j, x) :: ds, vs, h => by
    obtain ⟨w, r, rfl, h2, h3⟩ := h
    have ih := RepK.drop k h3
    unfold dropD dropK at ih ⊢
    rw [List.filter_cons, List.filter_cons]
    by_cases e : j = k
    · rw [if_neg (by simp [e]), if_neg (by simp [e])]
      exact ih
    · rw [if_pos (by simp [e]), if_pos (by simp [e])]
      exact ⟨w, _, rfl, h2, ih⟩
theorem RepK.merge {F : Hp} : ∀ {more : List (Key × D)} {mvs : List (Key × V)} {kvs : List (Key × D)} {vs : List (Key × V)}, RepK K mg F more mvs → RepK K mg F kvs vs → RepK K mg F (mergeD kvs more) (mergeK vs mvs)
  | [], mvs, kvs, vs, h, h' => by
    have h : mvs = [] := h
    subst h
    exact h'
  | (k, d) :: ds, mvs, kvs, vs, h, h' => by
    obtain ⟨v, r, rfl, h2, h3⟩ := h
    show RepK K mg F (mergeD (putD kvs k d) ds) (mergeK (putK vs k v) r)
    exact RepK.merge h3 (h'.put k h2)
theorem RepK.getV {F : Hp} : ∀ {ds : List (Key × D)} {vs : List (Key × V)} {i : Nat} {k : Key} {v : V}, RepK K mg F ds vs → vs[i]? = some (k, v) → ∃ d, ds[i]? = some (k, d) ∧ Rep K mg F d v
  | [], vs, i, k, d, h, e => by
    have h : vs = [] := h
    subst h
    simp at e
  | (j, d) :: ds, vs, 0, k, x, h, e => by
    obtain ⟨v, r, rfl, h2, h3⟩ := h
    have e : (j, v) = (k, x) := by simpa using e
    cases e
    exact ⟨d, rfl, h2⟩
  | (j, d) :: ds, vs, i + 1, k, x, h, e => by
    obtain ⟨v, r, rfl, h2, h3⟩ := h
    obtain ⟨w, e1, e2⟩ := RepK.getV (i := i) h3 (by simpa using e)
    exact ⟨w, by simpa using e1, e2⟩
/-! ### fields by name -/
def lookD (fs : List (Str × D)) (f : Str) : Option D := fs.lookup f
def putFD (f : Str) (v : D) : List (Str × D) → List (Str × D)
  | [] => [(f, v)]
  | (g, x) :: r => if g = f then (g, v) :: r else (g, x) :: putFD f v r
theorem RepF.look {F : Hp} : ∀ {fs : List (Str × D)} {vs : List (Str × V)} {f : Str} {d : D}, RepF K mg F fs vs → fs.lookup f = some d → ∃ v, vs.lookup f = some v ∧ Rep K mg F d v
  | [], vs, f, d, h, e => by simp at e
  | (g, x) :: fs, vs, f, d, h, e => by
    obtain ⟨v, r, rfl, h2, h3⟩ := h
    rw [List.lookup_cons] at e
    rw [List.lookup_cons]
    cases q : f == g with
    | true => rw [q] at e; cases e; exact ⟨v, rfl, h2⟩
    | false => rw [q] at e; exact RepF.look h3 e
theorem RepF.lookNone {F : Hp} : ∀ {fs : List (Str × D)} {vs : List (Str × V)} {f : Str}, RepF K mg F fs vs → fs.lookup f = none → vs.lookup f = none
  | [], vs, f, h, e => by
    have h : vs = [] := h
    subst h
    rfl
  | (g, x) :: fs, vs, f, h, e => by
    obtain ⟨v, r, rfl, h2, h3⟩ := h
    rw [List.lookup_cons] at e
    rw [List.lookup_cons]
    cases q : f == g with
    | true => rw [q] at e; cases e
    | false => rw [q] at e; exact RepF.lookNone h3 e
theorem RepF.put {F : Hp} {d : D} {v : V} (hd : Rep K mg F d v) (f : Str) : ∀ {fs : List (Str × D)} {vs : List (Str × V)}, RepF K mg F fs vs → RepF K mg F (putFD f d fs) (putF f v vs)
  | [], vs, h => by
    have h : vs = [] := h
    subst h
    exact ⟨v, [], rfl, hd, rfl⟩
  | (g, x) :: fs, vs, h => by
    obtain ⟨w, r, rfl, h2, h3⟩ := h
    unfold putFD putF
    by_cases e : g = f
    · rw [if_pos e, if_pos e]
      exact ⟨v, r, rfl, hd, h3⟩
    · rw [if_neg e, if_neg e]
      exact ⟨w, _, rfl, h2, RepF.put hd f h3⟩
theorem RepF.length {F : Hp} : ∀ {fs : List (Str × D)} {vs : List (Str × V)}, RepF K mg F fs vs → fs.length = vs.length
  | [], vs, h => by
    have h : vs = [] := h
    rw [h] <;> rfl
  | (k, d) :: ds, vs, h => by
    obtain ⟨v, r, rfl, h2, h3⟩ := h
    rw [List.length_cons, List.length_cons, RepF.length h3]
end

/-! ### values, what stands at an address -/
/-- a value: data, or an object of the store (at L) -/
def VRep (K : PySem.W.Frag) (mg : Glob) (L : List Addr) (F : Hp) (d : D) (v : V) : Prop := (∃ n a, d = .loc n ∧ L[n]? = some a ∧ v = .ref a) ∨ Rep K mg F d v
/-- at a in H stands what d tells, its parts in F -/
def Has (K : PySem.W.Frag) (mg : Glob) (F H : Hp) (a : Addr) : D → Prop
  | .lst ds => ∃ vs, H a = some (.lst vs) ∧ RepL K mg F ds vs
  | .dct kvs => ∃ kv, H a = some (.dK kv) ∧ RepK K mg F kvs kv
  | .ins c fs => ∃ C dx fv, mg c = some (.ref C) ∧ H a = some (.ins C dx fv) ∧ RepF K mg F fs fv
  | _ => False
section
variable {K : PySem.W.Frag} {mg : Glob} {L : List Addr} {F F' H H' : Hp} {a : Addr} {d : D} {v : V}
theorem Has.mono (h : Has K mg F H a d) (e : Ex F F') (k : ∀ o, H a = some o → H' a = some o) : Has K mg F' H' a d := by
  cases d with
  | lst ds => obtain ⟨vs, h1, h2⟩ := h; exact ⟨vs, k _ h1, RepL.mono e ds h2⟩
  | dct kvs => obtain ⟨vs, h1, h2⟩ := h; exact ⟨vs, k _ h1, RepK.mono e kvs h2⟩
  | ins c fs => obtain ⟨C, dx, fv, h1, h2, h3⟩ := h; exact ⟨C, dx, fv, h1, k _ h2, RepF.mono e fs h3⟩
  | _ => exact h
theorem Has.there (h : Has K mg F H a d) : ∃ o, H a = some o := by
  cases d with
  | lst ds => obtain ⟨vs, h1, h2⟩ := h; exact ⟨_, h1⟩
  | dct kvs => obtain ⟨vs, h1, h2⟩ := h; exact ⟨_, h1⟩
  | ins c fs => obtain ⟨C, dx, fv, h1, h2, h3⟩ := h; exact ⟨_, h2⟩
  | _ => exact h.elim
/-- it stands still from now on -/
theorem Has.still {o : HO} (h : Has K mg F H a d) (e : H a = some o) (n : F a = none) : Rep K mg (upd F a o) d (.ref a) := by
  have x : Ex F (upd F a o) := Ex.new n
  cases d with
  | lst ds => obtain ⟨vs, h1, h2⟩ := h; rw [e] at h1; cases h1; exact ⟨a, vs, rfl, upd_same, RepL.mono x ds h2⟩
  | dct kvs => obtain ⟨vs, h1, h2⟩ := h; rw [e] at h1; cases h1; exact ⟨a, vs, rfl, .inl upd_same, RepK.mono x kvs h2⟩
  | ins c fs => obtain ⟨C, dx, fv, h1, h2, h3⟩ := h; rw [e] at h2; cases h2; exact ⟨a, C, dx, fv, rfl, h1, upd_same, RepF.mono x fs h3⟩
  | _ => exact h.elim
theorem VRep.data (h : Rep K mg F d v) : VRep K mg L F d v := .inr h
theorem VRep.mono {M : List Addr} (h : VRep K mg L F d v) (e : Ex F F') : VRep K mg (L ++ M) F' d v := by
  rcases h with ⟨n, a, h1, h2, h3⟩ | h
  · refine .inl ⟨n, a, h1, ?_, h3⟩
    obtain ⟨hl, _⟩ := List.getElem?_eq_some_iff.mp h2
    rw [List.getElem?_append_left hl]
    exact h2
  · exact .inr (Rep.mono e d h)
theorem VRep.int {i : Int} (h : VRep K mg L F (.int i) v) : v = .int i := by
  rcases h with ⟨n, a, h1, _⟩ | h
  · cases h1
  · exact h
theorem VRep.bl {b : Bool} (h : VRep K mg L F (.bl b) v) : v = .bl b := by
  rcases h with ⟨n, a, h1, _⟩ | h
  · cases h1
  · exact h
theorem VRep.str {s : Str} (h : VRep K mg L F (.str s) v) : v = .str s := by
  rcases h with ⟨n, a, h1, _⟩ | h
  · cases h1
  · exact h
theorem VRep.non (h : VRep K mg L F .non v) : v = .non := by
  rcases h with ⟨n, a, h1, _⟩ | h
  · cases h1
  · exact h
theorem VRep.loc {n : Nat} (h : VRep K mg L F (.loc n) v) : ∃ a, L[n]? = Option.some a ∧ v = .ref a := by
  rcases h with ⟨m, a, h1, h2, h3⟩ | h
  · cases h1; exact ⟨a, h2, h3⟩
  · exact h.elim
end

def VRepL (K : PySem.W.Frag) (mg : Glob) (L : List Addr) (F : Hp) : List D → List V → Prop
  | [], vs => vs = []
  | d :: ds, vs => ∃ v r, vs = v :: r ∧ VRep K mg L F d v ∧ VRepL K mg L F ds r
section
variable {K : PySem.W.Frag} {mg : Glob} {L : List Addr} {F F' : Hp}
theorem VRepL.mono {M : List Addr} (e : Ex F F') : ∀ {ds : List D} {vs : List V}, VRepL K mg L F ds vs → VRepL K mg (L ++ M) F' ds vs
  | [], vs, h => h
  | d :: ds, vs, h => by
    obtain ⟨v, r, h1, h2, h3⟩ := h
    exact ⟨v, r, h1, h2.mono e, VRepL.mono e h3⟩
theorem VRepL.length : ∀ {ds : List D} {vs : List V}, VRepL K mg L F ds vs → ds.length = vs.length
  | [], vs, h => by
    have h : vs = [] := h
    rw [h] <;> rfl
  | d :: ds, vs, h => by
    obtain ⟨v, r, rfl, h2, h3⟩ := h
    rw [List.length_cons, List.length_cons, VRepL.length h3]
theorem VRepL.get : ∀ {ds : List D} {vs : List V} {i : Nat} {d : D}, VRepL K mg L F ds vs → ds[i]? = some d → ∃ v, vs[i]? = some v ∧ VRep K mg L F d v
  | [], vs, i, d, h, e => by simp at e
  | d :: ds, vs, 0, x, h, e => by
    obtain ⟨v, r, rfl, h2, h3⟩ := h
    have e : d = x := by simpa using e
    exact ⟨v, rfl, e ▸ h2⟩
  | d :: ds, vs, i + 1, x, h, e => by
    obtain ⟨v, r, rfl, h2, h3⟩ := h
    obtain ⟨w, e1, e2⟩ := VRepL.get (i := i) h3 (by simpa using e)
    exact ⟨w, by simpa using e1, e2⟩
end

/-! ### one step of the heaps -/
/-- the store -/
abbrev Store := List D
structure Stp (F : Hp) (L : List Addr) (H F' : Hp) (L' : List Addr) (H' : Hp) : Prop where
  ex : Ex F F'
  pre : ∃ M, L' = L ++ M
  kp : ∀ a o, H a = some o → a ∉ L → H' a = some o ∧ F' a = F a ∧ a ∉ L'
structure Sto (K : PySem.W.Frag) (mg : Glob) (F : Hp) (L : List Addr) (H : Hp) (st : Store) : Prop where
  ex : ExF F H
  nd : L.Nodup
  len : L.length = st.length
  at_ : ∀ (n : Nat) (a : Addr) (d : D), L[n]? = some a → st[n]? = some d → F a = none ∧ Has K mg F H a d
section
variable {K : PySem.W.Frag} {mg : Glob} {F F1 F2 H H1 H2 : Hp} {L L1 L2 : List Addr} {st : Store} {d : D} {u : V} {a : Addr} {o : HO}
theorem Stp.refl : Stp F L H F L H := ⟨Ex.refl F, ⟨[], (List.append_nil L).symm⟩, fun a o h n => ⟨h, rfl, n⟩⟩
theorem Stp.trans (x : Stp F L H F1 L1 H1) (y : Stp F1 L1 H1 F2 L2 H2) : Stp F L H F2 L2 H2 := by
  refine ⟨x.ex.trans y.ex, ?_, fun a o h n => ?_⟩
  · obtain ⟨M, e⟩ := x.pre
    obtain ⟨M', e'⟩ := y.pre
    exact ⟨M ++ M', by rw [e', e, List.append_assoc]⟩
  · obtain ⟨h1, h2, h3⟩ := x.kp a o h n
    obtain ⟨g1, g2, g3⟩ := y.kp a o h1 h3
    exact ⟨g1, g2.trans h2, g3⟩
theorem Stp.vrep (x : Stp F L H F1 L1 H1) (h : VRep K mg L F d u) : VRep K mg L1 F1 d u := by
  obtain ⟨M, e⟩ := x.pre
  rw [e]
  exact h.mono x.ex
theorem Stp.vrepl (x : Stp F L H F1 L1 H1) {ds : List D} {vs : List V} (h : VRepL K mg L F ds vs) : VRepL K mg L1 F1 ds vs := by
  obtain ⟨M, e⟩ := x.pre
  rw [e]
  exact h.mono x.ex
theorem Stp.mem (x : Stp F L H F1 L1 H1) (h : a ∈ L) : a ∈ L1 := by
  obtain ⟨M, e⟩ := x.pre
  rw [e]
  exact List.mem_append_left _ h
theorem Sto.mem (x : Sto K mg F L H st) (h : a ∈ L) : F a = none ∧ ∃ o, H a = some o := by
  obtain ⟨n, hn, e⟩ := List.getElem_of_mem h
  have h2 : n < st.length := by rw [← x.len]; exact hn
  obtain ⟨h3, h4⟩ := x.at_ n a st[n] (by rw [List.getElem?_eq_getElem hn, e]) (List.getElem?_eq_getElem h2)
  exact ⟨h3, h4.there⟩
/-- a new still object -/
theorem Stp.still (e : ExF F H) (n : H a = none) : Stp F L H (upd F a o) L (upd H a o) := by
  have nF : F a = none := e.free n
  refine ⟨Ex.new nF, ⟨[], (List.append_nil L).symm⟩, fun b u h nb => ?_⟩
  have hb : b ≠ a := ne_of_none h n
  exact ⟨by rw [upd_ne hb]; exact h, by rw [upd_ne hb], nb⟩
theorem Sto.still (x : Sto K mg F L H st) (n : H a = none) : Sto K mg (upd F a o) L (upd H a o) st := by
  have nF := x.ex.free n
  refine ⟨fun b u h => ?_, x.nd, x.len, fun m b d h1 h2 => ?_⟩
  · by_cases hb : b = a
    · subst hb; rw [upd_same] at h ⊢; exact .inl h
    · rw [upd_ne hb] at h ⊢; exact x.ex b u h
  · obtain ⟨h3, h4⟩ := x.at_ m b d h1 h2
    obtain ⟨u, hu⟩ := h4.there
    have hb : b ≠ a := ne_of_none hu n
    refine ⟨by rw [upd_ne hb]; exact h3, h4.mono (Ex.new nF) fun u q => by rw [upd_ne hb]; exact q⟩
theorem Sto.there (x : Sto K mg F L H st) : ∀ a ∈ L, ∃ o, H a = some o := fun a h => (x.mem h).2
/-- a new object that may change -/
theorem Stp.fresh (n : H a = none) : Stp F L H F L (upd H a o) := by
  refine ⟨Ex.refl F, ⟨[], (List.append_nil L).symm⟩, fun b u h nb => ?_⟩
  have hb : b ≠ a := ne_of_none h n
  exact ⟨by rw [upd_ne hb]; exact h, rfl, nb⟩
theorem Sto.fresh (x : Sto K mg F L H st) (n : H a = none) : Sto K mg F L (upd H a o) st := by
  refine ⟨x.ex.more (Ex.new n), x.nd, x.len, fun m b d h1 h2 => ?_⟩
  obtain ⟨h3, h4⟩ := x.at_ m b d h1 h2
  obtain ⟨u, hu⟩ := h4.there
  have hb : b ≠ a := ne_of_none hu n
  exact ⟨h3, h4.mono (Ex.refl F) fun u q => by rw [upd_ne hb]; exact q⟩
/-- an object that may change stands still from now on -/
theorem Sto.freeze (x : Sto K mg F L H st) (h : H a = some o) (nL : a ∉ L) (nF : F a = none) : Sto K mg (upd F a o) L H st := by
  refine ⟨fun b u q => ?_, x.nd, x.len, fun m b d h1 h2 => ?_⟩
  · by_cases hb : b = a
    · subst hb; rw [upd_same] at q; cases q; exact .inl h
    · rw [upd_ne hb] at q; exact x.ex b u q
  · obtain ⟨h3, h4⟩ := x.at_ m b d h1 h2
    have hb : b ≠ a := fun z => nL (by rw [← z]; exact List.mem_of_getElem? h1)
    exact ⟨by rw [upd_ne hb]; exact h3, h4.mono (Ex.new nF) fun u q => q⟩
/-- .. an object that a step had made -/
theorem Stp.freeze (x : Stp F L H F1 L1 H1) (n : H a = none) (nF : F1 a = none) : Stp F L H (upd F1 a o) L1 H1 := by
  refine ⟨x.ex.trans (Ex.new nF), x.pre, fun b u h nb => ?_⟩
  obtain ⟨h1, h2, h3⟩ := x.kp b u h nb
  have hb : b ≠ a := ne_of_none h n
  exact ⟨h1, by rw [upd_ne hb]; exact h2, h3⟩
end

/-! ### outcomes -/
/-- of an expression, a call -/
inductive RC (α : Type) where
  | ok (a : α) (st : Store)
  | exc (c : Str) (fs : List (Str × D)) (st : Store)
  | bad
def RC.bind {α β : Type} (x : RC α) (f : α → Store → RC β) : RC β := match x with
  | .ok a st => f a st
  | .exc c fs st => .exc c fs st
  | .bad => .bad
@[simp] theorem RC.bind_ok {α β : Type} (a : α) (st : Store) (f : α → Store → RC β) : (RC.ok a st).bind f = f a st := rfl
@[simp] theorem RC.bind_exc {α β : Type} (c : Str) (fs : List (Str × D)) (st : Store) (f : α → Store → RC β) : (RC.exc c fs st : RC α).bind f = .exc c fs st := rfl
@[simp] theorem RC.bind_bad {α β : Type} (f : α → Store → RC β) : (RC.bad : RC α).bind f = .bad := rfl
/-- a slot: nothing, data (or an object of the store), a list or dict of its own, a caught exception -/
inductive Sl where
  | un | val (d : D) | own (d : D) | exc (c : Str) (fs : List (Str × D))
abbrev REnv := List Sl
abbrev EDen := REnv → Store → RC D
abbrev TDen := REnv → Store → RC Bool
abbrev ADen := REnv → Store → RC (List D)
/-- of a statement -/
inductive SR where
  | nx (ρ : REnv) (st : Store) | rt (d : D) (st : Store) | bk (ρ : REnv) (st : Store) | ct (ρ : REnv) (st : Store)
  | exc (c : Str) (fs : List (Str × D)) (ρ : REnv) (st : Store) | bad
abbrev SDen := REnv → Store → SR
abbrev CallF := List D → Store → RC D
end Gh
/-! Gh1: the relation between a frame and its data; readings by denotations; the core rules. -/
namespace Gh
open L2 PyProof.Rows PySem.Spec PySem

abbrev St := L2.St

/-- what stood at the def's entry; the exception that a suite holds -/
structure Ent where
  F0 : Hp
  L0 : List Addr
  H0 : Hp
  x : Option (Nat × Addr × Value × Option Addr) := none
/-- an exception of the class c with fields fs -/
def Exc (K : PySem.W.Frag) (mg : Glob) (F : Hp) (c : Str) (fs : List (Str × D)) (cls : Value) (dd : Option Addr) : Prop :=
  ∃ C d fv, mg c = some (.ref C) ∧ cls = .ref C ∧ dd = some d ∧ F d = some (.xd fv) ∧ RepF K mg F fs fv
theorem Exc.mono {K : PySem.W.Frag} {mg : Glob} {F F' : Hp} {c : Str} {fs : List (Str × D)} {cls : Value} {dd : Option Addr} (h : Exc K mg F c fs cls dd) (e : Ex F F') : Exc K mg F' c fs cls dd := by
  obtain ⟨C, d, fv, h1, h2, h3, h4, h5⟩ := h
  exact ⟨C, d, fv, h1, h2, h3, e _ _ h4, RepF.mono e fs h5⟩
structure Rl (K : PySem.W.Frag) (mg : Glob) (Γ : Ent) (F : Hp) (L : List Addr) (σ : St) (H : Hp) (ρ : REnv) (st : Store) : Prop where
  sto : Sto K mg F L H st
  stp : Stp Γ.F0 Γ.L0 Γ.H0 F L H
  sl : ∀ (i : Nat) (d : D), ρ[i]? = some (Sl.val d) → ∃ v, σ[i]? = some (some v) ∧ VRep K mg L F d v
  so : ∀ (i : Nat) (d : D), ρ[i]? = some (Sl.own d) → ∃ a, σ[i]? = some (some (.ref a)) ∧ F a = none ∧ a ∉ L ∧ Γ.H0 a = none ∧ Has K mg F H a d
  sd : ∀ (i j : Nat) (d e : D) (a : Addr), ρ[i]? = some (Sl.own d) → ρ[j]? = some (Sl.own e) → σ[i]? = some (some (.ref a)) → σ[j]? = some (some (.ref a)) → i = j
  sx : ∀ (i : Nat) (c : Str) (fs : List (Str × D)), ρ[i]? = some (Sl.exc c fs) → ∃ a cls dd, Γ.x = some (i, a, cls, dd) ∧ σ[i]? = some (some (.ref a)) ∧ Exc K mg F c fs cls dd
  len : ρ.length = σ.length
section
variable {K : PySem.W.Frag} {mg : Glob} {Γ : Ent} {F F' F1 H H' H1 : Hp} {L L' L1 : List Addr} {σ : St} {ρ : REnv} {st st' st1 : Store}
theorem Rl.step (r : Rl K mg Γ F L σ H ρ st) (s : Stp F L H F' L' H') (o : Sto K mg F' L' H' st') : Rl K mg Γ F' L' σ H' ρ st' := by
  refine ⟨o, r.stp.trans s, fun i d e => ?_, fun i d e => ?_, r.sd, fun i c fs e => ?_, r.len⟩
  · obtain ⟨v, h1, h2⟩ := r.sl i d e
    exact ⟨v, h1, s.vrep h2⟩
  · obtain ⟨a, h1, h2, h3, h4, h5⟩ := r.so i d e
    obtain ⟨u, hu⟩ := h5.there
    obtain ⟨g1, g2, g3⟩ := s.kp a u hu h3
    exact ⟨a, h1, g2.trans h2, g3, h4, h5.mono s.ex fun w q => by rw [hu] at q; cases q; exact g1⟩
  · obtain ⟨a, cls, dd, h1, h2, h3⟩ := r.sx i c fs e
    exact ⟨a, cls, dd, h1, h2, h3.mono s.ex⟩
/-- new now is new since the entry -/
theorem Rl.new0 (r : Rl K mg Γ F L σ H ρ st) {a : Addr} (n : H a = none) : Γ.H0 a = none := by
  cases q : Γ.H0 a with
  | none => rfl
  | some o =>
    by_cases hm : a ∈ Γ.L0
    · obtain ⟨u, hu⟩ := (r.sto.mem (r.stp.mem hm)).2
      rw [n] at hu; cases hu
    · have := (r.stp.kp a o q hm).1
      rw [n] at this; cases this
theorem Rl.newL (r : Rl K mg Γ F L σ H ρ st) {a : Addr} (n : H a = none) : a ∉ L := fun h => by
  obtain ⟨u, hu⟩ := (r.sto.mem h).2
  rw [n] at hu; cases hu
theorem Rl.newF (r : Rl K mg Γ F L σ H ρ st) {a : Addr} (n : H a = none) : F a = none := r.sto.ex.free n
end

/-- what is wished of an outcome -/
def Post {α : Type} (K : PySem.W.Frag) (mg : Glob) (W : WX) (σ : St) (F : Hp) (L : List Addr) (H : Hp) (r : RC α) (ok : Hp → List Addr → Hp → Store → α → Prop) : Prop := match r with
  | .ok d st' => ∀ F' L' H', Stp F L H F' L' H' → Sto K mg F' L' H' st' → ok F' L' H' st' d
  | .exc c fs st' => ∀ F' L' H' cls dd, Stp F L H F' L' H' → Sto K mg F' L' H' st' → Exc K mg F' c fs cls dd → W cls dd σ H'
  | .bad => False
section
variable {α β : Type} {K : PySem.W.Frag} {mg : Glob} {W : WX} {Γ : Ent} {F F' F1 H H' H1 : Hp} {L L' L1 : List Addr} {σ : St} {ρ : REnv} {st st' st1 : Store} {r : RC α} {f : α → Store → RC β}
  {ok ok' : Hp → List Addr → Hp → Store → α → Prop} {okb : Hp → List Addr → Hp → Store → β → Prop}
theorem Post.step (h : Post K mg W σ F L H r ok) (s : Stp F L H F1 L1 H1) : Post K mg W σ F1 L1 H1 r ok := by
  cases r with
  | ok d st' => exact fun F' L' H' s' o => h F' L' H' (s.trans s') o
  | exc c fs st' => exact fun F' L' H' cls dd s' o e => h F' L' H' cls dd (s.trans s') o e
  | bad => exact h.elim
theorem Post.imp (h : Post K mg W σ F L H r ok) (k : ∀ F' L' H' st' d, Stp F L H F' L' H' → Sto K mg F' L' H' st' → ok F' L' H' st' d → ok' F' L' H' st' d) : Post K mg W σ F L H r ok' := by
  cases r with
  | ok d st' => exact fun F' L' H' s' o => k F' L' H' st' d s' o (h F' L' H' s' o)
  | exc c fs st' => exact h
  | bad => exact h.elim
theorem Post.impE (h : Post K mg W σ F L H r ok) (k : ∀ F' L' H' st' d, r = .ok d st' → Stp F L H F' L' H' → Sto K mg F' L' H' st' → ok F' L' H' st' d → ok' F' L' H' st' d) : Post K mg W σ F L H r ok' := by
  cases r with
  | ok d st' => exact fun F' L' H' s o => k F' L' H' st' d rfl s o (h F' L' H' s o)
  | exc c fs st' => exact h
  | bad => exact h.elim
theorem Post.bind (h : Post K mg W σ F L H (r.bind f) okb) : Post K mg W σ F L H r (fun F1 L1 H1 st1 d => Post K mg W σ F1 L1 H1 (f d st1) okb) := by
  cases r with
  | ok d st' => exact fun F' L' H' s' o => Post.step (r := f d st') h s'
  | exc c fs st' => exact h
  | bad => exact h.elim
theorem Post.okD {d : α} (h : Post K mg W σ F L H (.ok d st) ok) (s : Stp F L H F' L' H') (o : Sto K mg F' L' H' st) : ok F' L' H' st d := h F' L' H' s o
theorem Post.here {d : α} (h : Post K mg W σ F L H (.ok d st) ok) (o : Sto K mg F L H st) : ok F L H st d := h F L H Stp.refl o
end

/-! ### kinds of results -/
abbrev Kd := PySem.W.Frag → Glob → St → Hp → REnv → Hp → List Addr → Hp → D → V → Prop
/-- a value -/
def kV : Kd := fun K mg _ _ _ F L _ d v => VRep K mg L F d v
/-- something that is read: a value, or a list or dict of the frame's own -/
def kR : Kd := fun K mg σ _ ρ F L _ d v => VRep K mg L F d v ∨ ∃ i : Nat, ρ[i]? = some (Sl.own d) ∧ σ[i]? = some (some v)
/-- a new list, dict, object that none knows but who asked for it -/
def kO : Kd := fun K mg _ H _ F L H' d v => ∃ a, v = .ref a ∧ H a = none ∧ F a = none ∧ a ∉ L ∧ Has K mg F H' a d

def teG (k : Kd) (K : PySem.W.Frag) (mg : Glob) (Γ : Ent) (W : WX) (m : EDen) : TE := fun σ H Q => ∃ F L ρ st, Rl K mg Γ F L σ H ρ st ∧
  Post K mg W σ F L H (m ρ st) fun F' L' H' _ d => ∀ v, k K mg σ H ρ F' L' H' d v → Q v H'
abbrev teV := teG kV
abbrev teR := teG kR
abbrev teO := teG kO
def ttG (K : PySem.W.Frag) (mg : Glob) (Γ : Ent) (W : WX) (m : TDen) : TT := fun σ H Q => ∃ F L ρ st, Rl K mg Γ F L σ H ρ st ∧
  Post K mg W σ F L H (m ρ st) fun F' L' H' _ b => Q b H'
def taG (K : PySem.W.Frag) (mg : Glob) (Γ : Ent) (W : WX) (m : ADen) : TA := fun σ H Q => ∃ F L ρ st, Rl K mg Γ F L σ H ρ st ∧
  Post K mg W σ F L H (m ρ st) fun F' L' H' _ ds => ∀ vs, VRepL K mg L' F' ds vs → Q vs H'

theorem pe_imp {X : Cx} {e : Expr} {t t' : TE} (h : PE X e t) (k : ∀ σ H Q, t' σ H Q → t σ H Q) : PE X e t' := ⟨fun pins s σ H Q I q => h.run pins s σ H Q I (k σ H Q q)⟩
theorem pt_imp {X : Cx} {e : Expr} {t t' : TT} (h : PT X e t) (k : ∀ σ H Q, t' σ H Q → t σ H Q) : PT X e t' := ⟨fun pins s σ H Q I q => h.run pins s σ H Q I (k σ H Q q)⟩
theorem pw_imp {X : Cx} {e : Expr} {t t' : TT} (h : PW X e t) (k : ∀ σ H Q, t' σ H Q → t σ H Q) : PW X e t' := ⟨fun w pins s σ H Q I q => h.run w pins s σ H Q I (k σ H Q q)⟩
theorem pa_imp {X : Cx} {es : List Expr} {t t' : TA} (h : PA X es t) (k : ∀ σ H Q, t' σ H Q → t σ H Q) : PA X es t' := ⟨fun pos pins s σ H Q I q => h.run pos pins s σ H Q I (k σ H Q q)⟩
theorem ps_imp {X : Cx} {s : Stmt} {t t' : TS} (h : PS X s t) (k : ∀ D σ H, t' D σ H → t D σ H) : PS X s t' := ⟨fun pins s σ H D I q => h.run pins s σ H D I (k D σ H q)⟩
theorem pss_imp {X : Cx} {s : List Stmt} {t t' : TS} (h : PSs X s t) (k : ∀ D σ H, t' D σ H → t D σ H) : PSs X s t' := ⟨fun pins s σ H D I q => h.run pins s σ H D I (k D σ H q)⟩

section
variable {X : Cx} {K : PySem.W.Frag} {mg : Glob} {Γ : Ent} {W : WX} {e a b c : Expr} {m ma mb mc : EDen} {pos : Pos}
/-- a value is something to be read -/
theorem g_vr (h : PE X e (teV K mg Γ W m)) : PE X e (teR K mg Γ W m) :=
  pe_imp h fun σ H Q ⟨F, L, ρ, st, r, p⟩ => ⟨F, L, ρ, st, r, p.imp fun F' L' H' st' d s o q v kv => q v (.inl kv)⟩
/-- a new object stands still: a value -/
theorem g_ov (h : PE X e (teO K mg Γ W m)) : PE X e (teV K mg Γ W m) := by
  refine pe_imp h fun σ H Q ⟨F, L, ρ, st, r, p⟩ => ⟨F, L, ρ, st, r, ?_⟩
  cases hm : m ρ st with
  | ok d st' =>
    rw [hm] at p
    intro F' L' H' s o v ⟨a, e1, n, nF, nL, hs⟩
    subst e1
    obtain ⟨u, hu⟩ := hs.there
    exact p (upd F' a u) L' H' (s.freeze n nF) (o.freeze hu nL nF) _ (.inr (hs.still hu nF))
  | exc c fs st' => rw [hm] at p; exact p
  | bad => rw [hm] at p; exact p.elim

/-! ### names, constants -/
def eVar (i : Nat) : EDen := fun ρ st => match ρ[i]? with
  | some (Sl.val d) => .ok d st
  | _ => .bad
/-- .. a list or dict of the frame's own, read -/
def ePeek (i : Nat) : EDen := fun ρ st => match ρ[i]? with
  | some (Sl.val d) => .ok d st
  | some (Sl.own d) => .ok d st
  | _ => .bad
def eC (d : D) : EDen := fun _ st => .ok d st
theorem g_var (i : Nat) {x : Str} (hN : X.N[i]? = some x := by rfl) (hv : Vis X.env.scope x := by first | exact Or.inl rfl | exact Or.inr (Or.inl rfl) | exact Or.inr (Or.inr rfl)) (hd : (x == ("__debug__" : Str)) = false := by decide)
    (hcd : (x == ("__classdict__" : Str)) = false := by decide) : PE X (.Name x pos) (teV K mg Γ W (eVar i)) := by
  refine pe_imp (pe_var hN hv hd hcd) fun σ H Q ⟨F, L, ρ, st, r, p⟩ => ?_
  unfold eVar at p
  split at p
  · rename_i d e
    obtain ⟨v, h1, h2⟩ := r.sl i d e
    exact ⟨v, h1, p.here r.sto v h2⟩
  · exact p.elim
theorem g_peek (i : Nat) {x : Str} (hN : X.N[i]? = some x := by rfl) (hv : Vis X.env.scope x := by first | exact Or.inl rfl | exact Or.inr (Or.inl rfl) | exact Or.inr (Or.inr rfl)) (hd : (x == ("__debug__" : Str)) = false := by decide)
    (hcd : (x == ("__classdict__" : Str)) = false := by decide) : PE X (.Name x pos) (teR K mg Γ W (ePeek i)) := by
  refine pe_imp (pe_var hN hv hd hcd) fun σ H Q ⟨F, L, ρ, st, r, p⟩ => ?_
  unfold ePeek at p
  split at p
  · rename_i d e
    obtain ⟨v, h1, h2⟩ := r.sl i d e
    exact ⟨v, h1, p.here r.sto v (.inl h2)⟩
  · rename_i d e
    obtain ⟨a, h1, _⟩ := r.so i d e
    exact ⟨_, h1, p.here r.sto _ (.inr ⟨i, e, h1⟩)⟩
  · exact p.elim
theorem g_c {d : D} {v : V} (h : PE X e (tC v)) (r : ∀ F, Rep K mg F d v) : PE X e (teV K mg Γ W (eC d)) :=
  pe_imp h fun σ H Q ⟨F, L, ρ, st, rl, p⟩ => p.here rl.sto v (.inr (r F))
theorem g_int {i : Int} {j pos} : PE X (.Constant (.int i) j pos) (teV K mg Γ W (eC (.int i))) := g_c pe_int fun _ => rfl
theorem g_bl {i : Bool} {j pos} : PE X (.Constant (.bool i) j pos) (teV K mg Γ W (eC (.bl i))) := g_c pe_bl fun _ => rfl
theorem g_non {j pos} : PE X (.Constant .none j pos) (teV K mg Γ W (eC .non)) := g_c pe_non fun _ => rfl
theorem g_str {x : Str} {j pos} : PE X (.Constant (.str x) j pos) (teV K mg Γ W (eC (.str x))) := g_c pe_str fun _ => rfl
/-- a global constant -/
theorem g_glob {x : Str} {d : D} {v : V} {u : Value} (hm : X.mg x = some u) (r : RelV v u) (hr : ∀ F, Rep K mg F d v) (hg : Gl X x := by rfl) (hd : (x == ("__debug__" : Str)) = false := by decide) : PE X (.Name x pos) (teV K mg Γ W (eC d)) :=
  g_c (pe_glob hg hm r hd) hr

/-! ### operations -/
abbrev Op1 := D → Store → RC D
abbrev Op2 := D → D → Store → RC D
abbrev OpN := List D → Store → RC D
def e1 (g : Op1) (ma : EDen) : EDen := fun ρ st => (ma ρ st).bind fun x st1 => g x st1
def e2 (g : Op2) (ma mb : EDen) : EDen := fun ρ st => (ma ρ st).bind fun x st1 => (mb ρ st1).bind fun y st2 => g x y st2
def eN (g : OpN) (ma : ADen) : EDen := fun ρ st => (ma ρ st).bind fun xs st1 => g xs st1
/-- what a rule by values asks is had by an operation on data -/
def Sem1 (k : Kd) (K : PySem.W.Frag) (mg : Glob) (g : Op1) (r : V → Hp → VK → Prop) : Prop :=
  ∀ (Γ : Ent) (W : WX) (F : Hp) (L : List Addr) (σ : St) (H : Hp) (ρ : REnv) (st : Store) (x : D) (v : V) (Q : VK), Rl K mg Γ F L σ H ρ st → kR K mg σ H ρ F L H x v →
    Post K mg W σ F L H (g x st) (fun F' L' H' _ d => ∀ w, k K mg σ H ρ F' L' H' d w → Q w H') → r v H Q
def Sem2 (k : Kd) (K : PySem.W.Frag) (mg : Glob) (g : Op2) (r : R2) : Prop :=
  ∀ (Γ : Ent) (W : WX) (F : Hp) (L : List Addr) (σ : St) (H : Hp) (ρ : REnv) (st : Store) (x y : D) (v u : V) (Q : VK), Rl K mg Γ F L σ H ρ st → kR K mg σ H ρ F L H x v → kR K mg σ H ρ F L H y u →
    Post K mg W σ F L H (g x y st) (fun F' L' H' _ d => ∀ w, k K mg σ H ρ F' L' H' d w → Q w H') → r v u H Q
end

/-- kinds whose result may be had later than asked -/
theorem kR.step {K : PySem.W.Frag} {mg : Glob} {σ : St} {H H0 H0' H1 F F1 H2 H3 : Hp} {ρ : REnv} {L L1 : List Addr} {d : D} {v : V} (h : kR K mg σ H0 ρ F L H d v) (s : Stp F L H1 F1 L1 H2) : kR K mg σ H0' ρ F1 L1 H3 d v := by
  rcases h with h | h
  · exact .inl (s.vrep h)
  · exact .inr h
def KLate (k : Kd) : Prop := ∀ {K : PySem.W.Frag} {mg : Glob} {σ : St} {H H1 F L H' : _} {ρ : REnv} {d : D} {v : V}, (∀ a, H a ≠ none → H1 a ≠ none) → k K mg σ H1 ρ F L H' d v → k K mg σ H ρ F L H' d v
theorem kV_late : KLate kV := fun _ h => h
theorem kR_late : KLate kR := fun _ h => h
theorem kO_late : KLate kO := fun {K mg σ H H1 F L H' ρ d v} k ⟨a, h1, h2, h3⟩ => ⟨a, h1, by
  cases q : H a with
  | none => rfl
  | some o => exact absurd h2 (k a (by rw [q]; simp)), h3⟩
theorem Stp.more {F H F' H' : Hp} {L L' : List Addr} {K : PySem.W.Frag} {mg : Glob} {st : Store} (s : Stp F L H F' L' H') (o : Sto K mg F' L' H' st) : ∀ a, H a ≠ none → H' a ≠ none := fun a h => by
  cases q : H a with
  | none => exact absurd q h
  | some u =>
    by_cases hm : a ∈ L
    · obtain ⟨w, hw⟩ := (o.mem (s.mem hm)).2
      rw [hw]; simp
    · rw [(s.kp a u q hm).1]; simp

section
variable {X : Cx} {K : PySem.W.Frag} {mg : Glob} {Γ : Ent} {W : WX} {e a b c : Expr} {m ma mb mc : EDen} {pos : Pos} {k : Kd}
theorem t2_of {r : R2} {g : Op2} (kl : KLate k) (hs : Sem2 k K mg g r) : ∀ σ H Q, teG k K mg Γ W (e2 g ma mb) σ H Q → tOp r (teR K mg Γ W ma) (teR K mg Γ W mb) σ H Q := by
  intro σ H Q ⟨F, L, ρ, st, rl, p⟩
  refine ⟨F, L, ρ, st, rl, p.bind.imp fun F1 L1 H1 st1 x s1 o1 p1 v kv => ?_⟩
  have rl1 := rl.step s1 o1
  refine ⟨F1, L1, ρ, st1, rl1, p1.bind.imp fun F2 L2 H2 st2 y s2 o2 p2 u ku => ?_⟩
  have rl2 := rl1.step s2 o2
  have m1 := s1.more o1
  have m2 := s2.more o2
  exact hs Γ W F2 L2 σ H2 ρ st2 x y v u Q rl2 (kR.step kv s2) ku (p2.imp fun F3 L3 H3 st3 d s3 o3 q w kw => q w (kl (fun a h => m2 a (m1 a h)) kw))
theorem t1_of {r : V → Hp → VK → Prop} {g : Op1} (kl : KLate k) (hs : Sem1 k K mg g r) : ∀ σ H Q, teG k K mg Γ W (e1 g ma) σ H Q → tUn r (teR K mg Γ W ma) σ H Q := by
  intro σ H Q ⟨F, L, ρ, st, rl, p⟩
  refine ⟨F, L, ρ, st, rl, p.bind.imp fun F1 L1 H1 st1 x s1 o1 p1 v kv => ?_⟩
  have rl1 := rl.step s1 o1
  have m1 := s1.more o1
  exact hs Γ W F1 L1 σ H1 ρ st1 x v Q rl1 kv (p1.imp fun F3 L3 H3 st3 d s3 o3 q w kw => q w (kl m1 kw))
theorem g_bin {op : Operator} {r : R2} {g : Op2} (ho : OpR X (binaryOp op) r) (kl : KLate k) (hs : Sem2 k K mg g r) (ha : PE X a (teR K mg Γ W ma)) (hb : PE X b (teR K mg Γ W mb)) : PE X (.BinOp a op b pos) (teG k K mg Γ W (e2 g ma mb)) :=
  pe_imp (pe_op ho ha hb) (t2_of kl hs)
theorem g_un {op : UnaryOp} {r : V → Hp → VK → Prop} {g : Op1} (ho : UnR X (unaryOp op) r) (kl : KLate k) (hs : Sem1 k K mg g r) (ha : PE X a (teR K mg Γ W ma)) : PE X (.UnaryOp op a pos) (teG k K mg Γ W (e1 g ma)) :=
  pe_imp (pe_un ho ha) (t1_of kl hs)
theorem g_cmp {op : CmpOp} {r : R2} {g : Op2} (ho : OpR X (compareOp op) r) (hs : Sem2 kV K mg g r) (ha : PE X a (teR K mg Γ W ma)) (hb : PE X b (teR K mg Γ W mb)) (hm : behindInMarks op b = false) : PE X (.Compare a [op] [b] pos) (teV K mg Γ W (e2 g ma mb)) :=
  pe_imp (pe_cmpR ho ha hb hm) (t2_of kV_late hs)
theorem g_ix {r : R2} {g : Op2} (hr : IxR X r) (hs : Sem2 kV K mg g r) (ha : PE X a (teR K mg Γ W ma)) (hb : PE X b (teR K mg Γ W mb)) (hx : PlainIx b := by exact fun _ _ => rfl) : PE X (.Subscript a b pos) (teV K mg Γ W (e2 g ma mb)) :=
  pe_imp (pe_ix hr ha hb hx) (t2_of kV_late hs)
/-- a op1 b op2 c, the answers truth values -/
def eChain (g g' : Op2) (ma mb mc : EDen) : EDen := fun ρ st => (ma ρ st).bind fun x st1 => (mb ρ st1).bind fun y st2 => (g x y st2).bind fun z st3 => match z with
  | .bl true => (mc ρ st3).bind fun u st4 => g' y u st4
  | .bl false => .ok (.bl false) st3
  | _ => .bad
theorem g_chain {op op' : CmpOp} {r r' : R2} {g g' : Op2} (ho : OpR X (compareOp op) r) (ho' : OpR X (compareOp op') r') (hs : Sem2 kV K mg g r) (hs' : Sem2 kV K mg g' r') (ha : PE X a (teR K mg Γ W ma)) (hb : PE X b (teR K mg Γ W mb)) (hc : PE X c (teR K mg Γ W mc))
    (hm : lastMarks [op, op'] [b, c] = false := by with_unfolding_all rfl) : PE X (.Compare a [op, op'] [b, c] pos) (teV K mg Γ W (eChain g g' ma mb mc)) := by
  refine pe_imp (pe_chain ho ho' ha hb hc hm) fun σ H Q ⟨F, L, ρ, st, rl, p⟩ => ?_
  refine ⟨F, L, ρ, st, rl, p.bind.imp fun F1 L1 H1 st1 x s1 o1 p1 v kv => ?_⟩
  have rl1 := rl.step s1 o1
  refine ⟨F1, L1, ρ, st1, rl1, p1.bind.imp fun F2 L2 H2 st2 y s2 o2 p2 u ku => ?_⟩
  have rl2 := rl1.step s2 o2
  refine hs Γ W F2 L2 σ H2 ρ st2 x y v u _ rl2 (kR.step kv s2) ku (p2.bind.imp fun F3 L3 H3 st3 z s3 o3 p3 w kw => ?_)
  have rl3 := rl2.step s3 o3
  split at p3
  · obtain rfl := kw.bl
    refine ⟨true, rfl, ?_⟩
    rw [if_pos rfl]
    refine ⟨F3, L3, ρ, st3, rl3, p3.bind.imp fun F4 L4 H4 st4 u' s4 o4 p4 v' kv' => ?_⟩
    have rl4 := rl3.step s4 o4
    exact hs' Γ W F4 L4 σ H4 ρ st4 y u' u v' Q rl4 (kR.step (H0 := H2) (H := H3) (kR.step ku s3) s4) kv' p4
  · obtain rfl := kw.bl
    refine ⟨false, rfl, ?_⟩
    rw [if_neg Bool.false_ne_true]
    exact p3.here o3 _ (.inr rfl)
  · exact p3.elim
end
end Gh
/-! Gh2: tests, arguments, displays, calls, attributes. -/
namespace Gh
open L2 PyProof.Rows PySem.Spec PySem

/-! ### tests -/
section
variable {X : Cx} {K : PySem.W.Frag} {mg : Glob} {Γ : Ent} {W : WX} {e a b c : Expr} {m ma mb mc : EDen} {t u : TDen} {pos : Pos} {k : Kd}
def tB (m : EDen) : TDen := fun ρ st => (m ρ st).bind fun d st1 => match d with
  | .bl b => .ok b st1
  | _ => .bad
/-- a value's truth -/
def truth : D → Option Bool
  | .non => some false
  | .bl b => some b
  | .int i => some (i != 0)
  | .str s => if s.length ≤ sizeLine then some ((s.length : Int) != 0) else none
  | .lst ds => some (!ds.isEmpty)
  | .tup ds => some (!ds.isEmpty)
  | _ => none
def tTr (m : EDen) : TDen := fun ρ st => (m ρ st).bind fun d st1 => match truth d with
  | some b => .ok b st1
  | none => .bad
theorem g_tb (h : PE X a (teR K mg Γ W m)) (he : ∀ whole, isTrue a X.env whole = (do let v ← whole; standAt a.pos; holding [v] (truthy v)) := by intro _; rfl) : PT X a (ttG K mg Γ W (tB m)) := by
  refine pt_imp (pt_val h he) fun σ H Q ⟨F, L, ρ, st, rl, p⟩ => ⟨F, L, ρ, st, rl, p.bind.imp fun F1 L1 H1 st1 d s o p1 v kv => ?_⟩
  split at p1
  · rename_i b
    rcases kv with kv | ⟨i, h1, _⟩
    · exact ⟨b, kv.bl, p1.here o⟩
    · obtain ⟨_, _, _, _, _, hs⟩ := (rl.step s o).so i _ h1
      exact hs.elim
  · exact p1.elim
theorem kR.truth {F H H0 : Hp} {L : List Addr} {σ : St} {ρ : REnv} {st : Store} {d : D} {v : V} {b : Bool} (rl : Rl K mg Γ F L σ H ρ st) (kv : kR K mg σ H0 ρ F L H d v) (e : truth d = some b) : TruV K v H b := by
  cases d with
  | non =>
    rcases kv with kv | ⟨i, h1, _⟩
    · rw [kv.non]; cases e; rfl
    · obtain ⟨_, _, _, _, _, hs⟩ := rl.so i _ h1; exact hs.elim
  | bl x =>
    rcases kv with kv | ⟨i, h1, _⟩
    · rw [kv.bl]; cases e; rfl
    · obtain ⟨_, _, _, _, _, hs⟩ := rl.so i _ h1; exact hs.elim
  | int x =>
    rcases kv with kv | ⟨i, h1, _⟩
    · rw [kv.int]; cases e; rfl
    · obtain ⟨_, _, _, _, _, hs⟩ := rl.so i _ h1; exact hs.elim
  | str x =>
    rcases kv with kv | ⟨i, h1, _⟩
    · rw [kv.str]
      have e : (if x.length ≤ sizeLine then some ((x.length : Int) != 0) else none) = some b := e
      split at e
      · rename_i hl; cases e; exact ⟨hl, rfl⟩
      · cases e
    · obtain ⟨_, _, _, _, _, hs⟩ := rl.so i _ h1; exact hs.elim
  | lst ds =>
    cases e
    rcases kv with kv | ⟨i, h1, h2⟩
    · rcases kv with ⟨n, a, q, _⟩ | kv
      · cases q
      · obtain ⟨a, vs, rfl, h3, h4⟩ := kv
        exact .inl ⟨vs, .inl (.inl (rl.sto.ex.lst h3)), by rw [h4.nil_iff]⟩
    · obtain ⟨a, g1, _, _, _, vs, g2, g3⟩ := rl.so i _ h1
      rw [g1] at h2; cases h2
      exact .inl ⟨vs, .inl (.inl g2), by rw [g3.nil_iff]⟩
  | tup ds =>
    cases e
    rcases kv with kv | ⟨i, h1, h2⟩
    · rcases kv with ⟨n, a, q, _⟩ | kv
      · cases q
      · obtain ⟨a, vs, rfl, h3, h4⟩ := kv
        exact .inr (.inl ⟨vs, rl.sto.ex.t h3, by rw [h4.nil_iff]⟩)
    · obtain ⟨_, _, _, _, _, hs⟩ := rl.so i _ h1; exact hs.elim
  | scr ds => cases e
  | dct ds => cases e
  | ins c fs => cases e
  | loc n => cases e
theorem g_tr (hK : X.K = K) (h : PE X a (teR K mg Γ W m)) (he : ∀ whole, isTrue a X.env whole = (do let v ← whole; standAt a.pos; holding [v] (truthy v)) := by intro _; rfl) : PT X a (ttG K mg Γ W (tTr m)) := by
  refine pt_imp (pt_truth h he) fun σ H Q ⟨F, L, ρ, st, rl, p⟩ => ⟨F, L, ρ, st, rl, p.bind.imp fun F1 L1 H1 st1 d s o p1 v kv => ?_⟩
  split at p1
  · rename_i b e
    exact ⟨b, by rw [hK]; exact kv.truth (rl.step s o) e, p1.here o⟩
  · exact p1.elim
def tAnd (t u : TDen) : TDen := fun ρ st => (t ρ st).bind fun b st1 => if b then u ρ st1 else .ok false st1
def tOr (t u : TDen) : TDen := fun ρ st => (t ρ st).bind fun b st1 => if b then .ok true st1 else u ρ st1
def tNot (t : TDen) : TDen := fun ρ st => (t ρ st).bind fun b st1 => .ok (!b) st1
theorem g_and {rest : List Expr} (ha : PT X a (ttG K mg Γ W t)) (hb : PW X (.BoolOp .And (b :: rest) pos) (ttG K mg Γ W u)) : PW X (.BoolOp .And (a :: b :: rest) pos) (ttG K mg Γ W (tAnd t u)) := by
  refine pw_imp (pw_and ha hb) fun σ H Q ⟨F, L, ρ, st, rl, p⟩ => ⟨F, L, ρ, st, rl, p.bind.imp fun F1 L1 H1 st1 d s o p1 => ?_⟩
  cases d with
  | true => exact iteT ⟨F1, L1, ρ, st1, rl.step s o, p1⟩
  | false => exact iteF (p1.here o)
theorem g_or {rest : List Expr} (ha : PT X a (ttG K mg Γ W t)) (hb : PW X (.BoolOp .Or (b :: rest) pos) (ttG K mg Γ W u)) : PW X (.BoolOp .Or (a :: b :: rest) pos) (ttG K mg Γ W (tOr t u)) := by
  refine pw_imp (pw_or ha hb) fun σ H Q ⟨F, L, ρ, st, rl, p⟩ => ⟨F, L, ρ, st, rl, p.bind.imp fun F1 L1 H1 st1 d s o p1 => ?_⟩
  cases d with
  | true => exact iteT (p1.here o)
  | false => exact iteF ⟨F1, L1, ρ, st1, rl.step s o, p1⟩
theorem g_not (ha : PT X a (ttG K mg Γ W t)) : PT X (.UnaryOp .Not a pos) (ttG K mg Γ W (tNot t)) :=
  pt_imp (pt_not ha) fun σ H Q ⟨F, L, ρ, st, rl, p⟩ => ⟨F, L, ρ, st, rl, p.bind.imp fun F1 L1 H1 st1 d s o p1 => p1.here o⟩
/-- x or y, x and y, not x as values -/
def eOr (ma mb : EDen) : EDen := fun ρ st => (ma ρ st).bind fun d st1 => match truth d with
  | some true => .ok d st1
  | some false => mb ρ st1
  | none => .bad
def eAnd (ma mb : EDen) : EDen := fun ρ st => (ma ρ st).bind fun d st1 => match truth d with
  | some false => .ok d st1
  | some true => mb ρ st1
  | none => .bad
def eNot (ma : EDen) : EDen := fun ρ st => (ma ρ st).bind fun d st1 => match truth d with
  | some b => .ok (.bl (!b)) st1
  | none => .bad
theorem g_orV (hK : X.K = K) {rest : List Expr} (ha : PE X a (teV K mg Γ W ma)) (hb : PE X (.BoolOp .Or (b :: rest) pos) (teV K mg Γ W mb)) : PE X (.BoolOp .Or (a :: b :: rest) pos) (teV K mg Γ W (eOr ma mb)) := by
  refine pe_imp (pe_orT ha hb) fun σ H Q ⟨F, L, ρ, st, rl, p⟩ => ⟨F, L, ρ, st, rl, p.bind.imp fun F1 L1 H1 st1 d s o p1 v kv => ?_⟩
  have tr : ∀ b, truth d = some b → TruV X.K v H1 b := fun b e => by rw [hK]; exact kR.truth (H0 := H) (rl.step s o) (.inl kv) e
  split at p1
  · rename_i e
    exact ⟨true, tr _ e, iteT (p1.here o v kv)⟩
  · rename_i e
    exact ⟨false, tr _ e, iteF ⟨F1, L1, ρ, st1, rl.step s o, p1⟩⟩
  · exact p1.elim
theorem g_andV (hK : X.K = K) {rest : List Expr} (ha : PE X a (teV K mg Γ W ma)) (hb : PE X (.BoolOp .And (b :: rest) pos) (teV K mg Γ W mb)) : PE X (.BoolOp .And (a :: b :: rest) pos) (teV K mg Γ W (eAnd ma mb)) := by
  refine pe_imp (pe_andT ha hb) fun σ H Q ⟨F, L, ρ, st, rl, p⟩ => ⟨F, L, ρ, st, rl, p.bind.imp fun F1 L1 H1 st1 d s o p1 v kv => ?_⟩
  have tr : ∀ b, truth d = some b → TruV X.K v H1 b := fun b e => by rw [hK]; exact kR.truth (H0 := H) (rl.step s o) (.inl kv) e
  split at p1
  · rename_i e
    exact ⟨false, tr _ e, iteF (p1.here o v kv)⟩
  · rename_i e
    exact ⟨true, tr _ e, iteT ⟨F1, L1, ρ, st1, rl.step s o, p1⟩⟩
  · exact p1.elim
theorem g_notV (hK : X.K = K) (ha : PE X a (teR K mg Γ W ma)) : PE X (.UnaryOp .Not a pos) (teV K mg Γ W (eNot ma)) := by
  refine pe_imp (pe_notT ha) fun σ H Q ⟨F, L, ρ, st, rl, p⟩ => ⟨F, L, ρ, st, rl, p.bind.imp fun F1 L1 H1 st1 d s o p1 v kv => ?_⟩
  split at p1
  · rename_i b e
    exact ⟨b, by rw [hK]; exact kv.truth (rl.step s o) e, p1.here o _ (.inr rfl)⟩
  · exact p1.elim
theorem g_one {op : BoolOp} (ha : PE X a (teG k K mg Γ W ma)) : PE X (.BoolOp op [a] pos) (teG k K mg Γ W ma) := pe_one ha
def eIf (t : TDen) (ma mb : EDen) : EDen := fun ρ st => (t ρ st).bind fun b st1 => if b then ma ρ st1 else mb ρ st1
theorem g_if (kl : KLate k) (ht : PT X c (ttG K mg Γ W t)) (ha : PE X a (teG k K mg Γ W ma)) (hb : PE X b (teG k K mg Γ W mb)) : PE X (.IfExp c a b pos) (teG k K mg Γ W (eIf t ma mb)) := by
  refine pe_imp (pe_ifExp ht ha hb) fun σ H Q ⟨F, L, ρ, st, rl, p⟩ => ⟨F, L, ρ, st, rl, p.bind.imp fun F1 L1 H1 st1 d s o p1 => ?_⟩
  have mo := s.more o
  cases d with
  | true => exact iteT ⟨F1, L1, ρ, st1, rl.step s o, p1.imp fun F2 L2 H2 st2 x s2 o2 q v kv => q v (kl mo kv)⟩
  | false => exact iteF ⟨F1, L1, ρ, st1, rl.step s o, p1.imp fun F2 L2 H2 st2 x s2 o2 q v kv => q v (kl mo kv)⟩
end

/-! ### arguments and displays -/
def aNil : ADen := fun _ st => .ok [] st
def aCons (m : EDen) (r : ADen) : ADen := fun ρ st => (m ρ st).bind fun d st1 => (r ρ st1).bind fun ds st2 => .ok (d :: ds) st2
/-- *e, e a tuple or a list -/
def starOf : D → Option (List D)
  | .tup es => some es
  | .lst es => some es
  | _ => none
def aStar (m : EDen) (r : ADen) : ADen := fun ρ st => (m ρ st).bind fun d st1 => match starOf d with
  | some es => (r ρ st1).bind fun ds st2 => .ok (es ++ ds) st2
  | none => .bad
def isLoc : D → Bool
  | .loc _ => true
  | _ => false
/-- items of a display: no object of the store among them -/
def flatL (ds : List D) : Bool := ds.all fun d => !isLoc d
section
variable {K : PySem.W.Frag} {mg : Glob} {L : List Addr} {F : Hp}
theorem VRep.flat {d : D} {v : V} (h : VRep K mg L F d v) (n : isLoc d = false) : Rep K mg F d v := by
  rcases h with ⟨m, a, e, _⟩ | h
  · rw [e] at n; cases n
  · exact h
theorem VRepL.flat : ∀ {ds : List D} {vs : List V}, VRepL K mg L F ds vs → flatL ds = true → RepL K mg F ds vs
  | [], vs, h, _ => h
  | d :: ds, vs, h, n => by
    obtain ⟨v, r, h1, h2, h3⟩ := h
    unfold flatL at n
    rw [List.all_cons, Bool.and_eq_true] at n
    exact ⟨v, r, h1, h2.flat (by simpa using n.1), VRepL.flat h3 n.2⟩
theorem RepL.up : ∀ {ds : List D} {vs : List V}, RepL K mg F ds vs → VRepL K mg L F ds vs
  | [], vs, h => h
  | d :: ds, vs, h => by
    obtain ⟨v, r, h1, h2, h3⟩ := h
    exact ⟨v, r, h1, .inr h2, RepL.up h3⟩
theorem VRepL.append : ∀ {ds : List D} {vs : List V} {es : List D} {ws : List V}, VRepL K mg L F ds vs → VRepL K mg L F es ws → VRepL K mg L F (ds ++ es) (vs ++ ws)
  | [], vs, es, ws, h, h' => by
    have h : vs = [] := h
    subst h
    exact h'
  | d :: ds, vs, es, ws, h, h' => by
    obtain ⟨v, r, rfl, h2, h3⟩ := h
    exact ⟨v, r ++ ws, rfl, h2, VRepL.append h3 h'⟩
end
section
variable {X : Cx} {K : PySem.W.Frag} {mg : Glob} {Γ : Ent} {W : WX} {e a b c : Expr} {es : List Expr} {m ma mb mc : EDen} {ms : ADen} {pos p : Pos} {k : Kd}
theorem g_nil : PA X [] (taG K mg Γ W aNil) := pa_imp pa_nil fun σ H Q ⟨F, L, ρ, st, rl, q⟩ => q.here rl.sto [] rfl
theorem g_cons (ha : PE X e (teV K mg Γ W m)) (hr : PA X es (taG K mg Γ W ms)) (hs : starEach (e :: es) X.env = (false, eval e X.env) :: starEach es X.env := by rfl) : PA X (e :: es) (taG K mg Γ W (aCons m ms)) := by
  refine pa_imp (pa_cons ha hr hs) fun σ H Q ⟨F, L, ρ, st, rl, q⟩ => ⟨F, L, ρ, st, rl, q.bind.imp fun F1 L1 H1 st1 d s o q1 v kv => ?_⟩
  refine ⟨F1, L1, ρ, st1, rl.step s o, q1.bind.imp fun F2 L2 H2 st2 ds s2 o2 q2 vs kvs => ?_⟩
  exact q2.here o2 (v :: vs) ⟨v, vs, rfl, s2.vrep kv, kvs⟩
theorem kR.star {F H H0 : Hp} {L : List Addr} {σ : St} {ρ : REnv} {st : Store} {d : D} {v : V} {es : List D} (rl : Rl K mg Γ F L σ H ρ st) (kv : kR K mg σ H0 ρ F L H d v) (e : d = .tup es ∨ d = .lst es) :
    ∃ a vs, v = .ref a ∧ (SqT K H a vs ∨ SqL K H a vs) ∧ RepL K mg F es vs := by
  rcases e with rfl | rfl
  · rcases kv with kv | ⟨i, h1, h2⟩
    · rcases kv with ⟨n, a, q, _⟩ | kv
      · cases q
      · obtain ⟨a, vs, rfl, h3, h4⟩ := kv
        exact ⟨a, vs, rfl, .inl (rl.sto.ex.t h3), h4⟩
    · obtain ⟨_, _, _, _, _, hs⟩ := rl.so i _ h1; exact hs.elim
  · rcases kv with kv | ⟨i, h1, h2⟩
    · rcases kv with ⟨n, a, q, _⟩ | kv
      · cases q
      · obtain ⟨a, vs, rfl, h3, h4⟩ := kv
        exact ⟨a, vs, rfl, .inr (.inl (.inl (rl.sto.ex.lst h3))), h4⟩
    · obtain ⟨a, g1, _, _, _, vs, g2, g3⟩ := rl.so i _ h1
      rw [g1] at h2; cases h2
      exact ⟨a, vs, rfl, .inr (.inl (.inl g2)), g3⟩
theorem g_star (hK : X.K = K) (ha : PE X e (teR K mg Γ W m)) (hr : PA X es (taG K mg Γ W ms)) (hs : starEach (.Starred e p :: es) X.env = (true, eval e X.env) :: starEach es X.env := by rfl) : PA X (.Starred e p :: es) (taG K mg Γ W (aStar m ms)) := by
  refine pa_imp (StX.pa_star ha hr hs) fun σ H Q ⟨F, L, ρ, st, rl, q⟩ => ⟨F, L, ρ, st, rl, q.bind.imp fun F1 L1 H1 st1 d s o q1 v kv => ?_⟩
  have rl1 := rl.step s o
  split at q1
  · rename_i es e
    have e : d = .tup es ∨ d = .lst es := by
      cases d with
      | tup _ => cases e; exact .inl rfl
      | lst _ => cases e; exact .inr rfl
      | _ => cases e
    obtain ⟨a, vs, rfl, h1, h2⟩ := kv.star rl1 e
    refine ⟨a, vs, rfl, by rw [hK]; exact h1, F1, L1, ρ, st1, rl1, q1.bind.imp fun F2 L2 H2 st2 ds s2 o2 q3 ws kws => ?_⟩
    exact q3.here o2 (vs ++ ws) ((s2.vrepl h2.up).append kws)
  · exact q1.elim

/-- (a, b, ..), [a, b, ..] -/
def eTup (ms : ADen) : EDen := fun ρ st => (ms ρ st).bind fun ds st1 => if flatL ds = true ∧ ds.length ≤ 1000 then .ok (.tup ds) st1 else .bad
def eLst (ms : ADen) : EDen := fun ρ st => (ms ρ st).bind fun ds st1 => if flatL ds = true ∧ ds.length ≤ 100000 then .ok (.lst ds) st1 else .bad
theorem Sto.lay {F H : Hp} {L : List Addr} {st : Store} {p : Addr} {o : HO} (x : Sto K mg F L H st) (n : H p = none) : Stp F L H (upd F p o) L (upd H p o) ∧ Sto K mg (upd F p o) L (upd H p o) st := ⟨Stp.still x.ex n, x.still n⟩
theorem g_tup {x1} (h : PA X es (taG K mg Γ W ms)) : PE X (.Tuple es x1 pos) (teV K mg Γ W (eTup ms)) := by
  refine pe_imp (pe_tup h) fun σ H Q ⟨F, L, ρ, st, rl, q⟩ => ⟨F, L, ρ, st, rl, q.bind.imp fun F1 L1 H1 st1 ds s o q1 vs kvs => ?_⟩
  split at q1
  · rename_i c
    have r := kvs.flat c.1
    refine ⟨by rw [← r.length]; have := c.2; rw [sizeLine_eq]; omega, fun p np => ?_⟩
    obtain ⟨s2, o2⟩ := o.lay (o := .tup vs) np
    refine q1 _ _ _ s2 o2 _ (.inr ⟨p, vs, rfl, .inl (.inl upd_same), RepL.mono s2.ex ds r⟩)
  · exact q1.elim
theorem g_lst (h : PA X es (taG K mg Γ W ms)) : PE X (.List es pos) (teO K mg Γ W (eLst ms)) := by
  refine pe_imp (pe_lst h) fun σ H Q ⟨F, L, ρ, st, rl, q⟩ => ⟨F, L, ρ, st, rl, q.bind.imp fun F1 L1 H1 st1 ds s o q1 vs kvs => ?_⟩
  split at q1
  · rename_i c
    have r := kvs.flat c.1
    refine ⟨by rw [← r.length]; have := c.2; rw [sizeLine_eq]; omega, fun p np => ?_⟩
    have rl1 := rl.step s o
    refine q1 _ _ _ (Stp.fresh np) (o.fresh np) _ ⟨p, rfl, ?_, rl1.newF np, rl1.newL np, vs, upd_same, r⟩
    cases h : H p with
    | none => rfl
    | some u => exact absurd np (s.more o p (by rw [h]; simp))
  · exact q1.elim

/-! ### calls -/
/-- what a def promises: what m tells -/
def spG (K : PySem.W.Frag) (mg : Glob) (m : CallF) : Sp := fun vs H Q E => ∃ F L ds st, Sto K mg F L H st ∧ VRepL K mg L F ds vs ∧
  Post K mg (fun c d _ H' => E c d H') [] F L H (m ds st) fun F' L' H' _ d => ∀ v, VRep K mg L' F' d v → Q v H'
theorem Post.wish {α : Type} {F H : Hp} {L : List Addr} {σ : St} {r : RC α} {ok : Hp → List Addr → Hp → Store → α → Prop} (h : Post K mg W σ F L H r ok) : Post K mg (fun c d _ H' => WE W σ c d H') [] F L H r ok := by
  cases r with
  | ok d st => exact h
  | exc c fs st => exact h
  | bad => exact h.elim
abbrev eCall (f : CallF) (ms : ADen) : EDen := eN f ms
theorem spG_of {Q : VK} {f : CallF} {σ : St} {H : Hp} {t : TA} (kl : ∀ {d v F L}, VRep K mg L F d v → VRep K mg L F d v) (h : teV K mg Γ W (eCall f ms) σ H Q) : taG K mg Γ W ms σ H fun vs H1 => spG K mg f vs H1 Q (WE W σ) := by
  obtain ⟨F, L, ρ, st, rl, q⟩ := h
  exact ⟨F, L, ρ, st, rl, q.bind.imp fun F1 L1 H1 st1 ds s o q1 vs kvs => ⟨F1, L1, ds, st1, o, kvs, Post.wish q1⟩⟩
section
variable {kk : Nat} {f C : Addr} {fd : FuncData} {ps : List Str} {x mname : Str} {cf : CallF} {apos : Pos}
theorem g_call (F : FnOk X.prog X.w X.K X.mg X.base (L2.CX X.prog X.w) kk f fd ps (spG K mg cf)) (hr : Room kk X.A) (hm : X.mg x = some (.ref f)) (hk : PySem.W.keepIn X.K (.ref f) = true) (hb : Binds X.K fd ps []) (tk : Takes X W)
    (ha : PA X (e :: es) (taG K mg Γ W ms)) (hg : Gl X x := by rfl) (hdb : (x == ("__debug__" : Str)) = false := by decide) (he : starEach (e :: es) X.env = (false, eval e X.env) :: starEach es X.env := by rfl) (hpl : (backTo pos (starEach es X.env)).any (·.1) = false := by rfl) :
    PE X (.Call (.Name x p) (e :: es) [] pos) (teV K mg Γ W (eCall cf ms)) :=
  pe_imp (pe_callS F hr hg hm hk hb (passAt tk) ha hdb he hpl) fun σ H Q h => spG_of (t := tNil) (fun h => h) h
theorem g_call0 (F : FnOk X.prog X.w X.K X.mg X.base (L2.CX X.prog X.w) kk f fd ps (spG K mg cf)) (hr : Room kk X.A) (hm : X.mg x = some (.ref f)) (hk : PySem.W.keepIn X.K (.ref f) = true) (hb : Binds X.K fd ps []) (tk : Takes X W)
    (hg : Gl X x := by rfl) (hdb : (x == ("__debug__" : Str)) = false := by decide) : PE X (.Call (.Name x p) [] [] pos) (teV K mg Γ W (eCall cf aNil)) := by
  refine ⟨fun pins s σ H Q I ⟨F', L, ρ, st, rl, q⟩ => ?_⟩
  exact wpAny_Call_Name_kw (ld_glob I hg hm (PySem.W.callWith_K0 I.kIn hk (run_fnS (us := []) (E := WE W) F hr hb (passAt tk σ) I .nil ⟨F', L, [], st, rl.sto, rfl, Post.wish q⟩)) hdb)
/-- an instance, still or in the store -/
theorem inst_at {F H : Hp} {L : List Addr} {st : Store} {d : D} {v : V} {c : Str} {fs : List (Str × D)} (o : Sto K mg F L H st) (kv : VRep K mg L F d v) (e : d = .ins c fs ∨ ∃ n : Nat, d = .loc n ∧ st[n]? = some (.ins c fs)) :
    ∃ a C dx fv, v = .ref a ∧ mg c = some (.ref C) ∧ H a = some (.ins C dx fv) ∧ RepF K mg F fs fv := by
  rcases e with rfl | ⟨n, rfl, e⟩
  · rcases kv with ⟨n, a, q, _⟩ | ⟨a, C, dx, fv, rfl, h1, h2, h3⟩
    · cases q
    · exact ⟨a, C, dx, fv, rfl, h1, o.ex.ins h2, h3⟩
  · obtain ⟨a, h1, rfl⟩ := kv.loc
    obtain ⟨nF, C, dx, fv, h2, h3, h4⟩ := o.at_ n a _ h1 e
    exact ⟨a, C, dx, fv, rfl, h2, h3, h4⟩
/-- the class of the instance, as eMeth and eAtt look for it -/
def instOf (st : Store) : D → Option (Str × List (Str × D))
  | .ins c fs => some (c, fs)
  | .loc n => (match st[n]? with
    | some (.ins c fs) => some (c, fs)
    | _ => none)
  | _ => none
theorem instOf_at {st : Store} {d : D} {c : Str} {fs : List (Str × D)} (h : instOf st d = some (c, fs)) : d = .ins c fs ∨ ∃ n : Nat, d = .loc n ∧ st[n]? = some (.ins c fs) := by
  cases d with
  | ins c' fs' => cases h; exact .inl rfl
  | loc n =>
    have h : (match st[n]? with
      | some (.ins c fs) => some (c, fs)
      | _ => none) = some (c, fs) := h
    split at h
    · rename_i c' fs' e
      cases h
      exact .inr ⟨n, rfl, e⟩
    · cases h
  | _ => cases h
/-- o.m(..), o of the class c -/
def eMeth (c m : Str) (f : CallF) (mo : EDen) (ms : ADen) : EDen := fun ρ st => (mo ρ st).bind fun d st1 => match instOf st1 d with
  | some (c', fs) => if c' = c ∧ (fs.lookup m).isNone = true then (ms ρ st1).bind fun ds st2 => f (d :: ds) st2 else .bad
  | none => .bad
theorem meth_go {Q : VK} {mo : EDen} {c : Str} {σ : St} {H : Hp} (hmg : X.mg = mg) (hC : mg c = some (.ref C)) (h : teV K mg Γ W (eMeth c mname cf mo ms) σ H Q) : teV K mg Γ W mo σ H fun x H1 => ∃ a dx fs, x = .ref a ∧ H1 a = some (.ins C dx fs) ∧ fs.lookup mname = none ∧
    taG K mg Γ W ms σ H1 fun vs H2 => spG K mg cf (x :: vs) H2 Q (WE W σ) := by
  obtain ⟨F, L, ρ, st, rl, q⟩ := h
  refine ⟨F, L, ρ, st, rl, q.bind.imp fun F1 L1 H1 st1 d s o q1 v kv => ?_⟩
  split at q1
  · rename_i c' fs e
    split at q1
    · rename_i hc
      obtain ⟨rfl, hn⟩ := hc
      obtain ⟨a, C', dx, fv, rfl, h1, h2, h3⟩ := inst_at o kv (instOf_at e)
      rw [hC] at h1; cases h1
      refine ⟨a, dx, fv, rfl, h2, h3.lookNone (by simpa using hn), F1, L1, ρ, st1, rl.step s o, q1.bind.imp fun F2 L2 H2 st2 ds s2 o2 q2 vs kvs => ?_⟩
      exact ⟨F2, L2, d :: ds, st2, o2, ⟨_, vs, rfl, s2.vrep kv, kvs⟩, Post.wish q2⟩
    · exact q1.elim
  · exact q1.elim
theorem g_meth {o : Expr} {mo : EDen} {c : Str} {pl : Sem Bool} (hmg : X.mg = mg) (ho : PE X o (teV K mg Γ W mo)) (hC : mg c = some (.ref C)) (cl : Cls X.K C) (hm : Meth X.K C mname f) (F : FnOk X.prog X.w X.K X.mg X.base (L2.CX X.prog X.w) kk f fd ps (spG K mg cf)) (hr : Room kk X.A)
    (hb : Binds X.K fd ps []) (tk : Takes X W) (ha : PA X (e :: es) (taG K mg Γ W ms)) (hst : starEach (e :: es) X.env = (false, eval e X.env) :: starEach es X.env := by rfl) (hpl : (backTo pos (starEach es X.env)).any (·.1) = false := by rfl)
    (ht : eval (.Call (.Attribute o mname apos) (e :: es) [] pos) X.env = (do let ov ← eval o X.env; standAt apos.atName; let (f, first) ← holding [ov] (getMethod ov mname pl); callWith pos f first (backTo pos (starEach (e :: es) X.env)) (backToKw pos (keywordEach [] X.env))) := by rfl) :
    PE X (.Call (.Attribute o mname apos) (e :: es) [] pos) (teV K mg Γ W (eMeth c mname cf mo ms)) := by
  refine ⟨fun pins s σ H Q I h => PySem.W.methodCall_KW (pl := pl) (thn (ho.run pins s σ H _ I (meth_go hmg hC h)) fun u s1 hh => ?_) ht⟩
  obtain ⟨x, H1, I1, rx, a, dx, fs, ex, ea, l, q⟩ := hh
  cases ex
  cases (show u = Value.ref a from rx)
  exact getmeth_ok I1 ea cl hm l (PySem.W.callWith_K (first := [.ref a]) (h₀ := X.base) I.ok.mod.kin hm.kp (thn (ha.run pos pins s1 σ H1 _ I1 q) fun us s2 ⟨vs, H2, I2, r, q2⟩ =>
    ⟨I2.kIn, run_fnS (us := .ref a :: us) (vs := .ref a :: vs) (E := WE W) F hr hb (passAt tk σ) I2 (.cons rfl r) q2⟩) hst hpl)
theorem g_meth0 {o : Expr} {mo : EDen} {c : Str} {pl : Sem Bool} (hmg : X.mg = mg) (ho : PE X o (teV K mg Γ W mo)) (hC : mg c = some (.ref C)) (cl : Cls X.K C) (hm : Meth X.K C mname f) (F : FnOk X.prog X.w X.K X.mg X.base (L2.CX X.prog X.w) kk f fd ps (spG K mg cf)) (hr : Room kk X.A)
    (hb : Binds X.K fd ps []) (tk : Takes X W)
    (ht : eval (.Call (.Attribute o mname apos) [] [] pos) X.env = (do let ov ← eval o X.env; standAt apos.atName; let (f, first) ← holding [ov] (getMethod ov mname pl); callWith pos f first (backTo pos (starEach [] X.env)) (backToKw pos (keywordEach [] X.env))) := by rfl) :
    PE X (.Call (.Attribute o mname apos) [] [] pos) (teV K mg Γ W (eMeth c mname cf mo aNil)) := by
  refine ⟨fun pins s σ H Q I h => PySem.W.methodCall_KW (pl := pl) (thn (ho.run pins s σ H _ I (meth_go hmg hC h)) fun u s1 hh => ?_) ht⟩
  obtain ⟨x, H1, I1, rx, a, dx, fs, ex, ea, l, F', L', ρ', st', rl', q⟩ := hh
  cases ex
  cases (show u = Value.ref a from rx)
  obtain ⟨F2, L2', ds, st2, o2, k2, q2⟩ := q.here rl'.sto [] rfl
  exact getmeth_ok I1 ea cl hm l (PySem.W.callWith_K0 (first := [.ref a]) I1.kIn hm.kp (run_fnS (us := [.ref a]) (vs := [.ref a]) (E := WE W) F hr hb (passAt tk σ) I1 (.cons rfl .nil) ⟨F2, L2', ds, st2, o2, k2, q2⟩))
/-- o.f -/
def eAtt (f : Str) : Op1 := fun d st => match instOf st d with
  | some (_, fs) => (match fs.lookup f with
    | some x => .ok x st
    | none => .bad)
  | none => .bad
/-- what the text must have for the attribute f of any class of cs -/
def AttOk (K : PySem.W.Frag) (mg : Glob) (f : Str) (cs : List Str) : Prop := ∀ c ∈ cs, ∀ C, mg c = some (.ref C) → Cls K C ∧ NoAttr K C f
def eAttC (f : Str) (cs : List Str) : Op1 := fun d st => match instOf st d with
  | some (c, fs) => if c ∈ cs then (match fs.lookup f with
    | some x => .ok x st
    | none => .bad) else .bad
  | none => .bad
theorem g_att {o : Expr} {mo : EDen} {fn : Str} {cs : List Str} (hK : X.K = K) (A : AttOk K mg fn cs) (ho : PE X o (teV K mg Γ W mo)) (hb : attributeBase o fn X.env (eval o X.env) = eval o X.env := by rfl) : PE X (.Attribute o fn pos) (teV K mg Γ W (e1 (eAttC fn cs) mo)) := by
  refine pe_imp (pe_fld ho hb) fun σ H Q ⟨F, L, ρ, st, rl, q⟩ => ⟨F, L, ρ, st, rl, q.bind.imp fun F1 L1 H1 st1 d s o q1 v kv => ?_⟩
  unfold eAttC at q1
  split at q1
  · rename_i c fs e
    split at q1
    · rename_i hc
      split at q1
      · rename_i x ex
        obtain ⟨a, C, dx, fv, rfl, h1, h2, h3⟩ := inst_at o kv (instOf_at e)
        obtain ⟨w, hw, rw'⟩ := h3.look ex
        obtain ⟨cl, na⟩ := A c hc C h1
        exact ⟨a, C, dx, fv, w, rfl, h2, by rw [hK]; exact cl, by rw [hK]; exact na, hw, q1.here o w (.inr rw')⟩
      · exact q1.elim
    · exact q1.elim
  · exact q1.elim
end
end
end Gh
/-! Gh3: instances made; statements. -/
namespace Gh
open L2 PyProof.Rows PySem.Spec PySem

section
variable {K : PySem.W.Frag} {mg : Glob} {F F' H H' : Hp} {L M : List Addr} {st st' : Store}
theorem Sto.take (o : Sto K mg F (L ++ M) H st) : Sto K mg F L H (st.take L.length) := by
  have hl := o.len
  rw [List.length_append] at hl
  refine ⟨o.ex, (List.nodup_append.mp o.nd).1, by rw [List.length_take]; omega, fun n a d h1 h2 => ?_⟩
  obtain ⟨hn, _⟩ := List.getElem?_eq_some_iff.mp h1
  rw [List.getElem?_take_of_lt hn] at h2
  exact o.at_ n a d (by rw [List.getElem?_append_left hn]; exact h1) h2
theorem Stp.take (s : Stp F L H F' (L ++ M) H') : Stp F L H F' L H' :=
  ⟨s.ex, ⟨[], (List.append_nil L).symm⟩, fun a o h n => ⟨(s.kp a o h n).1, (s.kp a o h n).2.1, n⟩⟩
theorem Sto.add {a : Addr} {d : D} (o : Sto K mg F L H st) (h : Has K mg F H a d) (nF : F a = none) (nL : a ∉ L) : Sto K mg F (L ++ [a]) H (st ++ [d]) := by
  refine ⟨o.ex, ?_, by rw [List.length_append, List.length_append, o.len] <;> rfl, fun n b e h1 h2 => ?_⟩
  · rw [List.nodup_append]
    refine ⟨o.nd, List.nodup_cons.mpr ⟨by simp, List.nodup_nil⟩, fun x hx y hy => ?_⟩
    have : y = a := by simpa using hy
    rw [this]
    exact fun z => nL (z ▸ hx)
  · by_cases hn : n < L.length
    · rw [List.getElem?_append_left hn] at h1
      rw [List.getElem?_append_left (by rw [← o.len]; exact hn)] at h2
      exact o.at_ n b e h1 h2
    · have hn' : L.length ≤ n := Nat.not_lt.mp hn
      rw [List.getElem?_append_right hn'] at h1
      rw [List.getElem?_append_right (by rw [← o.len]; exact hn')] at h2
      cases q : n - L.length with
      | zero =>
        rw [q] at h1
        rw [← o.len, q] at h2
        cases h1; cases h2
        exact ⟨nF, h⟩
      | succ k => rw [q] at h1; simp at h1
end

section
variable {X : Cx} {K : PySem.W.Frag} {mg : Glob} {Γ : Ent} {W : WX} {e a b : Expr} {es : List Expr} {m ma mb : EDen} {ms : ADen} {pos p : Pos} {k : Kd}
variable {kk : Nat} {f C : Addr} {fd : FuncData} {ps : List Str} {x c : Str} {cf : CallF}
/-- a new instance, in the store, behind its __init__ -/
def initD (c : Str) (f : CallF) (ds : List D) (st : Store) : RC D := (f (.loc st.length :: ds) (st ++ [.ins c []])).bind fun d st2 => match d with
  | .non => .ok (.loc st.length) st2
  | _ => .bad
/-- C(..), to be changed by methods: an object of the store -/
def eMakeM (c : Str) (f : CallF) (ms : ADen) : EDen := fun ρ st => (ms ρ st).bind fun ds st1 => initD c f ds st1
/-- C(..), never changed behind __init__ -/
def stillD (n : Nat) (r : RC D) : RC D := match r with
  | .ok _ st => (match st[n]? with
    | some d => .ok d (st.take n)
    | none => .bad)
  | .exc c fs st => .exc c fs (st.take n)
  | .bad => .bad
def eMake (c : Str) (f : CallF) (ms : ADen) : EDen := fun ρ st => (ms ρ st).bind fun ds st1 => stillD st1.length (initD c f ds st1)
theorem run_mkS {pins : List (Addr × Obj)} {σ : St} {H : Hp} {s : Shared} {Q : VK} {us : List Value} {vs : List V} {sp : Sp} {CX : CXT} {E : St → XK} (M : Mk X.K C f) (F : FnOk X.prog X.w X.K X.mg X.base CX kk f fd ps sp) (hr : Room (kk + 1) X.A) (hb : Binds X.K fd ps [])
    (hx : PassesAt CX X σ (E σ)) (I : Inv X pins σ H s) (r : Vals vs us)
    (h : ∀ x dx, H x = none → H dx = none → dx ≠ x → sp (.ref x :: vs) (upd (upd H dx (.own x)) x (.ins C dx [])) (fun v H2 => v = .non ∧ Q (.ref x) H2) (E σ)) :
    wpAny (model X.prog X.w) X.A (call (.ref C) us) (EP X pins σ Q) X.xe s := by
  have q0 := h (s.heap.objs.size + 1) s.heap.objs.size (I.hok.fresh (Nat.le_succ _)) (I.hok.fresh (Nat.le_refl _)) (Nat.ne_of_lt (Nat.lt_succ_self _))
  have J := Inv.made (C := C) I
  have rr : Vals (V.ref (s.heap.objs.size + 1) :: vs) (Value.ref (s.heap.objs.size + 1) :: us) := .cons rfl r
  have hl : (Value.ref (s.heap.objs.size + 1) :: us).length = ps.length := by rw [← rr.length]; exact F.len _ _ _ _ q0
  have bb := hb { s with heap := (s.heap.push PySem.W.emptyDict).push (PySem.W.instObj C s.heap.objs.size) } (Value.ref (s.heap.objs.size + 1) :: us) J.kIn (by rw [List.append_nil]; exact hl)
  rw [List.append_nil] at bb
  refine wpAny_call (make_map (f := f) I.kIn M.makes M.init (beq_iff_eq.mp M.fn) (codeAny_mono (F.run _ X.stack _ _ ⟨Value.ref (s.heap.objs.size + 1) :: us, []⟩ (Value.ref (s.heap.objs.size + 1) :: us) _ _ (E σ) (hr.make C us []) (J.env0.make C us []) bb rr q0) fun z s' hz => ?_))
  cases z with
  | error e => exact hx pins _ _ e s' J hz
  | ok fl =>
    cases fl with
    | ret u =>
      obtain ⟨v, H', I3, rv, ev, q3⟩ := J.after hz
      cases ev
      exact ⟨rv, V.ref (s.heap.objs.size + 1), H', I3, rfl, q3⟩
    | _ => exact hz.elim
theorem Post.stillD {n : Nat} {F H : Hp} {L : List Addr} {σ : St} {r : RC D} {ok : Hp → List Addr → Hp → Store → D → Prop} (hl : L.length = n) (h : Post K mg W σ F L H (stillD n r) ok) :
    Post K mg W σ F L H r fun _ L' H' _ _ => ∀ a : Addr, L'[n]? = some a → H a = none → ∃ F2 st2 e, Stp F L H F2 L H' ∧ Rep K mg F2 e (.ref a) ∧ ok F2 L H' st2 e := by
  cases r with
  | bad => exact h.elim
  | exc c fs st' =>
    intro F' L' H' cls dd s o x
    obtain ⟨M, e⟩ := s.pre
    subst e
    exact h F' L H' cls dd s.take (by rw [← hl]; exact o.take) x
  | ok d st' =>
    intro F' L' H' s o a ha hn
    obtain ⟨M, e⟩ := s.pre
    subst e
    have h : Post K mg W σ F L H (match st'[n]? with
      | some d => RC.ok d (st'.take n)
      | none => .bad) ok := h
    split at h
    · rename_i e he
      obtain ⟨nF, hs⟩ := o.at_ n a e ha he
      obtain ⟨u, hu⟩ := hs.there
      have nL : a ∉ L := fun z => by
        obtain ⟨m, hm, e⟩ := List.getElem_of_mem z
        have h1 : (L ++ M)[m]? = some a := by rw [List.getElem?_append_left hm, List.getElem?_eq_getElem hm, e]
        obtain ⟨hn1, e1⟩ := List.getElem?_eq_some_iff.mp ha
        obtain ⟨hm1, e2⟩ := List.getElem?_eq_some_iff.mp h1
        have := (List.getElem_inj o.nd).mp (e1.trans e2.symm)
        omega
      have o1 : Sto K mg F' L H' (st'.take n) := by rw [← hl]; exact o.take
      have s1 := (s.take).freeze (o := u) hn nF
      exact ⟨_, _, e, s1, hs.still hu nF, h _ _ _ s1 (o1.freeze hu nL nF)⟩
    · exact h.elim
theorem init_goL {F H : Hp} {L : List Addr} {σ : St} {st : Store} {ds : List D} {vs : List V} {Q : VK} {ok : Hp → List Addr → Hp → Store → D → Prop} (hC : mg c = some (.ref C)) (o : Sto K mg F L H st) (kvs : VRepL K mg L F ds vs)
    (q : Post K mg W σ F L H (initD c cf ds st) ok) (hq : ∀ F' L' H' st' x, H x = none → L'[st.length]? = some x → ok F' L' H' st' (.loc st.length) → Q (.ref x) H') (x dx : Addr) (nx : H x = none) (ndx : H dx = none) (ne : dx ≠ x) :
    spG K mg cf (.ref x :: vs) (upd (upd H dx (.own x)) x (.ins C dx [])) (fun v H2 => v = .non ∧ Q (.ref x) H2) (WE W σ) := by
  have nL : x ∉ L := fun z => by
    obtain ⟨u, hu⟩ := (o.mem z).2
    rw [nx] at hu; cases hu
  have hn : (upd H dx (.own x)) x = none := by rw [upd_ne (Ne.symm ne)]; exact nx
  have s1 : Stp F L H F L (upd (upd H dx (.own x)) x (.ins C dx [])) := (Stp.fresh ndx).trans (Stp.fresh hn)
  have o1 : Sto K mg F L (upd (upd H dx (.own x)) x (.ins C dx [])) st := (o.fresh ndx).fresh hn
  have nF : F x = none := o.ex.free nx
  have o2 : Sto K mg F (L ++ [x]) (upd (upd H dx (.own x)) x (.ins C dx [])) (st ++ [.ins c []]) := o1.add (d := .ins c []) ⟨C, dx, [], hC, upd_same, rfl⟩ nF nL
  have s2 : Stp F L H F (L ++ [x]) (upd (upd H dx (.own x)) x (.ins C dx [])) := by
    refine ⟨s1.ex, ⟨[x], rfl⟩, fun a u h n => ⟨(s1.kp a u h n).1, rfl, fun z => ?_⟩⟩
    rcases List.mem_append.mp z with z | z
    · exact n z
    · have : a = x := by simpa using z
      rw [this, nx] at h; cases h
  have lx : (L ++ [x])[st.length]? = some x := by rw [← o.len]; simp
  refine ⟨F, L ++ [x], .loc st.length :: ds, st ++ [.ins c []], o2, ⟨_, vs, rfl, .inl ⟨st.length, x, rfl, lx, rfl⟩, kvs.mono (Ex.refl F)⟩, ?_⟩
  refine Post.wish (W := W) (σ := σ) ((Post.step q.bind s2).imp fun F' L' H' st' d s' o' p v kv => ?_)
  split at p
  · refine ⟨kv.non, hq F' L' H' st' x nx ?_ (p.here o')⟩
    obtain ⟨M, e⟩ := s'.pre
    rw [e, List.getElem?_append_left (by rw [← o.len]; simp)]
    exact lx
  · exact p.elim
theorem g_make (M : Mk X.K C f) (F : FnOk X.prog X.w X.K X.mg X.base (L2.CX X.prog X.w) kk f fd ps (spG K mg cf)) (hr : Room (kk + 1) X.A) (hm : X.mg c = some (.ref C)) (hmg : mg c = some (.ref C)) (hb : Binds X.K fd ps []) (tk : Takes X W) (ha : PA X (e :: es) (taG K mg Γ W ms))
    (hg : Gl X c := by rfl) (hdb : (c == ("__debug__" : Str)) = false := by decide) (he : starEach (e :: es) X.env = (false, eval e X.env) :: starEach es X.env := by rfl) (hpl : (backTo pos (starEach es X.env)).any (·.1) = false := by rfl) :
    PE X (.Call (.Name c p) (e :: es) [] pos) (teV K mg Γ W (eMake c cf ms)) := by
  refine ⟨fun pins s σ H Q I ⟨F', L, ρ, st, rl, q⟩ => wpAny_Call_Name_kw (ld_glob I hg hm ?_ hdb)⟩
  have q' : taG K mg Γ W ms σ H fun vs H1 => ∀ x dx, H1 x = none → H1 dx = none → dx ≠ x → spG K mg cf (.ref x :: vs) (upd (upd H1 dx (.own x)) x (.ins C dx [])) (fun v H2 => v = .non ∧ Q (.ref x) H2) (WE W σ) := by
    refine ⟨F', L, ρ, st, rl, q.bind.imp fun F1 L1 H1 st1 ds s1 o1 q1 vs kvs => ?_⟩
    exact init_goL hmg o1 kvs (Post.stillD o1.len q1) fun F2 L2 H2 st2 x nx lx h => by
      obtain ⟨F3, st3, d, s3, r3, h3⟩ := h x lx nx
      exact h3 _ (.inr r3)
  exact PySem.W.callWith_K (h₀ := X.base) I.ok.mod.kin M.kp (thn (ha.run pos pins s σ H _ I q') fun us s1 ⟨vs, H1, I1, r, q⟩ => ⟨I1.kIn, run_mkS (E := WE W) M F hr hb (passAt tk σ) I1 r q⟩) he hpl
theorem g_makeM (M : Mk X.K C f) (F : FnOk X.prog X.w X.K X.mg X.base (L2.CX X.prog X.w) kk f fd ps (spG K mg cf)) (hr : Room (kk + 1) X.A) (hm : X.mg c = some (.ref C)) (hmg : mg c = some (.ref C)) (hb : Binds X.K fd ps []) (tk : Takes X W) (ha : PA X (e :: es) (taG K mg Γ W ms))
    (hg : Gl X c := by rfl) (hdb : (c == ("__debug__" : Str)) = false := by decide) (he : starEach (e :: es) X.env = (false, eval e X.env) :: starEach es X.env := by rfl) (hpl : (backTo pos (starEach es X.env)).any (·.1) = false := by rfl) :
    PE X (.Call (.Name c p) (e :: es) [] pos) (teV K mg Γ W (eMakeM c cf ms)) := by
  refine ⟨fun pins s σ H Q I ⟨F', L, ρ, st, rl, q⟩ => wpAny_Call_Name_kw (ld_glob I hg hm ?_ hdb)⟩
  have q' : taG K mg Γ W ms σ H fun vs H1 => ∀ x dx, H1 x = none → H1 dx = none → dx ≠ x → spG K mg cf (.ref x :: vs) (upd (upd H1 dx (.own x)) x (.ins C dx [])) (fun v H2 => v = .non ∧ Q (.ref x) H2) (WE W σ) := by
    refine ⟨F', L, ρ, st, rl, q.bind.imp fun F1 L1 H1 st1 ds s1 o1 q1 vs kvs => ?_⟩
    exact init_goL hmg o1 kvs q1 fun F2 L2 H2 st2 x nx lx h => h _ (.inl ⟨_, x, rfl, lx, rfl⟩)
  exact PySem.W.callWith_K (h₀ := X.base) I.ok.mod.kin M.kp (thn (ha.run pos pins s σ H _ I q') fun us s1 ⟨vs, H1, I1, r, q⟩ => ⟨I1.kIn, run_mkS (E := WE W) M F hr hb (passAt tk σ) I1 r q⟩) he hpl
theorem g_makeM0 (M : Mk X.K C f) (F : FnOk X.prog X.w X.K X.mg X.base (L2.CX X.prog X.w) kk f fd ps (spG K mg cf)) (hr : Room (kk + 1) X.A) (hm : X.mg c = some (.ref C)) (hmg : mg c = some (.ref C)) (hb : Binds X.K fd ps []) (tk : Takes X W)
    (hg : Gl X c := by rfl) (hdb : (c == ("__debug__" : Str)) = false := by decide) : PE X (.Call (.Name c p) [] [] pos) (teV K mg Γ W (eMakeM c cf aNil)) := by
  refine ⟨fun pins s σ H Q I ⟨F', L, ρ, st, rl, q⟩ => wpAny_Call_Name_kw (ld_glob I hg hm ?_ hdb)⟩
  have q1 := q.bind.here (d := []) (st := st) rl.sto
  exact PySem.W.callWith_K0 I.kIn M.kp (run_mkS (us := []) (vs := []) (E := WE W) M F hr hb (passAt tk σ) I .nil fun x dx nx ndx ne =>
    init_goL hmg rl.sto (show VRepL K mg L F' [] [] from rfl) q1 (fun F2 L2 H2 st2 x nx lx h => h _ (.inl ⟨_, x, rfl, lx, rfl⟩)) x dx nx ndx ne)
end
end Gh
/-! Gh4: statements. -/
namespace Gh
open L2 PyProof.Rows PySem.Spec PySem

/-! ### slots changed -/
section
variable {K : PySem.W.Frag} {mg : Glob} {Γ : Ent} {F F' H H' : Hp} {L L' : List Addr} {σ : St} {ρ : REnv} {st st' : Store} {d e : D} {v : V} {a : Addr} {i : Nat}
theorem set_get {α : Type} {l : List α} {i j : Nat} {x y : α} (h : (l.set i x)[j]? = some y) : (j = i ∧ y = x ∧ i < l.length) ∨ (j ≠ i ∧ l[j]? = some y) := by
  by_cases e : j = i
  · subst e
    have hl : j < l.length := by
      have := (List.getElem?_eq_some_iff.mp h).1
      rwa [List.length_set] at this
    rw [List.getElem?_set_self hl] at h
    cases h
    exact .inl ⟨rfl, rfl, hl⟩
  · rw [List.getElem?_set_ne (Ne.symm e)] at h
    exact .inr ⟨e, h⟩
/-- a slot gets something: x by ρ, z by σ -/
theorem Rl.set (r : Rl K mg Γ F L σ H ρ st) (i : Nat) (x : Sl) (z : Option V) (hv : ∀ d, x = .val d → ∃ v, z = some v ∧ VRep K mg L F d v)
    (ho : ∀ d, x = .own d → ∃ a, z = some (.ref a) ∧ F a = none ∧ a ∉ L ∧ Γ.H0 a = none ∧ Has K mg F H a d ∧ ∀ (j : Nat) (e : D), j ≠ i → ρ[j]? = some (Sl.own e) → σ[j]? ≠ some (some (.ref a)))
    (hx : ∀ c fs, x = .exc c fs → ∃ a cls dd, Γ.x = some (i, a, cls, dd) ∧ z = some (.ref a) ∧ Exc K mg F c fs cls dd) : Rl K mg Γ F L (σ.set i z) H (ρ.set i x) st := by
  have sg : ∀ {j : Nat} {w : Option V}, j ≠ i → σ[j]? = some w → (σ.set i z)[j]? = some w := fun {j w} n h => by rw [List.getElem?_set_ne (Ne.symm n)]; exact h
  have ss : i < ρ.length → (σ.set i z)[i]? = some z := fun h => List.getElem?_set_self (by rw [← r.len]; exact h)
  refine ⟨r.sto, r.stp, fun j d h => ?_, fun j d h => ?_, fun j l d e b h1 h2 h3 h4 => ?_, fun j c fs h => ?_, by rw [List.length_set, List.length_set]; exact r.len⟩
  · rcases set_get h with ⟨rfl, q, hl⟩ | ⟨n, h⟩
    · obtain ⟨v, rfl, h2⟩ := hv d q.symm
      exact ⟨v, ss hl, h2⟩
    · obtain ⟨v, h1, h2⟩ := r.sl j d h
      exact ⟨v, sg n h1, h2⟩
  · rcases set_get h with ⟨rfl, q, hl⟩ | ⟨n, h⟩
    · obtain ⟨a, rfl, h2, h3, h4, h5, _⟩ := ho d q.symm
      exact ⟨a, ss hl, h2, h3, h4, h5⟩
    · obtain ⟨a, h1, h2⟩ := r.so j d h
      exact ⟨a, sg n h1, h2⟩
  · rcases set_get h1 with ⟨rfl, q, hl⟩ | ⟨n, g1⟩
    · rcases set_get h2 with ⟨rfl, q2, _⟩ | ⟨n2, g2⟩
      · rfl
      · obtain ⟨a, e1, _, _, _, _, hu⟩ := ho d q.symm
        rw [ss hl, e1] at h3
        cases h3
        rw [List.getElem?_set_ne (Ne.symm n2)] at h4
        exact absurd h4 (hu l e n2 g2)
    · rcases set_get h2 with ⟨rfl, q2, hl⟩ | ⟨n2, g2⟩
      · obtain ⟨a, e1, _, _, _, _, hu⟩ := ho e q2.symm
        rw [ss hl, e1] at h4
        cases h4
        rw [List.getElem?_set_ne (Ne.symm n)] at h3
        exact absurd h3 (hu j d n g1)
      · rw [List.getElem?_set_ne (Ne.symm n)] at h3
        rw [List.getElem?_set_ne (Ne.symm n2)] at h4
        exact r.sd j l d e b g1 g2 h3 h4
  · rcases set_get h with ⟨rfl, q, hl⟩ | ⟨n, h⟩
    · obtain ⟨a, cls, dd, h1, rfl, h3⟩ := hx c fs q.symm
      exact ⟨a, cls, dd, h1, ss hl, h3⟩
    · obtain ⟨a, cls, dd, h1, h2, h3⟩ := r.sx j c fs h
      exact ⟨a, cls, dd, h1, sg n h2, h3⟩
theorem Rl.setV (r : Rl K mg Γ F L σ H ρ st) (i : Nat) (h : VRep K mg L F d v) : Rl K mg Γ F L (σ.set i (some v)) H (ρ.set i (.val d)) st :=
  r.set i _ _ (fun e q => by cases q; exact ⟨v, rfl, h⟩) (fun e q => by cases q) (fun c fs q => by cases q)
theorem Rl.setU (r : Rl K mg Γ F L σ H ρ st) (i : Nat) (z : Option V) : Rl K mg Γ F L (σ.set i z) H (ρ.set i .un) st :=
  r.set i _ _ (fun e q => by cases q) (fun e q => by cases q) (fun c fs q => by cases q)
theorem Rl.setO (r : Rl K mg Γ F L σ H ρ st) (i : Nat) (nF : F a = none) (nL : a ∉ L) (n0 : Γ.H0 a = none) (hs : Has K mg F H a d) (hu : ∀ (j : Nat) (e : D), ρ[j]? = some (Sl.own e) → σ[j]? ≠ some (some (.ref a))) :
    Rl K mg Γ F L (σ.set i (some (.ref a))) H (ρ.set i (.own d)) st :=
  r.set i _ _ (fun e q => by cases q) (fun e q => by cases q; exact ⟨a, rfl, nF, nL, n0, hs, fun j e _ h => hu j e h⟩) (fun c fs q => by cases q)
/-- what a slot owns is changed -/
theorem Rl.mut (r : Rl K mg Γ F L σ H ρ st) {i : Nat} {o : HO} (h1 : ρ[i]? = some (Sl.own d)) (h2 : σ[i]? = some (some (.ref a))) (hs : ∀ H', H' a = some o → Has K mg F H' a e) : Rl K mg Γ F L σ (upd H a o) (ρ.set i (.own e)) st := by
  obtain ⟨b, e1, nF, nL, n0, hh⟩ := r.so i d h1
  rw [h2] at e1; cases e1
  have sto : Sto K mg F L (upd H a o) st := by
    refine ⟨fun b u q => ?_, r.sto.nd, r.sto.len, fun n b u q1 q2 => ?_⟩
    · have hb : b ≠ a := fun z => by rw [z, nF] at q; cases q
      rw [upd_ne hb]
      exact r.sto.ex b u q
    · obtain ⟨g1, g2⟩ := r.sto.at_ n b u q1 q2
      have hb : b ≠ a := fun z => nL (z ▸ List.mem_of_getElem? q1)
      exact ⟨g1, g2.mono (Ex.refl F) fun w q => by rw [upd_ne hb]; exact q⟩
  have stp : Stp Γ.F0 Γ.L0 Γ.H0 F L (upd H a o) := by
    refine ⟨r.stp.ex, r.stp.pre, fun b u q n => ?_⟩
    obtain ⟨g1, g2, g3⟩ := r.stp.kp b u q n
    have hb : b ≠ a := fun z => by rw [z, n0] at q; cases q
    exact ⟨by rw [upd_ne hb]; exact g1, g2, g3⟩
  have base : Rl K mg Γ F L σ (upd H a o) (ρ.set i .un) st := by
    have r' := r.setU i (some (.ref a))
    have es : σ.set i (some (V.ref a)) = σ := by
      apply List.ext_getElem? 
      intro j
      by_cases hj : j = i
      · subst hj
        rw [List.getElem?_set_self (List.getElem?_eq_some_iff.mp h2).1, h2]
      · rw [List.getElem?_set_ne (Ne.symm hj)]
    rw [es] at r'
    refine ⟨sto, stp, r'.sl, fun j u q => ?_, r'.sd, r'.sx, r'.len⟩
    obtain ⟨b, g1, g2, g3, g4, g5⟩ := r'.so j u q
    refine ⟨b, g1, g2, g3, g4, g5.mono (Ex.refl F) fun w z => ?_⟩
    have hb : b ≠ a := fun z => by
      subst z
      rcases set_get q with ⟨_, q, _⟩ | ⟨n, q⟩
      · cases q
      · exact n (r.sd j i u d b q h1 g1 h2)
    rw [upd_ne hb]; exact z
  have fin := base.setO (d := e) (a := a) i nF nL n0 (hs _ upd_same) (fun j u q => ?_)
  · have es : σ.set i (some (V.ref a)) = σ := by
      apply List.ext_getElem? 
      intro j
      by_cases hj : j = i
      · subst hj
        rw [List.getElem?_set_self (List.getElem?_eq_some_iff.mp h2).1, h2]
      · rw [List.getElem?_set_ne (Ne.symm hj)]
    rw [es, List.set_set] at fin
    exact fin
  · rcases set_get q with ⟨_, q, _⟩ | ⟨n, q⟩
    · cases q
    · exact fun z => n (r.sd j i u d a q h1 z h2)
/-- what a slot owns stands still from now on -/
theorem Rl.frz (r : Rl K mg Γ F L σ H ρ st) {i : Nat} (h1 : ρ[i]? = some (Sl.own d)) : ∃ F', Ex F F' ∧ Rl K mg Γ F' L σ H (ρ.set i (.val d)) st := by
  obtain ⟨a, h2, nF, nL, n0, hs⟩ := r.so i d h1
  obtain ⟨o, ho⟩ := hs.there
  have ex : Ex F (upd F a o) := Ex.new nF
  have sto := r.sto.freeze ho nL nF
  have stp : Stp Γ.F0 Γ.L0 Γ.H0 (upd F a o) L H := r.stp.freeze n0 nF
  have es : σ.set i (some (V.ref a)) = σ := by
    apply List.ext_getElem? 
    intro j
    by_cases hj : j = i
    · subst hj
      rw [List.getElem?_set_self (List.getElem?_eq_some_iff.mp h2).1, h2]
    · rw [List.getElem?_set_ne (Ne.symm hj)]
  have r1 := r.setU i (some (.ref a))
  rw [es] at r1
  have r2 : Rl K mg Γ (upd F a o) L σ H (ρ.set i .un) st := by
    refine ⟨sto, stp, fun j u q => ?_, fun j u q => ?_, r1.sd, fun j c fs q => ?_, r1.len⟩
    · obtain ⟨v, g1, g2⟩ := r1.sl j u q
      refine ⟨v, g1, ?_⟩
      have := g2.mono (M := []) ex
      rwa [List.append_nil] at this
    · obtain ⟨b, g1, g2, g3, g4, g5⟩ := r1.so j u q
      have hb : b ≠ a := fun z => by
        subst z
        rcases set_get q with ⟨_, q, _⟩ | ⟨n, q⟩
        · cases q
        · exact n (r.sd j i u d b q h1 g1 h2)
      exact ⟨b, g1, by rw [upd_ne hb]; exact g2, g3, g4, g5.mono ex fun w z => z⟩
    · obtain ⟨b, cls, dd, g1, g2, g3⟩ := r1.sx j c fs q
      exact ⟨b, cls, dd, g1, g2, g3.mono ex⟩
  have r3 := r2.setV (d := d) (v := .ref a) i (.inr (hs.still ho nF))
  rw [es, List.set_set] at r3
  exact ⟨_, ex, r3⟩
end

/-! ### readings of statements -/
def SPost (K : PySem.W.Frag) (mg : Glob) (Γ : Ent) (W : WX) (D' : Ends) (r : SR) : Prop := match r with
  | .nx ρ st => ∀ F L σ H, Rl K mg Γ F L σ H ρ st → D'.nx σ H
  | .rt d st => ∀ F L σ H ρ v, Rl K mg Γ F L σ H ρ st → VRep K mg L F d v → D'.rt v H
  | .bk ρ st => ∀ F L σ H, Rl K mg Γ F L σ H ρ st → D'.bk σ H
  | .ct ρ st => ∀ F L σ H, Rl K mg Γ F L σ H ρ st → D'.ct σ H
  | .exc c fs ρ st => ∀ F L σ H cls dd, Rl K mg Γ F L σ H ρ st → Exc K mg F c fs cls dd → W cls dd σ H
  | .bad => False
def tsG (K : PySem.W.Frag) (mg : Glob) (Γ : Ent) (W : WX) (m : SDen) : TS := fun D' σ H => ∃ F L ρ st, Rl K mg Γ F L σ H ρ st ∧ SPost K mg Γ W D' (m ρ st)
/-- an expression's outcome, then .. -/
def RC.s {α : Type} (r : RC α) (ρ : REnv) (f : α → Store → SR) : SR := match r with
  | .ok d st => f d st
  | .exc c fs st => .exc c fs ρ st
  | .bad => .bad
@[simp] theorem RC.s_ok {α : Type} (d : α) (st : Store) (ρ : REnv) (f : α → Store → SR) : (RC.ok d st).s ρ f = f d st := rfl
@[simp] theorem RC.s_exc {α : Type} (c : Str) (fs : List (Str × D)) (st : Store) (ρ : REnv) (f : α → Store → SR) : (RC.exc c fs st : RC α).s ρ f = .exc c fs ρ st := rfl
@[simp] theorem RC.s_bad {α : Type} (ρ : REnv) (f : α → Store → SR) : (RC.bad : RC α).s ρ f = .bad := rfl
section
variable {K : PySem.W.Frag} {mg : Glob} {Γ : Ent} {W : WX} {F H : Hp} {L : List Addr} {σ : St} {ρ : REnv} {st : Store} {D' : Ends}
theorem SPost.s {α : Type} {r : RC α} {f : α → Store → SR} (h : SPost K mg Γ W D' (r.s ρ f)) (rl : Rl K mg Γ F L σ H ρ st) : Post K mg W σ F L H r fun _ _ _ st' d => SPost K mg Γ W D' (f d st') := by
  cases r with
  | ok d st' => exact fun F' L' H' s o => h
  | exc c fs st' => exact fun F' L' H' cls dd s o x => h F' L' σ H' cls dd (rl.step s o) x
  | bad => exact h.elim
end
section
variable {X : Cx} {K : PySem.W.Frag} {mg : Glob} {Γ : Ent} {W : WX} {e a b c : Expr} {es : List Expr} {m ma mb : EDen} {ms : ADen} {pos pos' tpos p : Pos} {k : Kd} {sa sb : SDen} {st0 : Stmt} {rest body orelse : List Stmt} {t : TDen}
def sNil : SDen := fun ρ st => .nx ρ st
def sSeq (sa sb : SDen) : SDen := fun ρ st => match sa ρ st with
  | .nx ρ' st' => sb ρ' st'
  | r => r
theorem s_nil : PSs X [] (tsG K mg Γ W sNil) := pss_imp pss_nil fun D' σ H ⟨F, L, ρ, st, rl, q⟩ => q F L σ H rl
theorem s_cons (h1 : PS X st0 (tsG K mg Γ W sa)) (h2 : PSs X rest (tsG K mg Γ W sb)) : PSs X (st0 :: rest) (tsG K mg Γ W (sSeq sa sb)) := by
  refine pss_imp (pss_cons h1 h2) fun D' σ H ⟨F, L, ρ, st, rl, q⟩ => ⟨F, L, ρ, st, rl, ?_⟩
  unfold sSeq at q
  cases h : sa ρ st with
  | nx ρ' st' => rw [h] at q; exact fun F' L' σ' H' rl' => ⟨F', L', ρ', st', rl', q⟩
  | _ => rw [h] at q; exact q
theorem s_one (h1 : PS X st0 (tsG K mg Γ W sa)) : PSs X [st0] (tsG K mg Γ W sa) := pss_one h1
def sPass : SDen := sNil
theorem s_pass : PS X (.Pass pos) (tsG K mg Γ W sPass) := ps_imp ps_pass fun D' σ H ⟨F, L, ρ, st, rl, q⟩ => q F L σ H rl
def sBrk : SDen := fun ρ st => .bk ρ st
def sCnt : SDen := fun ρ st => .ct ρ st
theorem s_brk : PS X (.Break pos) (tsG K mg Γ W sBrk) := ps_imp ps_break fun D' σ H ⟨F, L, ρ, st, rl, q⟩ => q F L σ H rl
theorem s_cnt : PS X (.Continue pos) (tsG K mg Γ W sCnt) := ps_imp ps_continue fun D' σ H ⟨F, L, ρ, st, rl, q⟩ => q F L σ H rl
/-- an expression alone -/
def sDrop (m : EDen) : SDen := fun ρ st => (m ρ st).s ρ fun _ st' => .nx ρ st'
theorem s_drop (h : PE X e (teV K mg Γ W m)) (hs : swapsWith e none pos.line X.env = pure false := by rfl) : PS X (.Expr e pos) (tsG K mg Γ W (sDrop m)) :=
  ps_imp (ps_expr h hs) fun D' σ H ⟨F, L, ρ, st, rl, q⟩ => ⟨F, L, ρ, st, rl, (SPost.s q rl).imp fun F' L' H' st' d s o q' v kv => q' F' L' σ H' (rl.step s o)⟩
def sRet (m : EDen) : SDen := fun ρ st => (m ρ st).s ρ fun d st' => .rt d st'
theorem s_ret (h : PE X e (teV K mg Γ W m)) : PS X (.Return (some e) pos) (tsG K mg Γ W (sRet m)) :=
  ps_imp (ps_ret h) fun D' σ H ⟨F, L, ρ, st, rl, q⟩ => ⟨F, L, ρ, st, rl, (SPost.s q rl).imp fun F' L' H' st' d s o q' v kv => q' F' L' σ H' ρ v (rl.step s o) kv⟩
def sRetN : SDen := fun _ st => .rt .non st
theorem s_retN : PS X (.Return none pos) (tsG K mg Γ W sRetN) := ps_imp ps_retN fun D' σ H ⟨F, L, ρ, st, rl, q⟩ => q F L σ H ρ .non rl (.inr rfl)
def sIf (t : TDen) (sa sb : SDen) : SDen := fun ρ st => (t ρ st).s ρ fun b st' => if b then sa ρ st' else sb ρ st'
theorem s_if (ht : PT X c (ttG K mg Γ W t)) (ha : PSs X body (tsG K mg Γ W sa)) (hb : PSs X orelse (tsG K mg Γ W sb)) : PS X (.If c body orelse pos) (tsG K mg Γ W (sIf t sa sb)) := by
  refine ps_imp (ps_if ht ha hb) fun D' σ H ⟨F, L, ρ, st, rl, q⟩ => ⟨F, L, ρ, st, rl, (SPost.s q rl).imp fun F' L' H' st' d s o q' => ?_⟩
  cases d with
  | true => exact iteT ⟨F', L', ρ, st', rl.step s o, q'⟩
  | false => exact iteF ⟨F', L', ρ, st', rl.step s o, q'⟩
/-- x = e -/
def sAsg (i : Nat) (m : EDen) : SDen := fun ρ st => (m ρ st).s ρ fun d st' => .nx (ρ.set i (.val d)) st'
theorem s_asg {x : Str} {pos' : Pos} {i : Nat} (hN : X.N.Nodup) (h : PE X e (teV K mg Γ W m)) (hi : X.N[i]? = some x := by rfl) (hx : Loc X.env.scope x := by first | exact Or.inl rfl | exact Or.inr rfl) (hs : swapsWith e (some (.Name x pos')) pos.line X.env = pure false := by rfl)
    (hf : X.fn x = true ∨ X.env.scope.names.lookup x = some .local := by first | exact .inl rfl | exact .inr rfl | assumption) : PS X (.Assign [.Name x pos'] e pos) (tsG K mg Γ W (sAsg i m)) :=
  ps_imp (ps_set hN hi hx h hs hf) fun D' σ H ⟨F, L, ρ, st, rl, q⟩ => ⟨F, L, ρ, st, rl, (SPost.s q rl).imp fun F' L' H' st' d s o q' v kv => q' F' L' _ H' ((rl.step s o).setV i kv)⟩
/-- .. a list or dict of the frame's own from now on -/
def sAsgO (i : Nat) (m : EDen) : SDen := fun ρ st => (m ρ st).s ρ fun d st' => .nx (ρ.set i (.own d)) st'
theorem Rl.setN {F H F' H' : Hp} {L L' : List Addr} {σ : St} {ρ : REnv} {st st' : Store} {d : D} {a : Addr} (rl : Rl K mg Γ F L σ H ρ st) (s : Stp F L H F' L' H') (o : Sto K mg F' L' H' st') (i : Nat) (n : H a = none) (nF : F' a = none) (nL : a ∉ L') (hs : Has K mg F' H' a d) :
    Rl K mg Γ F' L' (σ.set i (some (.ref a))) H' (ρ.set i (.own d)) st' :=
  (rl.step s o).setO i nF nL (rl.new0 n) hs fun j e h z => by
    obtain ⟨b, g1, _, _, _, hh⟩ := rl.so j e h
    rw [g1] at z; cases z
    obtain ⟨u, hu⟩ := hh.there
    rw [n] at hu; cases hu
theorem s_asgO {x : Str} {pos' : Pos} {i : Nat} (hN : X.N.Nodup) (h : PE X e (teO K mg Γ W m)) (hi : X.N[i]? = some x := by rfl) (hx : Loc X.env.scope x := by first | exact Or.inl rfl | exact Or.inr rfl) (hs : swapsWith e (some (.Name x pos')) pos.line X.env = pure false := by rfl)
    (hf : X.fn x = true ∨ X.env.scope.names.lookup x = some .local := by first | exact .inl rfl | exact .inr rfl | assumption) : PS X (.Assign [.Name x pos'] e pos) (tsG K mg Γ W (sAsgO i m)) := by
  refine ps_imp (ps_set hN hi hx h hs hf) fun D' σ H ⟨F, L, ρ, st, rl, q⟩ => ⟨F, L, ρ, st, rl, (SPost.s q rl).imp fun F' L' H' st' d s o q' v kv => ?_⟩
  obtain ⟨a, rfl, n, nF, nL, hs⟩ := kv
  exact q' F' L' _ H' (rl.setN s o i n nF nL hs)
/-- slots that own stand still ahead of a statement -/
def frzE (ρ : REnv) (i : Nat) : REnv := match ρ[i]? with
  | some (.own d) => ρ.set i (.val d)
  | _ => ρ
def sFrz (is : List Nat) (s : SDen) : SDen := fun ρ st => s (is.foldl frzE ρ) st
theorem Rl.frzE {F H : Hp} {L : List Addr} {σ : St} {ρ : REnv} {st : Store} (rl : Rl K mg Γ F L σ H ρ st) (i : Nat) : ∃ F', Rl K mg Γ F' L σ H (frzE ρ i) st := by
  unfold Gh.frzE
  split
  · rename_i d h
    obtain ⟨F', _, r⟩ := rl.frz h
    exact ⟨F', r⟩
  · exact ⟨F, rl⟩
theorem Rl.frzEs {H : Hp} {L : List Addr} {σ : St} {st : Store} : ∀ (is : List Nat) {F : Hp} {ρ : REnv}, Rl K mg Γ F L σ H ρ st → ∃ F', Rl K mg Γ F' L σ H (is.foldl Gh.frzE ρ) st
  | [], F, ρ, rl => ⟨F, rl⟩
  | i :: is, F, ρ, rl => by
    obtain ⟨F', r⟩ := rl.frzE i
    exact Rl.frzEs is r
theorem s_frz (is : List Nat) (h : PS X st0 (tsG K mg Γ W sa)) : PS X st0 (tsG K mg Γ W (sFrz is sa)) := by
  refine ps_imp h fun D' σ H ⟨F, L, ρ, st, rl, q⟩ => ?_
  obtain ⟨F', r⟩ := rl.frzEs is
  exact ⟨F', L, _, st, r, q⟩
end
end Gh
/-! Gh5: what is walked; targets; loops; comprehensions. -/
namespace Gh
open L2 PyProof.Rows PySem.Spec PySem

abbrev LDen := REnv → Store → RC (List D)
/-- the turns of J are ds: as long as F stands -/
def ItG (K : PySem.W.Frag) (mg : Glob) (J : It) (ds : List D) (F : Hp) : Prop := ∀ F1 L1 H1 st1, Ex F F1 → Sto K mg F1 L1 H1 st1 →
  J.stop ds.length H1 ∧ ∀ (i : Nat) (d : D), ds[i]? = some d → J.go i H1 ∧ ∀ x H2, J.yld i H1 x H2 → ∃ F2, Stp F1 L1 H1 F2 L1 H2 ∧ Sto K mg F2 L1 H2 st1 ∧ Rep K mg F2 d x
/-- .. as long as all stands but the store -/
def ItC (K : PySem.W.Frag) (mg : Glob) (J : It) (ds : List D) (F : Hp) (L : List Addr) (H : Hp) : Prop := ∀ F1 L1 H1 st1, Stp F L H F1 L1 H1 → Sto K mg F1 L1 H1 st1 →
  J.stop ds.length H1 ∧ ∀ (i : Nat) (d : D), ds[i]? = some d → J.go i H1 ∧ ∀ x H2, J.yld i H1 x H2 → ∃ F2, Stp F1 L1 H1 F2 L1 H2 ∧ Sto K mg F2 L1 H2 st1 ∧ Rep K mg F2 d x
def tiG (K : PySem.W.Frag) (mg : Glob) (Γ : Ent) (W : WX) (m : LDen) : TI := fun σ H R => ∃ F L ρ st, Rl K mg Γ F L σ H ρ st ∧
  Post K mg W σ F L H (m ρ st) fun F' L' H' _ ds => ∀ J, ItG K mg J ds F' → R J H'
def tiC (K : PySem.W.Frag) (mg : Glob) (Γ : Ent) (W : WX) (m : LDen) : TI := fun σ H R => ∃ F L ρ st, Rl K mg Γ F L σ H ρ st ∧
  Post K mg W σ F L H (m ρ st) fun F' L' H' _ ds => ∀ J, ItC K mg J ds F' L' H' → R J H'
theorem pi_imp {X : Cx} {tg e : Expr} {t t' : TI} (h : PI X tg e t) (k : ∀ σ H R, t' σ H R → t σ H R) : PI X tg e t' := ⟨fun pins s σ H R I q => h.run pins s σ H R I (k σ H R q)⟩
theorem pi_or {X : Cx} {tg e : Expr} {t t' : TI} (h : PI X tg e t) (h' : PI X tg e t') : PI X tg e (fun σ H R => t σ H R ∨ t' σ H R) := ⟨fun pins s σ H R I q => q.elim (h.run pins s σ H R I) (h'.run pins s σ H R I)⟩
theorem i_gc {X : Cx} {K : PySem.W.Frag} {mg : Glob} {Γ : Ent} {W : WX} {tg e : Expr} {m : LDen} (h : PI X tg e (tiG K mg Γ W m)) : PI X tg e (tiC K mg Γ W m) :=
  pi_imp h fun σ H R ⟨F, L, ρ, st, rl, q⟩ => ⟨F, L, ρ, st, rl, q.imp fun F' L' H' st' ds s o q J j => q J fun F1 L1 H1 st1 s1 o1 => j F1 L1 H1 st1 s1.ex o1⟩
section
variable {X : Cx} {K : PySem.W.Frag} {mg : Glob} {Γ : Ent} {W : WX} {tg e a b : Expr} {m ma mb : EDen} {ms : ADen} {pos p : Pos}
/-- the items of a list, a tuple -/
def seqOf : D → Option (List D)
  | .lst ds => some ds
  | .tup ds => some ds
  | .scr ds => some ds
  | _ => none
def lSeq (m : EDen) : LDen := fun ρ st => (m ρ st).bind fun d st1 => match seqOf d with
  | some ds => .ok ds st1
  | none => .bad
theorem itG_list {J : It} {F : Hp} {ds : List D} {vs : List V} {a : Addr} (hs : ∀ F1 L1 H1 st1, Ex F F1 → Sto K mg F1 L1 H1 st1 → SqL K H1 a vs) (r : RepL K mg F ds vs) : ItG K mg (Itl K a) ds F := fun F1 L1 H1 st1 x o => by
  have h := hs F1 L1 H1 st1 x o
  refine ⟨⟨vs, h, by rw [r.length]; exact Nat.le_refl _⟩, fun i d e => ?_⟩
  obtain ⟨v, e1, e2⟩ := r.get e
  refine ⟨⟨vs, v, h, e1⟩, fun z H2 y => ?_⟩
  obtain ⟨rfl, q⟩ := y
  have := q vs h
  rw [e1] at this; cases this
  exact ⟨F1, Stp.refl, o, Rep.mono x d e2⟩
theorem itG_tup {J : It} {F : Hp} {ds : List D} {vs : List V} {a : Addr} (hs : ∀ F1 L1 H1 st1, Ex F F1 → Sto K mg F1 L1 H1 st1 → SqT K H1 a vs) (r : RepL K mg F ds vs) : ItG K mg (Itt K a) ds F := fun F1 L1 H1 st1 x o => by
  have h := hs F1 L1 H1 st1 x o
  refine ⟨⟨vs, h, by rw [r.length]; exact Nat.le_refl _⟩, fun i d e => ?_⟩
  obtain ⟨v, e1, e2⟩ := r.get e
  refine ⟨⟨vs, v, h, e1⟩, fun z H2 y => ?_⟩
  obtain ⟨rfl, q⟩ := y
  have := q vs h
  rw [e1] at this; cases this
  exact ⟨F1, Stp.refl, o, Rep.mono x d e2⟩
theorem i_seq (hK : X.K = K) (h : PE X e (teV K mg Γ W m)) : PI X tg e (tiG K mg Γ W (lSeq m)) := by
  refine pi_imp (pi_or (pi_list h) (pi_tup h)) fun σ H R ⟨F, L, ρ, st, rl, q⟩ => ?_
  have q := q.bind
  cases hm : m ρ st with
  | bad => rw [hm] at q; exact q.elim
  | exc c fs st' =>
    refine .inl ⟨F, L, ρ, st, rl, ?_⟩
    rw [hm] at q ⊢
    exact q
  | ok d st' =>
    rw [hm] at q
    have lst : ∀ ds, (∀ v F' L' H', Sto K mg F' L' H' st' → VRep K mg L' F' d v → ∃ a vs, v = .ref a ∧ RepL K mg F' ds vs ∧ SqL K H' a vs ∧ ∀ F1 L1 H1 st1, Ex F' F1 → Sto K mg F1 L1 H1 st1 → SqL K H1 a vs) → seqOf d = some ds → iList X.K (teV K mg Γ W m) σ H R := fun ds hd hs => by
      refine ⟨F, L, ρ, st, rl, ?_⟩
      rw [hm]
      intro F' L' H' s o v kv
      have q' := q F' L' H' s o
      dsimp only at q'
      rw [hs] at q'
      obtain ⟨a, vs, rfl, r, h0, h1⟩ := hd v F' L' H' o kv
      rw [hK]
      exact ⟨a, rfl, ⟨vs, h0⟩, (q'.here o) _ (itG_list (J := Itl K a) h1 r)⟩
    cases d with
    | lst ds =>
      refine .inl (lst ds (fun v F' L' H' o kv => ?_) rfl)
      rcases kv with ⟨_, _, e, _⟩ | ⟨a, vs, rfl, h1, h2⟩
      · cases e
      · exact ⟨a, vs, rfl, h2, .inl (.inl (o.ex.lst h1)), fun F1 L1 H1 st1 x o1 => .inl (.inl (o1.ex.lst (x _ _ h1)))⟩
    | scr ds =>
      refine .inl (lst ds (fun v F' L' H' o kv => ?_) rfl)
      rcases kv with ⟨_, _, e, _⟩ | ⟨a, vs, rfl, h1, h2⟩
      · cases e
      · exact ⟨a, vs, rfl, h2, o.ex.l h1, fun F1 L1 H1 st1 x o1 => o1.ex.l (ex_l x h1)⟩
    | tup ds =>
      refine .inr ⟨F, L, ρ, st, rl, ?_⟩
      rw [hm]
      intro F' L' H' s o v kv
      have q' := q F' L' H' s o
      rcases kv with ⟨_, _, e, _⟩ | ⟨a, vs, rfl, h1, h2⟩
      · cases e
      · rw [hK]
        exact ⟨a, rfl, ⟨vs, o.ex.t h1⟩, (q'.here o) _ (itG_tup (J := Itt K a) (fun F1 L1 H1 st1 x o1 => o1.ex.t (ex_t x h1)) h2)⟩
    | _ =>
      refine .inl ⟨F, L, ρ, st, rl, ?_⟩
      rw [hm]
      intro F' L' H' s o v kv
      exact (q F' L' H' s o).elim
/-- range(n), range(a, b) -/
def upto (lo : Int) (n : Nat) : List D := (List.range n).map fun (i : Nat) => D.int (lo + (i : Int))
theorem upto_get {lo : Int} {n i : Nat} {d : D} (h : (upto lo n)[i]? = some d) : i < n ∧ d = .int (lo + (i : Int)) := by
  unfold upto at h
  rw [List.getElem?_map] at h
  by_cases hi : i < n
  · rw [List.getElem?_range hi] at h
    cases h
    exact ⟨hi, rfl⟩
  · rw [List.getElem?_eq_none (by rw [List.length_range]; omega)] at h
    cases h
theorem upto_len {lo : Int} {n : Nat} : (upto lo n).length = n := by unfold upto; rw [List.length_map, List.length_range]
theorem itG_range {lo : Int} {n : Nat} {F : Hp} : ItG K mg (Itr lo n) (upto lo n) F := fun F1 L1 H1 st1 x o => by
  refine ⟨by rw [upto_len]; exact Nat.le_refl n, fun i d e => ?_⟩
  obtain ⟨hi, rfl⟩ := upto_get e
  refine ⟨hi, fun z H2 y => ?_⟩
  obtain ⟨rfl, rfl⟩ := y
  exact ⟨F1, Stp.refl, o, rfl⟩
def lRange1 (ms : ADen) : LDen := fun ρ st => (ms ρ st).bind fun ds st1 => match ds with
  | [.int n] => if -1000000000 ≤ n ∧ n ≤ 1000000000 then .ok (upto 0 n.toNat) st1 else .bad
  | _ => .bad
def lRange2 (ms : ADen) : LDen := fun ρ st => (ms ρ st).bind fun ds st1 => match ds with
  | [.int i, .int j] => if -1000000000 ≤ i ∧ i ≤ 1000000000 ∧ -1000000000 ≤ j ∧ j ≤ 1000000000 then .ok (upto i (j - i).toNat) st1 else .bad
  | _ => .bad
theorem i_range1 (hm : X.mg "range" = none) (ha : PA X [a] (taG K mg Γ W ms)) (hg : Gl X "range" := by rfl) (hs : starEach [a] X.env = [(false, eval a X.env)] := by rfl) : PI X tg (.Call (.Name "range" p) [a] [] pos) (tiG K mg Γ W (lRange1 ms)) := by
  refine pi_imp (pi_range1 hg hm ha hs) fun σ H R ⟨F, L, ρ, st, rl, q⟩ => ⟨F, L, ρ, st, rl, q.bind.imp fun F1 L1 H1 st1 ds s o q1 vs kvs => ?_⟩
  split at q1
  · rename_i n
    split at q1
    · rename_i hc
      obtain ⟨v, r, rfl, kv, rr⟩ := kvs
      cases (show r = [] from rr)
      exact ⟨n, by rw [kv.int], by omega, by omega, q1.here o _ itG_range⟩
    · exact q1.elim
  · exact q1.elim
theorem i_range2 (hm : X.mg "range" = none) (ha : PA X [a, b] (taG K mg Γ W ms)) (hg : Gl X "range" := by rfl) (hs : starEach [a, b] X.env = [(false, eval a X.env), (false, eval b X.env)] := by rfl) (hs2 : starEach [b] X.env = [(false, eval b X.env)] := by rfl) :
    PI X tg (.Call (.Name "range" p) [a, b] [] pos) (tiG K mg Γ W (lRange2 ms)) := by
  refine pi_imp (pi_range2 hg hm ha hs hs2) fun σ H R ⟨F, L, ρ, st, rl, q⟩ => ⟨F, L, ρ, st, rl, q.bind.imp fun F1 L1 H1 st1 ds s o q1 vs kvs => ?_⟩
  split at q1
  · rename_i i j
    split at q1
    · rename_i hc
      obtain ⟨v, r, rfl, kv, w, r2, rfl, kw, rr⟩ := kvs
      cases (show r2 = [] from rr)
      exact ⟨i, j, by rw [kv.int, kw.int], ⟨by omega, by omega, by omega, by omega⟩, q1.here o _ itG_range⟩
    · exact q1.elim
  · exact q1.elim
/-- the signs of a text -/
def signs (s : Str) : List D := s.cps.toList.map fun c => D.str ⟨#[c]⟩
def lStr (m : EDen) : LDen := fun ρ st => (m ρ st).bind fun d st1 => match d with
  | .str s => .ok (signs s) st1
  | _ => .bad
theorem itG_str {s : Str} {F : Hp} : ItG K mg (Its s) (signs s) F := fun F1 L1 H1 st1 x o => by
  refine ⟨by show s.cps.size ≤ (signs s).length; unfold signs; rw [List.length_map, Array.length_toList]; exact Nat.le_refl _, fun i d e => ?_⟩
  unfold signs at e
  rw [List.getElem?_map] at e
  cases h : s.cps.toList[i]? with
  | none => rw [h] at e; cases e
  | some c =>
    rw [h] at e
    cases e
    have hc : s.cps[i]? = some c := by rw [← Array.getElem?_toList]; exact h
    refine ⟨(Array.getElem?_eq_some_iff.mp hc).1, fun z H2 y => ?_⟩
    obtain ⟨rfl, c', h1, rfl⟩ := y
    rw [hc] at h1
    cases h1
    exact ⟨F1, Stp.refl, o, rfl⟩
theorem i_str (h : PE X e (teV K mg Γ W m)) : PI X tg e (tiG K mg Γ W (lStr m)) := by
  refine pi_imp (pi_str h) fun σ H R ⟨F, L, ρ, st, rl, q⟩ => ⟨F, L, ρ, st, rl, q.bind.imp fun F1 L1 H1 st1 d s o q1 v kv => ?_⟩
  split at q1
  · rename_i x
    exact ⟨x, kv.str, q1.here o _ itG_str⟩
  · exact q1.elim
/-- enumerate of a list -/
def numbered (ds : List D) : List D := (List.range ds.length).map fun (i : Nat) => D.tup [.int (i : Int), ds.getD i .non]
def lEnum (ms : ADen) : LDen := fun ρ st => (ms ρ st).bind fun ds st1 => match ds with
  | [.lst xs] => .ok (numbered xs) st1
  | _ => .bad
theorem numbered_get {ds : List D} {i : Nat} {d : D} (h : (numbered ds)[i]? = some d) : ∃ x, ds[i]? = some x ∧ d = .tup [.int (i : Int), x] := by
  unfold numbered at h
  rw [List.getElem?_map] at h
  by_cases hi : i < ds.length
  · rw [List.getElem?_range hi] at h
    cases h
    refine ⟨ds[i], List.getElem?_eq_getElem hi, ?_⟩
    show D.tup [.int (i : Int), ds.getD i .non] = _
    rw [List.getD_eq_getElem?_getD, List.getElem?_eq_getElem hi]
    rfl
  · rw [List.getElem?_eq_none (by rw [List.length_range]; omega)] at h
    cases h
theorem itG_enum {F : Hp} {ds : List D} {vs : List V} {a : Addr} (hs : ∀ F1 L1 H1 st1, Ex F F1 → Sto K mg F1 L1 H1 st1 → SqL K H1 a vs) (r : RepL K mg F ds vs) : ItG K mg (Ite K a) (numbered ds) F := fun F1 L1 H1 st1 x o => by
  have h := hs F1 L1 H1 st1 x o
  have hl : (numbered ds).length = ds.length := by unfold numbered; rw [List.length_map, List.length_range]
  refine ⟨⟨vs, h, by rw [hl, r.length]; exact Nat.le_refl _⟩, fun i d e => ?_⟩
  obtain ⟨y, ey, rfl⟩ := numbered_get e
  obtain ⟨v, e1, e2⟩ := r.get ey
  refine ⟨⟨vs, v, h, e1⟩, fun z H2 w => ?_⟩
  obtain ⟨T, x', rfl, nT, rfl, q⟩ := w
  have := q vs h
  rw [e1] at this; cases this
  obtain ⟨s2, o2⟩ := o.lay (o := .tup [.int (i : Nat), v]) nT
  exact ⟨_, s2, o2, T, _, rfl, .inl (.inl upd_same), _, _, rfl, rfl, _, _, rfl, Rep.mono s2.ex _ (Rep.mono x _ e2), rfl⟩
theorem i_enum {elts : List Expr} {kk : Nat} {tpos : Pos} (hK : X.K = K) (hm : X.mg "enumerate" = none) (ha : PA X [e] (taG K mg Γ W ms)) (hg : Gl X "enumerate" := by rfl) (hs : starEach [e] X.env = [(false, eval e X.env)] := by rfl) :
    PI X (.Tuple elts kk tpos) (.Call (.Name "enumerate" p) [e] [] pos) (tiG K mg Γ W (lEnum ms)) := by
  refine pi_imp (pi_enum hg hm ha hs) fun σ H R ⟨F, L, ρ, st, rl, q⟩ => ⟨F, L, ρ, st, rl, q.bind.imp fun F1 L1 H1 st1 ds s o q1 vs kvs => ?_⟩
  split at q1
  · rename_i xs
    obtain ⟨v, r, rfl, kv, rr⟩ := kvs
    cases (show r = [] from rr)
    rcases kv with ⟨_, _, e, _⟩ | ⟨a, vs, rfl, h1, h2⟩
    · cases e
    · rw [hK]
      exact ⟨a, vs, rfl, .inl (.inl (o.ex.lst h1)), q1.here o _ (itG_enum (fun F1 L1 H1 st1 x o1 => .inl (.inl (o1.ex.lst (x _ _ h1)))) h2)⟩
  · exact q1.elim
/-- zip of two lists -/
def paired (xs ys : List D) : List D := (xs.zip ys).map fun p => D.tup [p.1, p.2]
def lZip (ms : ADen) : LDen := fun ρ st => (ms ρ st).bind fun ds st1 => match ds with
  | [.lst xs, .lst ys] => .ok (paired xs ys) st1
  | _ => .bad
theorem itG_zip {F : Hp} {ds es : List D} {vs us : List V} {a b : Addr} (hs : ∀ F1 L1 H1 st1, Ex F F1 → Sto K mg F1 L1 H1 st1 → SqL K H1 a vs ∧ SqL K H1 b us) (r : RepL K mg F ds vs) (r2 : RepL K mg F es us) : ItG K mg (Itz K a b) (paired ds es) F := fun F1 L1 H1 st1 x o => by
  obtain ⟨h, h'⟩ := hs F1 L1 H1 st1 x o
  have hl : (paired ds es).length = min ds.length es.length := by unfold paired; rw [List.length_map, List.length_zip]
  refine ⟨⟨vs, us, h, h', by rw [hl, r.length, r2.length]; omega⟩, fun i d e => ?_⟩
  unfold paired at e
  rw [List.getElem?_map] at e
  cases hz : (ds.zip es)[i]? with
  | none => rw [hz] at e; cases e
  | some q =>
    rw [hz] at e
    cases e
    obtain ⟨z1, z2⟩ := List.getElem?_zip_eq_some.mp hz
    obtain ⟨v, e1, e2⟩ := r.get z1
    obtain ⟨u, f1, f2⟩ := r2.get z2
    refine ⟨⟨vs, us, v, u, h, h', e1, f1⟩, fun z H2 w => ?_⟩
    obtain ⟨T, x', y', rfl, nT, rfl, q1, q2⟩ := w
    have := q1 vs h
    rw [e1] at this; cases this
    have := q2 us h'
    rw [f1] at this; cases this
    obtain ⟨s2, o2⟩ := o.lay (o := .tup [v, u]) nT
    exact ⟨_, s2, o2, T, _, rfl, .inl (.inl upd_same), _, _, rfl, Rep.mono s2.ex _ (Rep.mono x _ e2), _, _, rfl, Rep.mono s2.ex _ (Rep.mono x _ f2), rfl⟩
theorem i_zip {elts : List Expr} {kk : Nat} {tpos : Pos} (hK : X.K = K) (hm : X.mg "zip" = none) (ha : PA X [a, b] (taG K mg Γ W ms)) (hg : Gl X "zip" := by rfl) (hs : starEach [a, b] X.env = (false, eval a X.env) :: starEach [b] X.env := by rfl) (hpl : (backTo pos (starEach [b] X.env)).any (·.1) = false := by rfl) :
    PI X (.Tuple elts kk tpos) (.Call (.Name "zip" p) [a, b] [] pos) (tiG K mg Γ W (lZip ms)) := by
  refine pi_imp (pi_zip hg hm ha hs hpl) fun σ H R ⟨F, L, ρ, st, rl, q⟩ => ⟨F, L, ρ, st, rl, q.bind.imp fun F1 L1 H1 st1 ds s o q1 vs kvs => ?_⟩
  split at q1
  · rename_i xs ys
    obtain ⟨v, r, rfl, kv, w, r2, rfl, kw, rr⟩ := kvs
    cases (show r2 = [] from rr)
    rcases kv with ⟨_, _, e, _⟩ | ⟨a, vs, rfl, h1, h2⟩
    · cases e
    · rcases kw with ⟨_, _, e, _⟩ | ⟨b, us, rfl, g1, g2⟩
      · cases e
      · rw [hK]
        exact ⟨a, b, vs, us, rfl, .inl (.inl (o.ex.lst h1)), .inl (.inl (o.ex.lst g1)), q1.here o _ (itG_zip (fun F1 L1 H1 st1 x o1 => ⟨.inl (.inl (o1.ex.lst (x _ _ h1))), .inl (.inl (o1.ex.lst (x _ _ g1)))⟩) h2 g2)⟩
  · exact q1.elim
end

/-! ### targets -/
abbrev BDen := D → REnv → Option REnv
/-- slots but those of vs are as they were -/
def OffS (vs : List Nat) (σ σ' : St) : Prop := σ'.length = σ.length ∧ ∀ j, j ∉ vs → σ'[j]? = σ[j]?
def tgG (K : PySem.W.Frag) (mg : Glob) (Γ : Ent) (vs : List Nat) (bd : BDen) : TG := fun v σ H Q => ∃ F L ρ st d ρ', Rl K mg Γ F L σ H ρ st ∧ Rep K mg F d v ∧ bd d ρ = some ρ' ∧ ∀ σ', OffS vs σ σ' → Rl K mg Γ F L σ' H ρ' st → Q σ' H
def tgsG (K : PySem.W.Frag) (mg : Glob) (Γ : Ent) (vs : List Nat) (bd : List D → REnv → Option REnv) : TGs := fun ws σ H Q => ∃ F L ρ st ds ρ', Rl K mg Γ F L σ H ρ st ∧ RepL K mg F ds ws ∧ bd ds ρ = some ρ' ∧ ∀ σ', OffS vs σ σ' → Rl K mg Γ F L σ' H ρ' st → Q σ' H
section
variable {X : Cx} {K : PySem.W.Frag} {mg : Glob} {Γ : Ent} {W : WX} {tg e a b : Expr} {es : List Expr} {pos p : Pos} {vs ws : List Nat} {bd : BDen} {bds : List D → REnv → Option REnv}
theorem OffS.refl {σ : St} : OffS vs σ σ := ⟨rfl, fun _ _ => rfl⟩
theorem OffS.trans {σ σ1 σ2 : St} (h : OffS vs σ σ1) (h' : OffS ws σ1 σ2) : OffS (vs ++ ws) σ σ2 := ⟨h'.1.trans h.1, fun j hj => by
  rw [List.mem_append, not_or] at hj
  rw [h'.2 j hj.2, h.2 j hj.1]⟩
theorem OffS.set {σ : St} {i : Nat} {z : Option V} : OffS [i] σ (σ.set i z) := ⟨by rw [List.length_set], fun j hj => by
  have : i ≠ j := fun e => hj (by rw [e]; simp)
  rw [List.getElem?_set_ne this]⟩
theorem pg_imp {t t' : TG} (h : PG X tg t) (k : ∀ v σ H Q, t' v σ H Q → t v σ H Q) : PG X tg t' := ⟨fun pins s σ H v u Q I r q => h.run pins s σ H v u Q I r (k v σ H Q q)⟩
theorem pgs_imp {t t' : TGs} (h : PGs X es t) (k : ∀ v σ H Q, t' v σ H Q → t v σ H Q) : PGs X es t' := ⟨fun pins s σ H v u Q I r q => h.run pins s σ H v u Q I r (k v σ H Q q)⟩
def bName (i : Nat) : BDen := fun d ρ => some (ρ.set i (.val d))
theorem b_name {x : Str} (i : Nat) (hN : X.N.Nodup) (hi : X.N[i]? = some x := by rfl) (hx : Loc X.env.scope x := by first | exact Or.inl rfl | exact Or.inr rfl) (hf : X.fn x = true ∨ X.env.scope.names.lookup x = some .local := by first | exact .inl rfl | exact .inr rfl | assumption) :
    PG X (.Name x pos) (tgG K mg Γ [i] (bName i)) :=
  pg_imp (pg_name hN hi hx hf) fun v σ H Q ⟨F, L, ρ, st, d, ρ', rl, r, e, q⟩ => by
    cases e
    exact q _ OffS.set (rl.setV i (.inr r))
def bNil : List D → REnv → Option REnv := fun ds ρ => match ds with
  | [] => some ρ
  | _ => none
def bCons (bd : BDen) (bds : List D → REnv → Option REnv) : List D → REnv → Option REnv := fun ds ρ => match ds with
  | d :: r => (bd d ρ).bind (bds r)
  | _ => none
def bTup (n : Nat) (bds : List D → REnv → Option REnv) : BDen := fun d ρ => match d with
  | .tup ds => if ds.length = n then bds ds ρ else none
  | _ => none
theorem b_nil : PGs X [] (tgsG K mg Γ [] bNil) := pgs_imp pgs_nil fun v σ H Q ⟨F, L, ρ, st, ds, ρ', rl, r, e, q⟩ => by
  cases ds with
  | nil => cases e; exact ⟨r, q σ OffS.refl rl⟩
  | cons => cases e
theorem b_cons (h1 : PG X e (tgG K mg Γ vs bd)) (h2 : PGs X es (tgsG K mg Γ ws bds)) (hs : (assignEach (e :: es) X.env).map (·.2) = assign e X.env :: (assignEach es X.env).map (·.2) := by rfl) : PGs X (e :: es) (tgsG K mg Γ (vs ++ ws) (bCons bd bds)) :=
  pgs_imp (pgs_cons h1 h2 hs) fun v σ H Q ⟨F, L, ρ, st, ds, ρ', rl, r, e, q⟩ => by
    cases ds with
    | nil => cases e
    | cons d ds =>
      obtain ⟨v, vr, rfl, r1, r2⟩ := r
      have e : (bd d ρ).bind (bds ds) = some ρ' := e
      cases h : bd d ρ with
      | none => rw [h] at e; cases e
      | some ρ1 =>
        rw [h] at e
        exact ⟨v, vr, rfl, F, L, ρ, st, d, ρ1, rl, r1, h, fun σ1 o1 rl1 => ⟨F, L, ρ1, st, ds, ρ', rl1, r2, e, fun σ2 o2 rl2 => q σ2 (o1.trans o2) rl2⟩⟩
theorem b_tup {k n : Nat} (hK : X.K = K) (hc : X.calm = true) (h : PGs X es (tgsG K mg Γ vs bds)) (hn : (assignEach es X.env).length = n := by rfl) (hst : (assignEach es X.env).findIdx? (·.1) = none := by rfl) : PG X (.Tuple es k pos) (tgG K mg Γ vs (bTup n bds)) :=
  pg_imp (pg_tup hc h hn hst) fun v σ H Q ⟨F, L, ρ, st, d, ρ', rl, r, e, q⟩ => by
    cases d with
    | tup ds =>
      obtain ⟨a, ws, rfl, r1, r2⟩ := r
      have e : (if ds.length = n then bds ds ρ else none) = some ρ' := e
      split at e
      · rename_i hl
        exact ⟨a, ws, rfl, by rw [hK]; exact rl.sto.ex.t r1, by rw [← r2.length]; exact hl, F, L, ρ, st, ds, ρ', rl, r2, e, q⟩
      · cases e
    | _ => cases e
end
end Gh
/-! Gh6: for, while, comprehensions. -/
namespace Gh
open L2 PyProof.Rows PySem.Spec PySem

/-! ### the entry moved to where a loop begins -/
section
variable {K : PySem.W.Frag} {mg : Glob} {Γ : Ent} {W : WX} {F Fs H Hs : Hp} {L Ls : List Addr} {σ σs : St} {ρ ρs : REnv} {st sts : Store} {D' : Ends}
abbrev Ent.at (Γ : Ent) (Fs : Hp) : Ent := { Γ with F0 := Fs }
theorem Rl.anchor (r : Rl K mg Γ Fs Ls σs Hs ρs sts) : Rl K mg (Γ.at Fs) Fs Ls σs Hs ρs sts :=
  ⟨r.sto, ⟨Ex.refl Fs, r.stp.pre, fun a o h n => ⟨(r.stp.kp a o h n).1, rfl, (r.stp.kp a o h n).2.2⟩⟩, r.sl, r.so, r.sd, r.sx, r.len⟩
theorem Rl.off (b : Rl K mg Γ Fs Ls σs Hs ρs sts) (r : Rl K mg (Γ.at Fs) F L σ H ρ st) : Rl K mg Γ F L σ H ρ st :=
  ⟨r.sto, ⟨b.stp.ex.trans r.stp.ex, r.stp.pre, fun a o h n => ⟨(r.stp.kp a o h n).1, (r.stp.kp a o h n).2.1.trans (b.stp.kp a o h n).2.1, (r.stp.kp a o h n).2.2⟩⟩, r.sl, r.so, r.sd, r.sx, r.len⟩
theorem SPost.anchor {r : SR} (b : Rl K mg Γ Fs Ls σs Hs ρs sts) (h : SPost K mg Γ W D' r) : SPost K mg (Γ.at Fs) W D' r := by
  cases r with
  | nx ρ st => exact fun F L σ H rl => h F L σ H (b.off rl)
  | rt d st => exact fun F L σ H ρ v rl => h F L σ H ρ v (b.off rl)
  | bk ρ st => exact fun F L σ H rl => h F L σ H (b.off rl)
  | ct ρ st => exact fun F L σ H rl => h F L σ H (b.off rl)
  | exc c fs ρ st => exact fun F L σ H cls dd rl => h F L σ H cls dd (b.off rl)
  | bad => exact h.elim
end

/-! ### for -/
def forGo (bd : BDen) (body : SDen) : List D → REnv → Store → SR
  | [], ρ, st => .nx ρ st
  | d :: ds, ρ, st => match bd d ρ with
    | none => .bad
    | some ρ1 => match body ρ1 st with
      | .nx ρ2 st2 => forGo bd body ds ρ2 st2
      | .ct ρ2 st2 => forGo bd body ds ρ2 st2
      | .bk ρ2 st2 => .nx ρ2 st2
      | r => r
def sFor (mi : LDen) (bd : BDen) (body : SDen) : SDen := fun ρ st => (mi ρ st).s ρ fun ds st1 => forGo bd body ds ρ st1
section
variable {X : Cx} {K : PySem.W.Frag} {mg : Glob} {Γ : Ent} {W : WX} {tg iter c : Expr} {stmts : List Stmt} {pos p : Pos} {vs : List Nat} {bd : BDen} {mi : LDen} {mb : SDen} {t : TDen}
theorem drop_cons {α : Type} {l : List α} {i : Nat} (h : i < l.length) : l.drop i = l[i] :: l.drop (i + 1) := List.drop_eq_getElem_cons h
theorem s_for (hp : PassesOwn (model X.prog X.w) X.A X.env X.xe) (hc : X.calm = true) (hi : PI X tg iter (tiG K mg Γ W mi)) (hg : ∀ Γ, PG X tg (tgG K mg Γ vs bd)) (hb : ∀ Γ' : Ent, Γ'.x = Γ.x → PSs X stmts (tsG K mg Γ' W mb))
    (hs : ∀ x, foldedSetIterable iter X.env x = pure x := by intro _; rfl) : PS X (.For tg iter stmts [] pos) (tsG K mg Γ W (sFor mi bd mb)) := by
  refine ⟨fun pins s σ H D' I ⟨F, L, ρ, st, rl, q⟩ => ?_⟩
  -- the wish of the loop, for the F at which the iterator is made
  have key : tiG K mg Γ W mi σ H fun J H1 => ∃ Fs, tFor (fun _ H R => R J H) (tgG K mg (Γ.at Fs) vs bd) (tsG K mg (Γ.at Fs) W mb) D' σ H1 := by
    refine ⟨F, L, ρ, st, rl, (SPost.s q rl).imp fun F1 L1 H1 st1 ds s1 o1 q1 J hJ => ⟨F1, ?_⟩⟩
    have b := rl.step s1 o1
    refine ⟨fun i m σ' H' => m + i = ds.length ∧ ∃ F' L' ρ' st', Rl K mg (Γ.at F1) F' L' σ' H' ρ' st' ∧ SPost K mg (Γ.at F1) W D' (forGo bd mb (ds.drop i) ρ' st'), ⟨ds.length, rfl, F1, L1, ρ, st1, b.anchor, q1.anchor b⟩, ?_⟩
    rintro i m σ' H' ⟨hm, F', L', ρ', st', rl', q'⟩
    obtain ⟨hstop, hgo⟩ := hJ F' L' H' st' rl'.stp.ex rl'.sto
    by_cases hi : i < ds.length
    · right
      rw [drop_cons hi] at q'
      unfold forGo at q'
      obtain ⟨g1, g2⟩ := hgo i ds[i] (List.getElem?_eq_getElem hi)
      refine ⟨g1, fun σ2 H2 => ∃ F2 L2 ρ2 st2, Rl K mg (Γ.at F1) F2 L2 σ2 H2 ρ2 st2 ∧ SPost K mg (Γ.at F1) W D' (forGo bd mb (ds.drop (i + 1)) ρ2 st2), fun σ2 H2 h => ⟨m - 1, by omega, by omega, h⟩, fun x H2 y => ?_⟩
      obtain ⟨F2, s2, o2, r2⟩ := g2 x H2 y
      have rl2 := rl'.step s2 o2
      cases hb1 : bd ds[i] ρ' with
      | none => rw [hb1] at q'; exact q'.elim
      | some ρ1 =>
        rw [hb1] at q'
        refine ⟨F2, L', ρ', st', ds[i], ρ1, rl2, r2, hb1, fun σ3 _ rl3 => ⟨F2, L', ρ1, st', rl3, ?_⟩⟩
        dsimp only at q'
        cases hb2 : mb ρ1 st' with
        | nx ρ2 st2 => rw [hb2] at q'; exact fun F3 L3 σ4 H4 rl4 => ⟨F3, L3, ρ2, st2, rl4, q'⟩
        | ct ρ2 st2 => rw [hb2] at q'; exact fun F3 L3 σ4 H4 rl4 => ⟨F3, L3, ρ2, st2, rl4, q'⟩
        | bk ρ2 st2 => rw [hb2] at q'; exact q'
        | rt d st2 => rw [hb2] at q'; exact q'
        | exc c fs ρ2 st2 => rw [hb2] at q'; exact q'
        | bad => rw [hb2] at q'; exact q'.elim
    · left
      have e : i = ds.length := by omega
      subst e
      rw [List.drop_length] at q'
      exact ⟨hstop, q' F' L' σ' H' rl'⟩
  -- the statement's own rule, at a reading of target and body that is chosen when the iterator stands
  have g' : PG X tg (fun v σ H Q => ∃ Fs, tgG K mg (Γ.at Fs) vs bd v σ H Q) := ⟨fun pins s σ H v u Q I r ⟨Fs, q⟩ => (hg (Γ.at Fs)).run pins s σ H v u Q I r q⟩
  have b' : PSs X stmts (fun D σ H => ∃ Fs, tsG K mg (Γ.at Fs) W mb D σ H) := ⟨fun pins s σ H D I ⟨Fs, q⟩ => (hb (Γ.at Fs) rfl).run pins s σ H D I q⟩
  refine (ps_for hp hc hi g' b' hs).run pins s σ H D' I ?_
  obtain ⟨F, L, ρ, st, rl, k⟩ := key
  refine ⟨F, L, ρ, st, rl, k.imp fun F1 L1 H1 st1 ds s1 o1 q1 J hJ => ?_⟩
  obtain ⟨Fs, Wi, hW, turn⟩ := q1 J hJ
  refine ⟨Wi, hW, fun i m σ' H' w => ?_⟩
  rcases turn i m σ' H' w with h | ⟨g1, N, hN, g2⟩
  · exact .inl h
  · exact .inr ⟨g1, N, hN, fun x H2 y => ⟨Fs, by
      obtain ⟨F, L, ρ, st, d, ρ', r1, r2, r3, r4⟩ := g2 x H2 y
      exact ⟨F, L, ρ, st, d, ρ', r1, r2, r3, fun σ' o rl' => ⟨Fs, r4 σ' o rl'⟩⟩⟩⟩

/-! ### while -/
def whileGo (t : TDen) (body : SDen) : Nat → REnv → Store → SR
  | 0, _, _ => .bad
  | n + 1, ρ, st => (t ρ st).s ρ fun b st1 => if b then (match body ρ st1 with
    | .nx ρ2 st2 => whileGo t body n ρ2 st2
    | .ct ρ2 st2 => whileGo t body n ρ2 st2
    | .bk ρ2 st2 => .nx ρ2 st2
    | r => r) else .nx ρ st1
def sWhile (n : Nat) (t : TDen) (body : SDen) : SDen := fun ρ st => whileGo t body n ρ st
theorem s_while (n : Nat) (hp : PassesOwn (model X.prog X.w) X.A X.env X.xe) (ht : PT X c (ttG K mg Γ W t)) (hb : PSs X stmts (tsG K mg Γ W mb)) : PS X (.While c stmts [] pos) (tsG K mg Γ W (sWhile n t mb)) := by
  refine ps_imp (ps_while hp ht hb) fun D' σ H ⟨F, L, ρ, st, rl, q⟩ => ?_
  refine ⟨fun m σ' H' => ∃ F' L' ρ' st', Rl K mg Γ F' L' σ' H' ρ' st' ∧ SPost K mg Γ W D' (whileGo t mb m ρ' st'), ⟨n, F, L, ρ, st, rl, q⟩, ?_⟩
  rintro m σ' H' ⟨F', L', ρ', st', rl', q'⟩
  cases m with
  | zero => exact q'.elim
  | succ m =>
    unfold whileGo at q'
    refine ⟨F', L', ρ', st', rl', (SPost.s q' rl').imp fun F1 L1 H1 st1 b s1 o1 q1 => ?_⟩
    have rl1 := rl'.step s1 o1
    cases b with
    | false => exact iteF (q1 F1 L1 σ' H1 rl1)
    | true =>
      refine iteT ⟨fun σ2 H2 => ∃ F' L' ρ' st', Rl K mg Γ F' L' σ2 H2 ρ' st' ∧ SPost K mg Γ W D' (whileGo t mb m ρ' st'), fun σ2 H2 h => ⟨m, Nat.lt_succ_self m, h⟩, F1, L1, ρ', st1, rl1, ?_⟩
      rw [if_pos rfl] at q1
      cases hb2 : mb ρ' st1 with
      | nx ρ2 st2 => rw [hb2] at q1; exact fun F3 L3 σ4 H4 rl4 => ⟨F3, L3, ρ2, st2, rl4, q1⟩
      | ct ρ2 st2 => rw [hb2] at q1; exact fun F3 L3 σ4 H4 rl4 => ⟨F3, L3, ρ2, st2, rl4, q1⟩
      | bk ρ2 st2 => rw [hb2] at q1; exact q1
      | rt d st2 => rw [hb2] at q1; exact q1
      | exc c fs ρ2 st2 => rw [hb2] at q1; exact q1
      | bad => rw [hb2] at q1; exact q1.elim
end

/-! ### comprehensions -/
abbrev W0 : WX := fun _ _ _ _ => False
def noX {α : Type} (r : RC α) : RC α := match r with
  | .exc _ _ _ => .bad
  | r => r
def compGo (bd : BDen) (t : TDen) (me : EDen) (ρ : REnv) : List D → Store → RC (List D)
  | [], st => .ok [] st
  | d :: ds, st => match bd d ρ with
    | none => .bad
    | some ρ1 => (t ρ1 st).bind fun b st1 => if b then (me ρ1 st1).bind fun y st2 => if isLoc y then .bad else (compGo bd t me ρ ds st2).bind fun ys st3 => .ok (y :: ys) st3
      else compGo bd t me ρ ds st1
def wipeR (ρ : REnv) : List Nat → REnv
  | [] => ρ
  | v :: vs => (wipeR ρ vs).set v .un
def tYes : TDen := fun _ st => .ok true st
/-- [elt for target in iter if ..]; vs: the slots of its own names -/
def eComp (mi : LDen) (bd : BDen) (t : TDen) (me : EDen) (vs : List Nat) : EDen := fun ρ st => (mi ρ st).bind fun ds st1 => if ds.length < 100000 then (noX (compGo bd t me (wipeR ρ vs) ds st1)).bind fun ys st2 => .ok (.lst ys) st2 else .bad
section
variable {X : Cx} {K : PySem.W.Frag} {mg : Glob} {Γ : Ent} {W : WX} {tg iter elt : Expr} {ifs : List Expr} {pos p : Pos} {bd : BDen} {mi : LDen} {me : EDen} {t : TDen} {scope : Scope} {own : List (Str × Nat)} {ws : List Nat}
theorem Post.noX {α : Type} {F H : Hp} {L : List Addr} {σ σ' : St} {r : RC α} {ok : Hp → List Addr → Hp → Store → α → Prop} (h : Post K mg W σ F L H (noX r) ok) : Post K mg W0 σ' F L H r ok := by
  cases r with
  | ok d st => exact h
  | exc c fs st => exact h.elim
  | bad => exact h.elim
theorem Rl.wipe {F H : Hp} {L : List Addr} {σ : St} {ρ : REnv} {st : Store} (r : Rl K mg Γ F L σ H ρ st) : ∀ vs : List Nat, Rl K mg Γ F L (L2.wipe σ vs) H (wipeR ρ vs) st
  | [] => r
  | v :: vs => (Rl.wipe r vs).setU v none
theorem wipe_off {σ σ' : St} {vs ws : List Nat} (h : OffS vs (wipe σ ws) σ') (hs : ∀ j ∈ vs, j ∈ ws) : wipe σ' ws = wipe σ ws := by
  have idem : ∀ j, j ∈ ws → ∀ τ : St, j < τ.length → (wipe τ ws)[j]? = some none := by
    clear h hs
    induction ws with
    | nil => intro j hj; simp at hj
    | cons v ws ih =>
      intro j hj τ hl
      unfold wipe
      by_cases e : v = j
      · subst e
        rw [List.getElem?_set_self (by rw [wipe_length]; exact hl)]
      · rw [List.getElem?_set_ne e]
        rcases List.mem_cons.mp hj with z | z
        · exact absurd z.symm e
        · exact ih j z τ hl
  apply List.ext_getElem?
  intro j
  by_cases hj : j ∈ ws
  · have hl : σ'.length = σ.length := by rw [h.1, wipe_length]
    by_cases hb : j < σ.length
    · rw [idem j hj σ' (by omega), idem j hj σ hb]
    · rw [List.getElem?_eq_none (by rw [wipe_length]; omega), List.getElem?_eq_none (by rw [wipe_length]; omega)]
  · rw [wipe_out hj, h.2 j (fun z => hj (hs j z))]
theorem comp_core {F1 H1 : Hp} {L1 : List Addr} {σ : St} {ρ : REnv} {st1 : Store} {ds : List D} {J : It} {Q : VK} {vs : List Nat} (hw : ∀ j ∈ ws, j ∈ vs) (rl1 : Rl K mg Γ F1 L1 σ H1 ρ st1) (hlen : ds.length < 100000) (hJ : ItC K mg J ds F1 L1 H1)
    (q2 : Post K mg W σ F1 L1 H1 (noX (compGo bd t me (wipeR ρ vs) ds st1)) (fun F' L' H' _ ys => ∀ v, kO K mg σ H1 ρ F' L' H' (.lst ys) v → Q v H')) : ∀ Dl, H1 Dl = none → ∃ Wi : Nat → Nat → Hp → Prop, (∃ m, Wi 0 m (upd H1 Dl (.lst []))) ∧ ∀ i m H, Wi i m H →
      (J.stop i H ∧ Q (.ref Dl) H) ∨ (J.go i H ∧ ∃ Nx : Hp → Prop, (∀ H', Nx H' → ∃ m', m' < m ∧ Wi (i + 1) m' H') ∧ ∀ x H', J.yld i H x H' → tgG K mg Γ ws bd x (L2.wipe σ vs) H' fun σ2 H2 => L2.wipe σ2 vs = L2.wipe σ vs ∧ ttG K mg Γ W0 t σ2 H2 fun b H3 =>
        if b = true then teV K mg Γ W0 me σ2 H3 fun y H4 => ∃ acc, H4 Dl = some (.lst acc) ∧ acc.length < sizeLine ∧ Nx (upd H4 Dl (.lst (acc ++ [y]))) else Nx H3) := by
  intro Dl nD
  cases hgo : compGo bd t me (wipeR ρ (vs)) ds st1 with
  | exc c fs st' => rw [hgo] at q2; exact q2.elim
  | bad => rw [hgo] at q2; exact q2.elim
  | ok total stE =>
    rw [hgo] at q2
    have q2 : Post K mg W σ F1 L1 H1 (.ok total stE) _ := q2
    let Inv' : Nat → Nat → Hp → Prop := fun i m H' => m + i = ds.length ∧ ∃ F' L' st' acc accD rest, Stp F1 L1 H1 F' L' H' ∧ Sto K mg F' L' H' st' ∧ F' Dl = none ∧ Dl ∉ L' ∧ H' Dl = some (.lst acc) ∧ RepL K mg F' accD acc ∧ accD.length ≤ i ∧
      compGo bd t me (wipeR ρ (vs)) (ds.drop i) st' = .ok rest stE ∧ accD ++ rest = total
    have nF1 : F1 Dl = none := rl1.sto.ex.free nD
    have nL1 : Dl ∉ L1 := rl1.newL nD
    refine ⟨Inv', ⟨ds.length, rfl, F1, L1, st1, [], [], total, Stp.fresh nD, rl1.sto.fresh nD, nF1, nL1, upd_same, rfl, Nat.le_refl 0, hgo, rfl⟩, ?_⟩
    rintro i m H' ⟨hm, F', L', st', acc, accD, rest, s', o', nF', nL', hD, hr, hlA, hc', hT⟩
    obtain ⟨hstop, hgo'⟩ := hJ F' L' H' st' s' o'
    by_cases hi : i < ds.length
    · right
      rw [drop_cons hi] at hc'
      unfold compGo at hc'
      obtain ⟨g1, g2⟩ := hgo' i ds[i] (List.getElem?_eq_getElem hi)
      refine ⟨g1, Inv' (i + 1) (m - 1), fun H2 h => ⟨m - 1, by omega, h⟩, fun x H2 y => ?_⟩
      obtain ⟨F2, s2, o2, r2⟩ := g2 x H2 y
      have rl2 : Rl K mg Γ F2 L' (wipe σ (vs)) H2 (wipeR ρ (vs)) st' := ((rl1.step s' o').step s2 o2).wipe _
      have hD2 := s2.kp Dl _ hD nL'
      cases hb1 : bd ds[i] (wipeR ρ (vs)) with
      | none => rw [hb1] at hc'; cases hc'
      | some ρ1 =>
        rw [hb1] at hc'
        dsimp only at hc'
        refine ⟨F2, L', _, st', ds[i], ρ1, rl2, r2, hb1, fun σ3 off rl3 => ⟨wipe_off off hw, F2, L', ρ1, st', rl3, ?_⟩⟩
        cases ht1 : t ρ1 st' with
        | bad => rw [ht1] at hc'; cases hc'
        | exc c fs st2 => rw [ht1] at hc'; cases hc'
        | ok b st2 =>
          rw [ht1] at hc'
          simp only [RC.bind_ok] at hc'
          intro F3 L3 H3 s3 o3
          have hD3 := s3.kp Dl _ hD2.1 hD2.2.2
          have rl4 := rl3.step s3 o3
          cases b with
          | false =>
            refine iteF ⟨by omega, F3, L3, st2, acc, accD, rest, (s'.trans s2).trans s3, o3, ?_, hD3.2.2, hD3.1, RepL.mono s3.ex _ (RepL.mono s2.ex _ hr), by omega, ?_, hT⟩
            · rw [hD3.2.1, hD2.2.1]; exact nF'
            · simpa using hc'
          | true =>
            rw [if_pos rfl] at hc'
            refine iteT ⟨F3, L3, ρ1, st2, rl4, ?_⟩
            cases he1 : me ρ1 st2 with
            | bad => rw [he1] at hc'; cases hc'
            | exc c fs st3 => rw [he1] at hc'; cases hc'
            | ok y st3 =>
              rw [he1] at hc'
              simp only [RC.bind_ok] at hc'
              intro F4 L4 H4 s4 o4 v kv
              have hD4 := s4.kp Dl _ hD3.1 hD3.2.2
              split at hc'
              · cases hc'
              · rename_i hloc
                have ry : Rep K mg F4 y v := VRep.flat kv (by simpa using hloc)
                cases hc2 : compGo bd t me (wipeR ρ (vs)) (ds.drop (i + 1)) st3 with
                | bad => rw [hc2] at hc'; cases hc'
                | exc c fs st4 => rw [hc2] at hc'; cases hc'
                | ok ys st4 =>
                  rw [hc2] at hc'
                  simp only [RC.bind_ok, RC.ok.injEq] at hc'
                  obtain ⟨e1, e2⟩ := hc'
                  subst e2
                  have nF4 : F4 Dl = none := by rw [hD4.2.1, hD3.2.1, hD2.2.1]; exact nF'
                  have lA : acc.length = accD.length := hr.length.symm
                  refine ⟨acc, hD4.1, by rw [sizeLine_eq]; omega, by omega, F4, L4, st3, acc ++ [v], accD ++ [y], ys, ?_, ?_, nF4, hD4.2.2, upd_same, ?_, by rw [List.length_append]; show accD.length + 1 ≤ i + 1; omega, hc2, ?_⟩
                  · have s5 := ((s'.trans s2).trans s3).trans s4
                    refine ⟨s5.ex, s5.pre, fun b u h n => ?_⟩
                    obtain ⟨k1, k2, k3⟩ := s5.kp b u h n
                    have hb : b ≠ Dl := ne_of_none h nD
                    exact ⟨by rw [upd_ne hb]; exact k1, k2, k3⟩
                  · refine ⟨fun b u h => ?_, o4.nd, o4.len, fun n b u h1 h2 => ?_⟩
                    · have hb : b ≠ Dl := fun z => by rw [z, nF4] at h; cases h
                      rw [upd_ne hb]; exact o4.ex b u h
                    · obtain ⟨k1, k2⟩ := o4.at_ n b u h1 h2
                      have hb : b ≠ Dl := fun z => hD4.2.2 (z ▸ List.mem_of_getElem? h1)
                      exact ⟨k1, k2.mono (Ex.refl F4) fun w z => by rw [upd_ne hb]; exact z⟩
                  · exact (RepL.mono s4.ex _ (RepL.mono s3.ex _ (RepL.mono s2.ex _ hr))).snoc ry
                  · rw [List.append_assoc]
                    show accD ++ (y :: ys) = total
                    rw [e1]; exact hT
    · left
      have e : i = ds.length := by omega
      subst e
      rw [List.drop_length] at hc'
      unfold compGo at hc'
      cases hc'
      rw [List.append_nil] at hT
      subst hT
      refine ⟨hstop, ?_⟩
      exact q2 F' L' H' s' o' _ ⟨Dl, rfl, nD, nF', nL', acc, hD, hr⟩
theorem g_comp {wi : TI} (hc : X.calm = true) (hN : X.N.Nodup) (hi : PI X tg iter (tiC K mg Γ W mi)) (ok : BlkOk X.N X.env.scope scope own)
    (hg : ∀ (s : Shared) (H : Hp) (C : Addr) (cl : List (Str × Addr)) (fp : List Addr), PG (X.blk s H scope (compEnvC scope cl C X.env) fp) tg (tgG K mg Γ ws bd))
    (ht : ∀ (s : Shared) (H : Hp) (C : Addr) (cl : List (Str × Addr)) (fp : List Addr), PTs (X.blk s H scope (compEnvC scope cl C X.env) fp) ifs (ttG K mg Γ W0 t))
    (he : ∀ (s : Shared) (H : Hp) (C : Addr) (cl : List (Str × Addr)) (fp : List Addr), PE (X.blk s H scope (compEnvC scope cl C X.env) fp) elt (teV K mg Γ W0 me)) (hw : ∀ j ∈ ws, j ∈ own.map (·.2) := by decide) :
    ∀ σ H Q, teO K mg Γ W (eComp mi bd t me (own.map (·.2))) σ H Q → tLc (tiC K mg Γ W mi) (tgG K mg Γ ws bd) (ttG K mg Γ W0 t) (teV K mg Γ W0 me) (own.map (·.2)) σ H Q := by
  rintro σ H Q ⟨F, L, ρ, st, rl, q⟩
  refine ⟨F, L, ρ, st, rl, q.bind.imp fun F1 L1 H1 st1 ds s1 o1 q1 J hJ => ?_⟩
  split at q1
  · rename_i hlen
    exact comp_core hw (rl.step s1 o1) hlen hJ (q1.bind.imp fun F2 L2 H2 st2 ys s2 o2 q2 v kv => q2.here o2 v (kO_late (fun a h => s1.more o1 a h) kv))
  · exact q1.elim
end
end Gh
/-! Gh7: comprehensions as rules; objects changed; lists and dicts changed; try, raise; defs. -/
namespace Gh
open L2 PyProof.Rows PySem.Spec PySem
section
variable {X : Cx} {K : PySem.W.Frag} {mg : Glob} {Γ : Ent} {W : WX} {tg iter elt : Expr} {ifs : List Expr} {pos p spos py : Pos} {bd : BDen} {mi : LDen} {me : EDen} {t : TDen} {scope : Scope} {own : List (Str × Nat)} {ws : List Nat}
theorem ts_nil : PTs X [] (ttG K mg Γ W tYes) := ⟨fun pins s σ H Q I ⟨F, L, ρ, st, rl, q⟩ => pts_nil.run pins s σ H Q I (q.here rl.sto)⟩
theorem ts_one {c : Expr} (h : PT X c (ttG K mg Γ W t)) : PTs X [c] (ttG K mg Γ W t) := pts_one h
theorem g_lc (hc : X.calm = true) (hN : X.N.Nodup) (hi : PI X tg iter (tiC K mg Γ W mi)) (ok : BlkOk X.N X.env.scope scope own)
    (hg : ∀ (s : Shared) (H : Hp) (C : Addr) (cl : List (Str × Addr)) (fp : List Addr), PG (X.blk s H scope (compEnvC scope cl C X.env) fp) tg (tgG K mg Γ ws bd))
    (ht : ∀ (s : Shared) (H : Hp) (C : Addr) (cl : List (Str × Addr)) (fp : List Addr), PTs (X.blk s H scope (compEnvC scope cl C X.env) fp) ifs (ttG K mg Γ W0 t))
    (he : ∀ (s : Shared) (H : Hp) (C : Addr) (cl : List (Str × Addr)) (fp : List Addr), PE (X.blk s H scope (compEnvC scope cl C X.env) fp) elt (teV K mg Γ W0 me)) (hw : ∀ j ∈ ws, j ∈ own.map (·.2) := by decide) (hs : ∀ x, foldedSetIterable iter X.env x = pure x := by intro _; rfl) :
    PE X (.ListComp elt [⟨tg, iter, ifs, 0⟩] scope pos) (teO K mg Γ W (eComp mi bd t me (own.map (·.2)))) :=
  pe_imp (pe_lc hc hN hi ok hg ht he hs) (g_comp (wi := tiC K mg Γ W mi) hc hN hi ok hg ht he hw)
theorem s_asgLc {i : Nat} {y : Str} (hc : X.calm = true) (hN : X.N.Nodup) (hsw : swapsWith (.ListComp elt [⟨tg, iter, ifs, 0⟩] scope pos) (some (.Name y py)) spos.line X.env = pure true) (hi : PI X tg iter (tiC K mg Γ W mi)) (ok : BlkOk X.N X.env.scope scope own)
    (hg : ∀ (s : Shared) (H : Hp) (C : Addr) (cl : List (Str × Addr)) (fp : List Addr), PG (X.blk s H scope (compEnvC scope cl C X.env) fp) tg (tgG K mg Γ ws bd))
    (ht : ∀ (s : Shared) (H : Hp) (C : Addr) (cl : List (Str × Addr)) (fp : List Addr), PTs (X.blk s H scope (compEnvC scope cl C X.env) fp) ifs (ttG K mg Γ W0 t))
    (he : ∀ (s : Shared) (H : Hp) (C : Addr) (cl : List (Str × Addr)) (fp : List Addr), PE (X.blk s H scope (compEnvC scope cl C X.env) fp) elt (teV K mg Γ W0 me)) (hw : ∀ j ∈ ws, j ∈ own.map (·.2) := by decide)
    (hy : X.N[i]? = some y := by rfl) (hyl : X.env.scope.names.lookup y = some .local := by rfl) (hs : ∀ x, foldedSetIterable iter X.env x = pure x := by intro _; rfl) :
    PS X (.Assign [.Name y py] (.ListComp elt [⟨tg, iter, ifs, 0⟩] scope pos) spos) (tsG K mg Γ W (sAsgO i (eComp mi bd t me (own.map (·.2))))) := by
  refine ps_imp (ps_setLc hc hN hy hyl hsw hi ok hg ht he hs) fun D' σ H ⟨F, L, ρ, st, rl, q⟩ => ?_
  have h : teO K mg Γ W (eComp mi bd t me (own.map (·.2))) σ H fun v H' => D'.nx (σ.set i (some v)) H' :=
    ⟨F, L, ρ, st, rl, (SPost.s q rl).imp fun F' L' H' st' d s o q' v kv => by
      obtain ⟨a, rfl, n, nF, nL, hs⟩ := kv
      exact q' F' L' _ H' (rl.setN s o i n nF nL hs)⟩
  exact g_comp (wi := tiC K mg Γ W mi) hc hN hi ok hg ht he hw σ H _ h
/-- a slot's own list, as a value from now on -/
def sVal (i : Nat) (s : SDen) : SDen := fun ρ st => match s ρ st with
  | .nx ρ' st' => .nx (frzE ρ' i) st'
  | r => r
theorem s_val {st0 : Stmt} {sa : SDen} (i : Nat) (h : PS X st0 (tsG K mg Γ W sa)) : PS X st0 (tsG K mg Γ W (sVal i sa)) := by
  refine ps_imp h fun D' σ H ⟨F, L, ρ, st, rl, q⟩ => ⟨F, L, ρ, st, rl, ?_⟩
  unfold sVal at q
  cases hs : sa ρ st with
  | nx ρ' st' =>
    rw [hs] at q
    intro F' L' σ' H' rl'
    obtain ⟨F2, rl2⟩ := rl'.frzE i
    exact q F2 L' σ' H' rl2
  | _ => rw [hs] at q; exact q
end

/-! ### objects of the store changed -/
section
variable {X : Cx} {K : PySem.W.Frag} {mg : Glob} {Γ : Ent} {W : WX} {o e v a b : Expr} {es : List Expr} {m ma mb mo mv : EDen} {pos p tpos apos cpos : Pos}
/-- an object of the store gets other contents -/
theorem Sto.put {F H : Hp} {L : List Addr} {st : Store} {n : Nat} {a : Addr} {d : D} {u : HO} (x : Sto K mg F L H st) (h1 : L[n]? = some a) (hs : ∀ H', H' a = some u → Has K mg F H' a d) : Sto K mg F L (upd H a u) (st.set n d) := by
  have nF : F a = none := (x.mem (List.mem_of_getElem? h1)).1
  refine ⟨fun b u q => ?_, x.nd, by rw [List.length_set]; exact x.len, fun k b w q1 q2 => ?_⟩
  · have hb : b ≠ a := fun z => by rw [z, nF] at q; cases q
    rw [upd_ne hb]
    exact x.ex b u q
  · rcases set_get q2 with ⟨rfl, rfl, hl⟩ | ⟨hn, q2⟩
    · rw [h1] at q1
      cases q1
      exact ⟨nF, hs _ upd_same⟩
    · obtain ⟨k1, k2⟩ := x.at_ k b w q1 q2
      have hb : b ≠ a := fun z => by
        subst z
        obtain ⟨l1, e1⟩ := List.getElem?_eq_some_iff.mp q1
        obtain ⟨l2, e2⟩ := List.getElem?_eq_some_iff.mp h1
        exact hn ((List.getElem_inj x.nd).mp (e1.trans e2.symm))
      exact ⟨k1, k2.mono (Ex.refl F) fun w z => by rw [upd_ne hb]; exact z⟩
theorem Stp.put {F H : Hp} {L : List Addr} {a : Addr} {u : HO} (h : a ∈ L) : Stp F L H F L (upd H a u) :=
  ⟨Ex.refl F, ⟨[], (List.append_nil L).symm⟩, fun b w q n => ⟨by rw [upd_ne (fun z => n (by rw [z]; exact h))]; exact q, rfl, n⟩⟩
/-- o.f = v, o an object of the store, of a class of cs -/
def sAtt (f : Str) (cs : List Str) (mo mv : EDen) : SDen := fun ρ st => (mv ρ st).s ρ fun x st1 => (mo ρ st1).s ρ fun y st2 => match y with
  | .loc n => (match st2[n]? with
    | some (.ins c fs) => if c ∈ cs ∧ isLoc x = false ∧ fs.length < 1000 then .nx ρ (st2.set n (.ins c (putFD f x fs))) else .bad
    | _ => .bad)
  | _ => .bad
theorem s_att {fn : Str} {cs : List Str} {pos' : Pos} (hK : X.K = K) (A : AttOk K mg fn cs) (ho : PE X o (teV K mg Γ W mo)) (hv : PE X v (teV K mg Γ W mv)) (hs : swapsWith v (some (.Attribute o fn pos')) pos.line X.env = pure false := by rfl) :
    PS X (.Assign [.Attribute o fn pos'] v pos) (tsG K mg Γ W (sAtt fn cs mo mv)) := by
  refine ps_imp (ps_fld ho hv hs) fun D' σ H ⟨F, L, ρ, st, rl, q⟩ => ⟨F, L, ρ, st, rl, (SPost.s q rl).imp fun F1 L1 H1 st1 x s1 o1 q1 u ku => ?_⟩
  have rl1 := rl.step s1 o1
  refine ⟨F1, L1, ρ, st1, rl1, (SPost.s q1 rl1).imp fun F2 L2 H2 st2 y s2 o2 q2 w kw => ?_⟩
  have rl2 := rl1.step s2 o2
  split at q2
  · rename_i n
    split at q2
    · rename_i c fs e
      split at q2
      · rename_i hc
        obtain ⟨hc1, hc2, hc3⟩ := hc
        obtain ⟨a, h1, rfl⟩ := kw.loc
        obtain ⟨nF, C, dx, fv, h2, h3, h4⟩ := o2.at_ n a _ h1 e
        obtain ⟨cl, na⟩ := A c hc1 C h2
        have ru : Rep K mg F2 x u := VRep.flat (s2.vrep ku) hc2
        refine ⟨a, C, dx, fv, rfl, h3, by rw [hK]; exact cl, by rw [hK]; exact na, by rw [← h4.length]; exact hc3, ?_⟩
        have o3 := o2.put (d := .ins c (putFD fn x fs)) (u := .ins C dx (putF fn u fv)) h1 fun H' h => ⟨C, dx, _, h2, h, h4.put ru fn⟩
        exact q2 F2 L2 σ _ (rl2.step (Stp.put (List.mem_of_getElem? h1)) o3)
      · exact q2.elim
    · exact q2.elim
  · exact q2.elim
/-- x.append(e), x a list of the frame's own -/
def sApp (i : Nat) (m : EDen) : SDen := fun ρ st => match ρ[i]? with
  | some (.own (.lst ds)) => (m ρ st).s ρ fun d st1 => if ds.length < 100000 ∧ isLoc d = false then .nx (ρ.set i (.own (.lst (ds ++ [d])))) st1 else .bad
  | _ => .bad
theorem s_app (i : Nat) {x : Str} {px : Pos} (hK : X.K = K) (h : PE X e (teV K mg Γ W m)) (hN : X.N[i]? = some x := by rfl) (hv : Vis X.env.scope x := by first | exact Or.inl rfl | exact Or.inr (Or.inl rfl) | exact Or.inr (Or.inr rfl)) (hd : (x == ("__debug__" : Str)) = false := by decide)
    (hcd : (x == ("__classdict__" : Str)) = false := by decide) (hsw : swapsWith (.Call (.Attribute (.Name x px) "append" apos) [e] [] cpos) none pos.line X.env = pure false := by rfl)
    (hbase : attributeBase (.Name x px) "append" X.env (eval (.Name x px) X.env) = eval (.Name x px) X.env := by rfl)
    (hfew : ((backTo cpos (starEach (e :: []) X.env)).all (fun x => !x.1) && (backToKw cpos (keywordEach [] X.env)).all (fun x => x.1.isSome)
      && decide ((e :: ([] : List Expr)).length + ([] : List Keyword).length + (if ([] : List Keyword).isEmpty then 0 else 1) < 30)) = true := by rfl)
    (hline : (apos.endLine == cpos.line) = true := by rfl) (hs : starEach (e :: []) X.env = (false, eval e X.env) :: starEach [] X.env := by rfl) (hplain : (backTo cpos (starEach [] X.env)).any (·.1) = false := by rfl) :
    PS X (.Expr (.Call (.Attribute (.Name x px) "append" apos) [e] [] cpos) pos) (tsG K mg Γ W (sApp i m)) := by
  refine ps_imp (ps_expr (pe_bm PySem.F.plainAttrs_list PySem.F.slot_list_append PySem.F.type_list_append mt_append (pe_var hN hv hd hcd) (pa_cons h pa_nil hs) hbase hfew hline hs hplain) hsw) fun D' σ H ⟨F, L, ρ, st, rl, q⟩ => ?_
  unfold sApp at q
  split at q
  · rename_i ds ei
    obtain ⟨a, e1, nF, nL, n0, vs, h1, h2⟩ := rl.so i _ ei
    refine ⟨_, e1, .inl ⟨rfl, vs, .inl (.inl h1)⟩, F, L, ρ, st, rl, (SPost.s q rl).imp fun F1 L1 H1 st1 d s o q1 v kv => ?_⟩
    split at q1
    · rename_i hc
      obtain ⟨k1, k2, k3⟩ := s.kp a _ h1 nL
      have r := RepL.mono s.ex ds h2
      refine ⟨a, vs, v, rfl, rfl, k1, by rw [sizeLine_eq, ← h2.length]; omega, ?_⟩
      exact q1 F1 L1 σ _ ((rl.step s o).mut ei e1 fun H' h => ⟨_, h, r.snoc (VRep.flat kv hc.2)⟩)
    · exact q1.elim
  · exact q.elim
/-- x += e, x a list of the frame's own, e a list or a tuple -/
def sExt (i : Nat) (m : EDen) : SDen := fun ρ st => match ρ[i]? with
  | some (.own (.lst ds)) => (m ρ st).s ρ fun d st1 => match d with
    | .lst es => if ds.length + es.length < 100000 then .nx (ρ.set i (.own (.lst (ds ++ es)))) st1 else .bad
    | _ => .bad
  | _ => .bad
theorem pip_ext : PIp X .Add rExt2 := fun pins s σ H x y v u Q I r r2 q => iop_ext pins s σ H x y v u Q I r r2 q
theorem s_ext (i : Nat) {x : Str} {px : Pos} (hN : X.N.Nodup) (h : PE X e (teV K mg Γ W m)) (hi : X.N[i]? = some x := by rfl) (hx : Loc X.env.scope x := by first | exact Or.inl rfl | exact Or.inr rfl) (hf : X.fn x = true ∨ X.env.scope.names.lookup x = some .local := by first | exact .inl rfl | exact .inr rfl | assumption) :
    PS X (.AugAssign (.Name x px) .Add e pos) (tsG K mg Γ W (sExt i m)) := by
  refine ps_imp (ps_aug hN hi hx h pip_ext hf) fun D' σ H ⟨F, L, ρ, st, rl, q⟩ => ?_
  unfold sExt at q
  split at q
  · rename_i ds ei
    obtain ⟨a, e1, nF, nL, n0, vs, h1, h2⟩ := rl.so i _ ei
    refine ⟨_, e1, F, L, ρ, st, rl, (SPost.s q rl).imp fun F1 L1 H1 st1 d s o q1 v kv => ?_⟩
    split at q1
    · rename_i es
      split at q1
      · rename_i hc
        obtain ⟨k1, k2, k3⟩ := s.kp a _ h1 nL
        have r := RepL.mono s.ex ds h2
        rcases kv with ⟨_, _, e, _⟩ | ⟨b, us, rfl, g1, g2⟩
        · cases e
        · refine ⟨a, b, vs, us, rfl, rfl, k1, o.ex.lst g1, by rw [sizeLine_eq, ← h2.length, ← g2.length]; omega, ?_⟩
          have m := (rl.step s o).mut (o := .lst (vs ++ us)) (e := .lst (ds ++ es)) ei e1 fun H' h => ⟨_, h, r.append g2⟩
          have es' : σ.set i (some (V.ref a)) = σ := by
            apply List.ext_getElem?
            intro j
            by_cases hj : j = i
            · subst hj
              rw [List.getElem?_set_self (List.getElem?_eq_some_iff.mp e1).1, e1]
            · rw [List.getElem?_set_ne (Ne.symm hj)]
          show D'.nx (σ.set i (some (V.ref a))) _
          rw [es']
          exact q1 F1 L1 σ _ m
      · exact q1.elim
    · exact q1.elim
  · exact q.elim
/-- x op= e, values -/
def sAug (i : Nat) (g : Op2) (m : EDen) : SDen := fun ρ st => match ρ[i]? with
  | some (.val x) => (m ρ st).s ρ fun y st1 => (g x y st1).s ρ fun z st2 => .nx (ρ.set i (.val z)) st2
  | _ => .bad
theorem s_aug (i : Nat) {x : Str} {px : Pos} {op : Operator} {r : R2} {g : Op2} (ho : OpR X (inplaceOp op) r) (hsem : Sem2 kV K mg g r) (hN : X.N.Nodup) (h : PE X e (teV K mg Γ W m)) (hi : X.N[i]? = some x := by rfl) (hx : Loc X.env.scope x := by first | exact Or.inl rfl | exact Or.inr rfl)
    (hf : X.fn x = true ∨ X.env.scope.names.lookup x = some .local := by first | exact .inl rfl | exact .inr rfl | assumption) : PS X (.AugAssign (.Name x px) op e pos) (tsG K mg Γ W (sAug i g m)) := by
  refine ps_imp (ps_aug (ti := r) hN hi hx h (fun pins s σ H x y v u Q I r r2 q => ho pins s σ H x y v u Q I r r2 q) hf) fun D' σ H ⟨F, L, ρ, st, rl, q⟩ => ?_
  unfold sAug at q
  split at q
  · rename_i d ei
    obtain ⟨v, e1, kv⟩ := rl.sl i _ ei
    refine ⟨_, e1, F, L, ρ, st, rl, (SPost.s q rl).imp fun F1 L1 H1 st1 y s o q1 u ku => ?_⟩
    have rl1 := rl.step s o
    exact hsem Γ W F1 L1 σ H1 ρ st1 d y v u _ rl1 (.inl (s.vrep kv)) (.inl ku) ((SPost.s q1 rl1).imp fun F2 L2 H2 st2 z s2 o2 q2 w kw => q2 F2 L2 _ H2 ((rl1.step s2 o2).setV i kw))
  · exact q.elim
/-- d[k] = v, d a dict of the frame's own -/
def keyOf : D → Option Key
  | .int i => some (.inl i)
  | .str s => some (.inr s)
  | _ => none
theorem keyOf_v {d : D} {k : Key} {F : Hp} {L : List Addr} {v : V} (h : keyOf d = some k) (r : VRep K mg L F d v) : v = L2.kV k := by
  cases d with
  | int i => cases h; exact r.int
  | str s => cases h; exact r.str
  | _ => cases h
def sDPut (i : Nat) (mk mv : EDen) : SDen := fun ρ st => (mv ρ st).s ρ fun x st1 => match ρ[i]? with
  | some (.own (.dct kvs)) => (mk ρ st1).s ρ fun y st2 => match keyOf y with
    | some k => if kvs.length < 100000 ∧ isLoc x = false then .nx (ρ.set i (.own (.dct (putD kvs k x)))) st2 else .bad
    | none => .bad
  | _ => .bad
theorem s_dput (i : Nat) {x : Str} {px pos' : Pos} {mk mv : EDen} (hu : X.A.units + 1 < cLine) (hk : PE X e (teV K mg Γ W mk)) (hv : PE X v (teV K mg Γ W mv)) (hN : X.N[i]? = some x := by rfl) (hvis : Vis X.env.scope x := by first | exact Or.inl rfl | exact Or.inr (Or.inl rfl) | exact Or.inr (Or.inr rfl))
    (hd : (x == ("__debug__" : Str)) = false := by decide) (hcd : (x == ("__classdict__" : Str)) = false := by decide) (hs : swapsWith v (some (.Subscript (.Name x px) e pos')) pos.line X.env = pure false := by rfl) :
    PS X (.Assign [.Subscript (.Name x px) e pos'] v pos) (tsG K mg Γ W (sDPut i mk mv)) := by
  refine ps_imp (ps_dput hu (pe_var hN hvis hd hcd) hk hv hs) fun D' σ H ⟨F, L, ρ, st, rl, q⟩ => ⟨F, L, ρ, st, rl, (SPost.s q rl).imp fun F1 L1 H1 st1 x s1 o1 q1 w kw => ?_⟩
  have rl1 := rl.step s1 o1
  split at q1
  · rename_i kvs ei
    obtain ⟨a, e1, nF, nL, n0, vs, h1, h2⟩ := rl1.so i _ ei
    refine ⟨_, e1, F1, L1, ρ, st1, rl1, (SPost.s q1 rl1).imp fun F2 L2 H2 st2 y s2 o2 q2 u ku => ?_⟩
    split at q2
    · rename_i k hk
      split at q2
      · rename_i hc
        obtain ⟨k1, k2, k3⟩ := s2.kp a _ h1 nL
        cases keyOf_v hk ku
        refine ⟨a, _, rfl, DPut.k (k := k) k1 (by rw [sizeLine_eq, ← h2.length]; omega), ?_⟩
        exact q2 F2 L2 σ _ ((rl1.step s2 o2).mut ei e1 fun H' h => ⟨_, h, (RepK.mono s2.ex _ h2).put k (VRep.flat (s2.vrep kw) hc.2)⟩)
      · exact q2.elim
    · exact q2.elim
  · exact q1.elim
end

/-! ### try, raise -/
section
variable {X : Cx} {K : PySem.W.Frag} {mg : Glob} {Γ : Ent} {W : WX} {e : Expr} {es : List Expr} {body suite : List Stmt} {b₀ : Stmt} {pos pos' np p : Pos} {mb mh : SDen} {ms : ADen}
/-- what is done with an exception's suite: the name's slot goes -/
def unset (i : Nat) (r : SR) : SR := match r with
  | .nx ρ st => .nx (ρ.set i .un) st
  | .bk ρ st => .bk (ρ.set i .un) st
  | .ct ρ st => .ct (ρ.set i .un) st
  | .rt d st => .rt d st
  | _ => .bad
/-- try: body, except x as n: suite; all: the classes that may come, cs: those that x takes -/
def sTryAs (i : Nat) (all cs : List Str) (mb mh : SDen) : SDen := fun ρ st => match mb ρ st with
  | .exc c fs ρ' st' => if c ∈ all then (if c ∈ cs then unset i (mh (ρ'.set i (.exc c fs)) st') else .exc c fs ρ' st') else .bad
  | r => r
def ExcAll (K : PySem.W.Frag) (mg : Glob) (h : Value) (all cs : List Str) : Prop := ∀ c ∈ all, ∀ C, mg c = some (.ref C) → PySem.W.exmOne K (.ref C) h = some (decide (c ∈ cs))
theorem s_tryAs {i : Nat} {x n : Str} {c : Value} {all cs : List Str} (hK : X.K = K) (hx0 : Γ.x = none) (hs : X.stack = X.env :: X.outer) (hf : X.env.frame = some X.env.locals) (hN : X.N.Nodup) (hc : Names X x c) (ha : ExcAll K mg c all cs) (tk : Takes X W)
    (hb : ∀ (W : WX) (pn : List (Addr × Obj)) (xe : Value → Shared → Prop), Takes (X.tr pn xe) W → PassesOwn (model X.prog X.w) X.A X.env xe → PSs (X.tr pn xe) body (tsG K mg Γ W mb))
    (hsu : ∀ (a : Addr) (oe : Obj) (cls : Value) (d : Option Addr) (pn : List (Addr × Obj)), Zc cls d oe → (∃ vs, oe.data = .fields vs) → PSs (X.suite a ((a, oe) :: pn)) (b₀ :: suite) (tsG K mg { Γ with x := some (i, a, cls, d) } W0 mh))
    (hi : X.N[i]? = some n := by rfl) (hln : X.env.kindOf n = some .local := by rfl) :
    PS X (.Try body [.ExceptHandler (some (.Name x np)) (some n) (b₀ :: suite) pos'] [] [] pos) (tsG K mg Γ W (sTryAs i all cs mb mh)) := by
  refine ps_imp (ps_try_as (ts := fun a cls d => tsG K mg { Γ with x := some (i, a, cls, d) } W0 mh) (tb := fun W => tsG K mg Γ W mb) hs hf hN hi hln hc tk hb hsu) fun D' σ H ⟨F, L, ρ, st, rl, q⟩ => ⟨F, L, ρ, st, rl, ?_⟩
  unfold sTryAs at q
  cases hm : mb ρ st with
  | exc c' fs ρ' st' =>
    rw [hm] at q
    dsimp only at q
    intro F' L' σ' H' cls dd rl' ex
    split at q
    · rename_i hall
      obtain ⟨C, d, fv, h1, rfl, rfl, h4, h5⟩ := id ex
      refine ⟨decide (c' ∈ cs), by rw [hK]; exact ha c' hall C h1, fun hy a na => ?_, fun hn => ?_⟩
      · have hin : c' ∈ cs := of_decide_eq_true hy
        rw [if_pos hin] at q
        have up : ∀ {F L σ H ρ st}, Rl K mg Γ F L σ H ρ st → Rl K mg { Γ with x := some (i, a, .ref C, some d) } F L σ H ρ st := fun r =>
          ⟨r.sto, r.stp, r.sl, r.so, r.sd, fun j c fs h => (by
            obtain ⟨_, _, _, z, _⟩ := r.sx j c fs h
            rw [hx0] at z
            cases z), r.len⟩
        have rl2 := (up rl').set i (.exc c' fs) (some (.ref a)) (fun e q => by cases q) (fun e q => by cases q) (fun c2 fs2 q => by cases q; exact ⟨a, _, _, rfl, rfl, ex⟩)
        have down : ∀ {F L σ H ρ st}, Rl K mg { Γ with x := some (i, a, .ref C, some d) } F L σ H ρ st → Rl K mg Γ F L (σ.set i none) H (ρ.set i .un) st := fun r => by
          have r' := r.setU i none
          refine ⟨r'.sto, r'.stp, r'.sl, r'.so, r'.sd, fun j c fs h => ?_, r'.len⟩
          obtain ⟨_, _, _, z, _⟩ := r'.sx j c fs h
          cases z
          rcases set_get h with ⟨_, z, _⟩ | ⟨z, _⟩
          · cases z
          · exact absurd rfl z
        refine ⟨F', L', _, st', rl2, ?_⟩
        cases hh : mh (ρ'.set i (.exc c' fs)) st' with
        | nx ρ2 st2 => rw [hh] at q; exact fun F3 L3 σ3 H3 r3 => q F3 L3 _ H3 (down r3)
        | bk ρ2 st2 => rw [hh] at q; exact fun F3 L3 σ3 H3 r3 => q F3 L3 _ H3 (down r3)
        | ct ρ2 st2 => rw [hh] at q; exact fun F3 L3 σ3 H3 r3 => q F3 L3 _ H3 (down r3)
        | rt d2 st2 => rw [hh] at q; exact fun F3 L3 σ3 H3 ρ3 v r3 kv => q F3 L3 _ H3 _ v (down r3) kv
        | exc c2 fs2 ρ2 st2 => rw [hh] at q; exact q.elim
        | bad => rw [hh] at q; exact q.elim
      · rw [if_neg (of_decide_eq_false hn)] at q
        exact q F' L' σ' H' _ _ rl' ex
    · exact q.elim
  | _ => rw [hm] at q; exact q
/-- .. without a name -/
def noXs (r : SR) : SR := match r with
  | .exc _ _ _ _ => .bad
  | r => r
def sTry (all cs : List Str) (mb mh : SDen) : SDen := fun ρ st => match mb ρ st with
  | .exc c fs ρ' st' => if c ∈ all then (if c ∈ cs then noXs (mh ρ' st') else .exc c fs ρ' st') else .bad
  | r => r
theorem s_try {x : Str} {c : Value} {all cs : List Str} (hK : X.K = K) (hs : X.stack = X.env :: X.outer) (hf : X.env.frame = some X.env.locals) (hc : Names X x c) (ha : ExcAll K mg c all cs) (tk : Takes X W)
    (hb : ∀ (W : WX) (pn : List (Addr × Obj)) (xe : Value → Shared → Prop), Takes (X.tr pn xe) W → PassesOwn (model X.prog X.w) X.A X.env xe → PSs (X.tr pn xe) body (tsG K mg Γ W mb))
    (hsu : ∀ (a : Addr) (oe : Obj) (cls : Value) (d : Option Addr) (pn : List (Addr × Obj)), Zc cls d oe → (∃ vs, oe.data = .fields vs) → PSs (X.suite a ((a, oe) :: pn)) (b₀ :: suite) (tsG K mg Γ W0 mh)) :
    PS X (.Try body [.ExceptHandler (some (.Name x np)) none (b₀ :: suite) pos'] [] [] pos) (tsG K mg Γ W (sTry all cs mb mh)) := by
  refine ps_imp (ps_try_only (ts := fun a cls d => tsG K mg Γ W0 mh) (tb := fun W => tsG K mg Γ W mb) hs hf hc tk hb hsu) fun D' σ H ⟨F, L, ρ, st, rl, q⟩ => ⟨F, L, ρ, st, rl, ?_⟩
  unfold sTry at q
  cases hm : mb ρ st with
  | exc c' fs ρ' st' =>
    rw [hm] at q
    dsimp only at q
    intro F' L' σ' H' cls dd rl' ex
    split at q
    · rename_i hall
      obtain ⟨C, d, fv, h1, rfl, rfl, h4, h5⟩ := id ex
      refine ⟨decide (c' ∈ cs), by rw [hK]; exact ha c' hall C h1, fun hy a na => ?_, fun hn => ?_⟩
      · rw [if_pos (of_decide_eq_true hy)] at q
        refine ⟨F', L', ρ', st', rl', ?_⟩
        cases hh : mh ρ' st' with
        | exc c2 fs2 ρ2 st2 => rw [hh] at q; exact q.elim
        | _ => rw [hh] at q; exact q
      · rw [if_neg (of_decide_eq_false hn)] at q
        exact q F' L' σ' H' _ _ rl' ex
    · exact q.elim
  | _ => rw [hm] at q; exact q
end

/-! ### an exception's own __init__ of one or two fields -/
def spInit2 (K : PySem.W.Frag) (f1 f2 : Str) : Sp := fun vs H Q E => ∃ (a C : Addr) (u w : V), vs = [.ref a, u, w] ∧ OexC K C ∧ PySem.W.findIn K (.ref C) f1 = some none ∧ PySem.W.findIn K (.ref C) f2 = some none ∧ H a = some (exo a C none) ∧
  ∀ dx, H dx = none → dx ≠ a → Q .non (upd (upd (upd H dx (exd dx [(f1, u)])) a (exo a C (some dx))) dx (exd dx [(f2, w), (f1, u)]))
def spInit1 (K : PySem.W.Frag) (f1 : Str) : Sp := fun vs H Q E => ∃ (a C : Addr) (u : V), vs = [.ref a, u] ∧ OexC K C ∧ PySem.W.findIn K (.ref C) f1 = some none ∧ H a = some (exo a C none) ∧
  ∀ dx, H dx = none → dx ≠ a → Q .non (upd (upd H dx (exd dx [(f1, u)])) a (exo a C (some dx)))
theorem read2 {K : PySem.W.Frag} {f1 f2 x y z : Str} {vs : List V} {H : Hp} {Q : VK} {E : XK} (h : spInit2 K f1 f2 vs H Q E) :
    (tSeq (tOst K f1 (tVar 0) (tVar 1)) (tOst K f2 (tVar 0) (tVar 2))) { nx := fun _ H' => Q .non H', rt := Q } (start [x, y, z] vs) H := by
  obtain ⟨a, C, u, w, rfl, T, n1, n2, ha, q⟩ := h
  refine ⟨u, rfl, .ref a, rfl, a, C, rfl, T, n1, .inl ⟨ha, fun dx nx ne => ?_⟩⟩
  refine ⟨w, rfl, .ref a, rfl, a, C, rfl, T, n2, .inr ⟨dx, [(f1, u)], upd_same, by rw [upd_ne ne, upd_same], by simp, q dx nx ne⟩⟩
theorem read1 {K : PySem.W.Frag} {f1 x y : Str} {vs : List V} {H : Hp} {Q : VK} {E : XK} (h : spInit1 K f1 vs H Q E) :
    (tOst K f1 (tVar 0) (tVar 1)) { nx := fun _ H' => Q .non H', rt := Q } (start [x, y] vs) H := by
  obtain ⟨a, C, u, rfl, T, n1, ha, q⟩ := h
  exact ⟨u, rfl, .ref a, rfl, a, C, rfl, T, n1, .inl ⟨ha, q⟩⟩
section
variable {X : Cx} {K : PySem.W.Frag} {mg : Glob} {Γ : Ent} {W : WX} {e e2 : Expr} {pos pos2 p : Pos} {ms : ADen} {kk : Nat} {c f1 f2 : Str} {C fI : Addr} {fd : FuncData} {ps : List Str}
def sRaise (c : Str) (fs : List Str) (ms : ADen) : SDen := fun ρ st => (ms ρ st).s ρ fun ds st' => if flatL ds = true ∧ ds.length = fs.length then .exc c (fs.zip ds).reverse ρ st' else .bad
theorem del_made {H : Hp} {a d : Addr} {o : HO} (na : H a = none) (ne : d ≠ a) (nd : H d = none) {H2 : Hp} (h : ∀ b, b ≠ a → b ≠ d → H2 b = H b) : upd (del H2 a) d o = upd H d o := by
  funext b
  by_cases hb : b = d
  · subst hb; rw [upd_same, upd_same]
  · rw [upd_ne hb, upd_ne hb]
    by_cases hc : b = a
    · subst hc; rw [del_same, na]
    · rw [del_ne hc, h b hc hb]
theorem s_raise2 (hK : X.K = K) (hcalm : X.calm = true) (tk : Takes X W) (T : OexC K C) (n1 : PySem.W.findIn K (.ref C) f1 = some none) (n2 : PySem.W.findIn K (.ref C) f2 = some none) (iC : PySem.W.findIn K (.ref C) "__init__" = some (some (.ref fI))) (tI : PySem.W.typeIn K (.ref fI) = some (.type "function"))
    (F1 : FnOk X.prog X.w X.K X.mg X.base (L2.CX X.prog X.w) kk fI fd ps (spInit2 K f1 f2)) (hr : Room (kk + 1) X.A) (hb : Binds X.K fd ps []) (hm : X.mg c = some (.ref C)) (hmg : mg c = some (.ref C)) (ha : PA X [e, e2] (taG K mg Γ W ms))
    (hg : Gl X c := by rfl) (hdb : (c == ("__debug__" : Str)) = false := by decide) (he : starEach (e :: [e2]) X.env = (false, eval e X.env) :: starEach [e2] X.env := by rfl) (hpl : (backTo pos (starEach [e2] X.env)).any (·.1) = false := by rfl) :
    PS X (.Raise (some (.Call (.Name c p) [e, e2] [] pos)) none pos2) (tsG K mg Γ W (sRaise c [f1, f2] ms)) := by
  subst hK
  refine ps_imp (ps_raise hcalm tk (pmk_oex T iC tI F1 hr hb .nil passL hg hm ha hdb he hpl)) fun D' σ H ⟨F, L, ρ, st, rl, q⟩ => ⟨F, L, ρ, st, rl, (SPost.s q rl).imp fun F1 L1 H1 st1 ds s o q1 vs kvs => ?_⟩
  split at q1
  · rename_i hc
    obtain ⟨h1, h2⟩ := hc
    match ds, h2, kvs with
    | [d1, d2], _, kvs =>
      have rr := kvs.flat h1
      obtain ⟨u, r, rfl, r1, w, r', rfl, r2, r3⟩ := rr
      cases (show r' = [] from r3)
      refine ⟨by show 2 ≤ 1000; decide, fun a na => ⟨a, C, u, w, rfl, T, n1, n2, upd_same, fun dx ndx ne => ?_⟩⟩
      have nd : H1 dx = none := by rw [upd_ne ne] at ndx; exact ndx
      refine ⟨rfl, dx, [(f2, w), (f1, u)], ?_, upd_same, nd, ?_⟩
      · rw [upd_ne (Ne.symm ne), upd_same]
      · have eq : upd (del (upd (upd (upd (upd H1 a (exo a C none)) dx (exd dx [(f1, u)])) a (exo a C (some dx))) dx (exd dx [(f2, w), (f1, u)])) a) dx (.xd [(f2, w), (f1, u)]) = upd H1 dx (.xd [(f2, w), (f1, u)]) :=
          del_made na ne nd fun b hb hd => by rw [upd_ne hd, upd_ne hb, upd_ne hd, upd_ne hb]
        rw [eq]
        obtain ⟨s2, o2⟩ := o.lay (o := .xd [(f2, w), (f1, u)]) nd
        exact q1 _ L1 σ _ _ _ ((rl.step s o).step s2 o2) ⟨C, dx, _, hmg, rfl, rfl, upd_same, w, _, rfl, Rep.mono s2.ex _ r2, u, _, rfl, Rep.mono s2.ex _ r1, rfl⟩
  · exact q1.elim
theorem s_raise1 (hK : X.K = K) (hcalm : X.calm = true) (tk : Takes X W) (T : OexC K C) (n1 : PySem.W.findIn K (.ref C) f1 = some none) (iC : PySem.W.findIn K (.ref C) "__init__" = some (some (.ref fI))) (tI : PySem.W.typeIn K (.ref fI) = some (.type "function"))
    (F1 : FnOk X.prog X.w X.K X.mg X.base (L2.CX X.prog X.w) kk fI fd ps (spInit1 K f1)) (hr : Room (kk + 1) X.A) (hb : Binds X.K fd ps []) (hm : X.mg c = some (.ref C)) (hmg : mg c = some (.ref C)) (ha : PA X [e] (taG K mg Γ W ms))
    (hg : Gl X c := by rfl) (hdb : (c == ("__debug__" : Str)) = false := by decide) (he : starEach (e :: []) X.env = (false, eval e X.env) :: starEach [] X.env := by rfl) (hpl : (backTo pos (starEach [] X.env)).any (·.1) = false := by rfl) :
    PS X (.Raise (some (.Call (.Name c p) [e] [] pos)) none pos2) (tsG K mg Γ W (sRaise c [f1] ms)) := by
  subst hK
  refine ps_imp (ps_raise hcalm tk (pmk_oex T iC tI F1 hr hb .nil passL hg hm ha hdb he hpl)) fun D' σ H ⟨F, L, ρ, st, rl, q⟩ => ⟨F, L, ρ, st, rl, (SPost.s q rl).imp fun F1 L1 H1 st1 ds s o q1 vs kvs => ?_⟩
  split at q1
  · rename_i hc
    obtain ⟨h1, h2⟩ := hc
    match ds, h2, kvs with
    | [d1], _, kvs =>
      have rr := kvs.flat h1
      obtain ⟨u, r, rfl, r1, r3⟩ := rr
      cases (show r = [] from r3)
      refine ⟨by show 1 ≤ 1000; decide, fun a na => ⟨a, C, u, rfl, T, n1, upd_same, fun dx ndx ne => ?_⟩⟩
      have nd : H1 dx = none := by rw [upd_ne ne] at ndx; exact ndx
      refine ⟨rfl, dx, [(f1, u)], upd_same, ?_, nd, ?_⟩
      · rw [upd_ne ne, upd_same]
      · have eq : upd (del (upd (upd (upd H1 a (exo a C none)) dx (exd dx [(f1, u)])) a (exo a C (some dx))) a) dx (.xd [(f1, u)]) = upd H1 dx (.xd [(f1, u)]) :=
          del_made na ne nd fun b hb hd => by rw [upd_ne hb, upd_ne hd, upd_ne hb]
        rw [eq]
        obtain ⟨s2, o2⟩ := o.lay (o := .xd [(f1, u)]) nd
        exact q1 _ L1 σ _ _ _ ((rl.step s o).step s2 o2) ⟨C, dx, _, hmg, rfl, rfl, upd_same, u, _, rfl, Rep.mono s2.ex _ r1, rfl⟩
  · exact q1.elim
/-- a field of the exception that the suite holds -/
def eXf (i : Nat) (cs : List Str) (f : Str) : EDen := fun ρ st => match ρ[i]? with
  | some (.exc c fs) => if c ∈ cs then (match fs.lookup f with
    | some d => .ok d st
    | none => .bad) else .bad
  | _ => .bad
theorem g_xf {a C : Addr} {oe : Obj} {cls : Value} {d : Option Addr} {pn : List (Addr × Obj)} {i : Nat} {x n : Str} (hK : X.K = K) (T : XfC K C) (hno : PySem.W.findIn K (.ref C) n = some none) (hmg : mg c = some (.ref C)) (hz : Zc cls d oe) (hf : ∃ vs, oe.data = .fields vs)
    (hN : X.N[i]? = some x := by rfl) (hv : Vis X.env.scope x := by first | exact Or.inl rfl | exact Or.inr (Or.inl rfl) | exact Or.inr (Or.inr rfl)) (hd : (x == ("__debug__" : Str)) = false := by decide) (hcd : (x == ("__classdict__" : Str)) = false := by decide)
    (hb : attributeBase (.Name x p) n X.env (eval (.Name x p) X.env) = eval (.Name x p) X.env := by rfl) :
    PE (X.suite a ((a, oe) :: pn)) (.Attribute (.Name x p) n pos) (teV K mg { Γ with x := some (i, a, cls, d) } W (eXf i [c] n)) := by
  subst hK
  refine pe_imp (pe_xf T hno hz hf (pe_var (i := i) hN hv hd hcd) hb) fun σ H Q ⟨F, L, ρ, st, rl, q⟩ => ?_
  unfold eXf at q
  split at q
  · rename_i c' fs ei
    split at q
    · rename_i hc
      have hc : c' = c := by simpa using hc
      subst hc
      split at q
      · rename_i y hy
        obtain ⟨a', cls', dd', e1, e2, C', d', fv, h1, rfl, rfl, h4, h5⟩ := rl.sx i _ _ ei
        cases e1
        rw [hmg] at h1; cases h1
        obtain ⟨w, hw, rw'⟩ := h5.look hy
        exact ⟨_, e2, rfl, rfl, d', fv, w, rfl, rl.sto.ex.xd h4, hw, q.here rl.sto w (.inr rw')⟩
      · exact q.elim
    · exact q.elim
  · exact q.elim
end

/-! ### defs -/
/-- a call's end: what was new in the store stands still -/
def finD (n : Nat) (d : D) (st : Store) : RC D := match d with
  | .loc k => if k < n then .ok (.loc k) (st.take n) else (match st[k]? with
    | some e => .ok e (st.take n)
    | none => .bad)
  | d => .ok d (st.take n)
/-- a def of np parameters and nl names by its body -/
def callD (np nl : Nat) (body : SDen) : CallF := fun ds st => if ds.length = np then (match body (ds.map Sl.val ++ List.replicate (nl - np) Sl.un) st with
  | .nx _ st' => finD st.length .non st'
  | .rt d st' => finD st.length d st'
  | .exc c fs _ st' => .exc c fs (st'.take st.length)
  | _ => .bad) else .bad
section
variable {P : Program} {w : World} {K : PySem.W.Frag} {mg : Glob} {base : Heap}
theorem vrepl_get {L : List Addr} {F : Hp} : ∀ {ds : List D} {vs : List V} {i : Nat} {d : D}, VRepL K mg L F ds vs → ds[i]? = some d → ∃ v, vs[i]? = some v ∧ VRep K mg L F d v := VRepL.get
theorem Rl.start {F H : Hp} {L : List Addr} {st : Store} {ds : List D} {vs : List V} {N : List Str} {nl : Nat} (o : Sto K mg F L H st) (kv : VRepL K mg L F ds vs) (hl : nl = N.length) :
    Rl K mg ⟨F, L, H, none⟩ F L (start N vs) H (ds.map Sl.val ++ List.replicate (nl - ds.length) Sl.un) st := by
  have e := kv.length
  have look : ∀ (i : Nat) (x : Sl), (ds.map Sl.val ++ List.replicate (nl - ds.length) Sl.un)[i]? = some x → (∃ d, x = .val d ∧ ds[i]? = some d) ∨ x = .un := fun i x h => by
    by_cases hi : i < ds.length
    · rw [List.getElem?_append_left (by rw [List.length_map]; exact hi), List.getElem?_map, List.getElem?_eq_getElem hi] at h
      cases h
      exact .inl ⟨ds[i], rfl, List.getElem?_eq_getElem hi⟩
    · rw [List.getElem?_append_right (by rw [List.length_map]; omega)] at h
      exact .inr (List.eq_of_mem_replicate (List.mem_of_getElem? h))
  refine ⟨o, Stp.refl, fun i d h => ?_, fun i d h => ?_, fun i j d e a h => ?_, fun i c fs h => ?_, ?_⟩
  · rcases look i _ h with ⟨x, z, hx⟩ | z
    · cases z
      obtain ⟨v, h1, h2⟩ := kv.get hx
      refine ⟨v, ?_, h2⟩
      unfold L2.start
      have hi := (List.getElem?_eq_some_iff.mp h1).1
      rw [List.getElem?_append_left (by rw [List.length_map]; exact hi), List.getElem?_map, h1] <;> rfl
    · cases z
  · rcases look i _ h with ⟨x, z, hx⟩ | z <;> cases z
  · rcases look i _ h with ⟨x, z, hx⟩ | z <;> cases z
  · rcases look i _ h with ⟨x, z, hx⟩ | z <;> cases z
  · unfold L2.start
    rw [List.length_append, List.length_append, List.length_map, List.length_map, List.length_replicate, List.length_replicate, e, hl]
/-- a body's outcome is the call's -/
theorem fin_go {F H : Hp} {L : List Addr} {st : Store} {Q : VK} {E : XK} {d : D} {st' : Store} {F' H' : Hp} {L' : List Addr} {σ' : St} {ρ' : REnv} {v : V} (o : Sto K mg F L H st) (rl : Rl K mg ⟨F, L, H, none⟩ F' L' σ' H' ρ' st') (kv : VRep K mg L' F' d v)
    (q : Post K mg (fun c d _ H' => E c d H') [] F L H (finD st.length d st') fun F' L' H' _ d => ∀ v, VRep K mg L' F' d v → Q v H') : Q v H' := by
  obtain ⟨M, e⟩ := rl.stp.pre
  have e : L' = L ++ M := e
  subst e
  have s1 : Stp F L H F' L H' := Stp.take rl.stp
  have o1 : Sto K mg F' L H' (st'.take st.length) := by rw [← o.len]; exact rl.sto.take
  have data : Rep K mg F' d v → Post K mg (fun c d _ H' => E c d H') [] F L H (.ok d (st'.take st.length)) (fun F' L' H' _ d => ∀ v, VRep K mg L' F' d v → Q v H') → Q v H' := fun r q => q F' L H' s1 o1 v (.inr r)
  rcases kv with ⟨k, a, rfl, h1, rfl⟩ | r
  · unfold finD at q
    dsimp only at q
    split at q
    · rename_i hk
      rw [← o.len] at hk
      rw [List.getElem?_append_left hk] at h1
      exact q F' L H' s1 o1 _ (.inl ⟨k, a, rfl, h1, rfl⟩)
    · rename_i hk
      split at q
      · rename_i e he
        obtain ⟨nF, hs⟩ := rl.sto.at_ k a e h1 he
        obtain ⟨u, hu⟩ := hs.there
        have hk' : L.length ≤ k := by rw [o.len]; omega
        have nL : a ∉ L := fun z => by
          obtain ⟨m, hm, e⟩ := List.getElem_of_mem z
          have h2 : (L ++ M)[m]? = some a := by rw [List.getElem?_append_left hm, List.getElem?_eq_getElem hm, e]
          obtain ⟨l1, e1⟩ := List.getElem?_eq_some_iff.mp h1
          obtain ⟨l2, e2⟩ := List.getElem?_eq_some_iff.mp h2
          have := (List.getElem_inj rl.sto.nd).mp (e1.trans e2.symm)
          omega
        have nH : H a = none := by
          cases z : H a with
          | none => rfl
          | some w =>
            have := (rl.stp.kp a w z nL).2.2
            exact absurd (List.mem_of_getElem? h1) this
        exact q _ L H' (s1.freeze nH nF) (o1.freeze hu nL nF) _ (.inr (hs.still hu nF))
      · exact q.elim
  · cases d with
    | loc k => exact r.elim
    | _ => exact data r q
theorem callD_ok {np nl : Nat} {X : Cx} {body : List Stmt} {m : SDen} {vs : List V} {H : Hp} {Q : VK} {E : XK} {N : List Str} (hl : nl = N.length) (h : spG K mg (callD np nl m) vs H Q E)
    (hb : ∀ Γ, Γ.x = none → PSs X body (tsG K mg Γ (fun c d _ H' => E c d H') m)) : ∃ t, PSs X body t ∧ t { nx := fun _ H' => Q .non H', rt := Q } (start N vs) H := by
  obtain ⟨F, L, ds, st, o, kv, q⟩ := h
  refine ⟨_, hb ⟨F, L, H, none⟩ rfl, ?_⟩
  unfold callD at q
  split at q
  · rename_i hn
    refine ⟨F, L, _, st, Rl.start (nl := nl) o kv hl, ?_⟩
    rw [hn]
    cases hm : m (ds.map Sl.val ++ List.replicate (nl - np) Sl.un) st with
    | nx ρ' st' => rw [hm] at q; exact fun F' L' σ' H' rl => fin_go (d := .non) (v := .non) o rl (.inr rfl) q
    | rt d st' => rw [hm] at q; exact fun F' L' σ' H' ρ v rl kv => fin_go o rl kv q
    | exc c fs ρ' st' =>
      rw [hm] at q
      intro F' L' σ' H' cls dd rl ex
      obtain ⟨M, e⟩ := rl.stp.pre
      have e : L' = L ++ M := e
      subst e
      exact q F' L H' cls dd (Stp.take rl.stp) (by rw [← o.len]; exact rl.sto.take) ex
    | bk ρ' st' => rw [hm] at q; exact q.elim
    | ct ρ' st' => rw [hm] at q; exact q.elim
    | bad => rw [hm] at q; exact q.elim
  · exact q.elim
theorem callD_len {np nl : Nat} {m : SDen} {vs : List V} {H : Hp} {Q : VK} {E : XK} (h : spG K mg (callD np nl m) vs H Q E) : vs.length = np := by
  obtain ⟨F, L, ds, st, o, kv, q⟩ := h
  unfold callD at q
  split at q
  · rename_i hn; rw [← kv.length]; exact hn
  · exact q.elim
/-- THE RULE of a def -/
theorem Fun.den {x qual : Str} {st : Stmt} {f : Addr} {fd : FuncData} {N ps : List Str} {k np nl : Nat} {m : SDen} (F : Fun K x qual st f fd) (S : FnScope N ps (defScope st)) (hnp : np = ps.length := by rfl) (hnl : nl = N.length := by rfl)
    (hbody : ∀ (cdv : Value) (A : Around) (outer : List Env) (s : Shared) (H : Hp) (E : XK), Room k (A.deeper (envOfC qual (defScope st) s.heap.objs.size f cdv)) →
      ∀ Γ, Γ.x = none → PSs (cxOf (L2.CX P w) P w K mg base N qual (defScope st) f cdv A outer s H E) (defBody st) (tsG K mg Γ (fun c d _ H' => E c d H') m)) :
    FnOk P w K mg base (L2.CX P w) (k + 1) f fd ps (spG K mg (callD np nl m)) :=
  F.okX S (fun vs H Q E h => by rw [callD_len h, hnp]) fun cdv A outer s H vs Q E hr h => callD_ok hnl h (hbody cdv A outer s H E hr)
/-- what leaves the body is the call's -/
theorem takes_body {N : List Str} {qual : Str} {sc : Scope} {f : Addr} {cdv : Value} {A : Around} {outer : List Env} {s : Shared} {H : Hp} {E : XK} :
    Takes (cxOf (L2.CX P w) P w K mg base N qual sc f cdv A outer s H E) (fun c d _ H' => E c d H') := takes_of rfl rfl rfl rfl
theorem own_body {N : List Str} {qual : Str} {sc : Scope} {f : Addr} {cdv : Value} {A : Around} {outer : List Env} {s : Shared} {H : Hp} {E : XK} :
    PassesOwn (model P w) (cxOf (L2.CX P w) P w K mg base N qual sc f cdv A outer s H E).A (cxOf (L2.CX P w) P w K mg base N qual sc f cdv A outer s H E).env (cxOf (L2.CX P w) P w K mg base N qual sc f cdv A outer s H E).xe := passes_of rfl
end
end Gh
/-! Gh8: operations on data, and the rules that have them. -/
namespace Gh
open L2 PyProof.Rows PySem.Spec PySem

/-! ### what is read -/
section
variable {K : PySem.W.Frag} {mg : Glob} {Γ : Ent} {F H H0 : Hp} {L : List Addr} {σ : St} {ρ : REnv} {st : Store} {v : V}
theorem kR.val {d : D} (rl : Rl K mg Γ F L σ H ρ st) (kv : kR K mg σ H0 ρ F L H d v) (n : ∀ F H a, Has K mg F H a d → False) : VRep K mg L F d v := by
  rcases kv with kv | ⟨i, h1, _⟩
  · exact kv
  · obtain ⟨a, _, _, _, _, hs⟩ := rl.so i _ h1
    exact (n _ _ _ hs).elim
theorem kR.int {i : Int} (rl : Rl K mg Γ F L σ H ρ st) (kv : kR K mg σ H0 ρ F L H (.int i) v) : v = .int i := (kv.val rl fun _ _ _ h => h).int
theorem kR.bl {b : Bool} (rl : Rl K mg Γ F L σ H ρ st) (kv : kR K mg σ H0 ρ F L H (.bl b) v) : v = .bl b := (kv.val rl fun _ _ _ h => h).bl
theorem kR.str {s : Str} (rl : Rl K mg Γ F L σ H ρ st) (kv : kR K mg σ H0 ρ F L H (.str s) v) : v = .str s := (kv.val rl fun _ _ _ h => h).str
theorem kR.non (rl : Rl K mg Γ F L σ H ρ st) (kv : kR K mg σ H0 ρ F L H .non v) : v = .non := (kv.val rl fun _ _ _ h => h).non
theorem kR.lst {ds : List D} (rl : Rl K mg Γ F L σ H ρ st) (kv : kR K mg σ H0 ρ F L H (.lst ds) v) : ∃ a vs, v = .ref a ∧ H a = some (.lst vs) ∧ RepL K mg F ds vs := by
  rcases kv with kv | ⟨i, h1, h2⟩
  · rcases kv with ⟨_, _, e, _⟩ | ⟨a, vs, rfl, h1, h2⟩
    · cases e
    · exact ⟨a, vs, rfl, rl.sto.ex.lst h1, h2⟩
  · obtain ⟨a, g1, _, _, _, vs, g2, g3⟩ := rl.so i _ h1
    rw [g1] at h2; cases h2
    exact ⟨a, vs, rfl, g2, g3⟩
theorem kR.tup {ds : List D} (rl : Rl K mg Γ F L σ H ρ st) (kv : kR K mg σ H0 ρ F L H (.tup ds) v) : ∃ a vs, v = .ref a ∧ SqT K H a vs ∧ RepL K mg F ds vs ∧ SqT K F a vs := by
  rcases kv.val rl fun _ _ _ h => h with ⟨_, _, e, _⟩ | ⟨a, vs, rfl, h1, h2⟩
  · cases e
  · exact ⟨a, vs, rfl, rl.sto.ex.t h1, h2, h1⟩
theorem kR.scr {ds : List D} (rl : Rl K mg Γ F L σ H ρ st) (kv : kR K mg σ H0 ρ F L H (.scr ds) v) : ∃ a vs, v = .ref a ∧ SqL K H a vs ∧ RepL K mg F ds vs := by
  rcases kv.val rl fun _ _ _ h => h with ⟨_, _, e, _⟩ | ⟨a, vs, rfl, h1, h2⟩
  · cases e
  · exact ⟨a, vs, rfl, rl.sto.ex.l h1, h2⟩
theorem kR.dct {kvs : List (Key × D)} (rl : Rl K mg Γ F L σ H ρ st) (kv : kR K mg σ H0 ρ F L H (.dct kvs) v) : ∃ a vs, v = .ref a ∧ Rd H a (.dK vs) ∧ RepK K mg F kvs vs := by
  rcases kv with kv | ⟨i, h1, h2⟩
  · rcases kv with ⟨_, _, e, _⟩ | ⟨a, vs, rfl, h1, h2⟩
    · cases e
    · exact ⟨a, vs, rfl, rl.sto.ex.rd h1, h2⟩
  · obtain ⟨a, g1, _, _, _, vs, g2, g3⟩ := rl.so i _ h1
    rw [g1] at h2; cases h2
    exact ⟨a, vs, rfl, .inl g2, g3⟩
end
def KRL (K : PySem.W.Frag) (mg : Glob) (σ : St) (ρ : REnv) (F : Hp) (L : List Addr) (H : Hp) : List D → List V → Prop
  | [], vs => vs = []
  | d :: ds, vs => ∃ v r, vs = v :: r ∧ kR K mg σ H ρ F L H d v ∧ KRL K mg σ ρ F L H ds r
theorem KRL.step {K : PySem.W.Frag} {mg : Glob} {σ : St} {ρ : REnv} {F F' H H1 H' : Hp} {L L' : List Addr} (s : Stp F L H F' L' H') : ∀ {ds : List D} {vs : List V}, KRL K mg σ ρ F L H1 ds vs → KRL K mg σ ρ F' L' H' ds vs
  | [], vs, h => h
  | d :: ds, vs, h => by
    obtain ⟨v, r, h1, h2, h3⟩ := h
    exact ⟨v, r, h1, kR.step h2 s, KRL.step s h3⟩
def taR (K : PySem.W.Frag) (mg : Glob) (Γ : Ent) (W : WX) (m : ADen) : TA := fun σ H Q => ∃ F L ρ st, Rl K mg Γ F L σ H ρ st ∧
  Post K mg W σ F L H (m ρ st) fun F' L' H' _ ds => ∀ vs, KRL K mg σ ρ F' L' H' ds vs → Q vs H'
/-- a call's own semantics -/
def SemN (k : Kd) (K : PySem.W.Frag) (mg : Glob) (g : OpN) (r : List V → Hp → VK → Prop) : Prop :=
  ∀ (Γ : Ent) (W : WX) (F : Hp) (L : List Addr) (σ : St) (H : Hp) (ρ : REnv) (st : Store) (ds : List D) (vs : List V) (Q : VK), Rl K mg Γ F L σ H ρ st → KRL K mg σ ρ F L H ds vs →
    Post K mg W σ F L H (g ds st) (fun F' L' H' _ d => ∀ w, k K mg σ H ρ F' L' H' d w → Q w H') → r vs H Q
section
variable {X : Cx} {K : PySem.W.Frag} {mg : Glob} {Γ : Ent} {W : WX} {e a b : Expr} {es : List Expr} {m ma mb : EDen} {ms : ADen} {pos p : Pos} {k : Kd}
theorem r_nil : PA X [] (taR K mg Γ W aNil) := pa_imp pa_nil fun σ H Q ⟨F, L, ρ, st, rl, q⟩ => q.here rl.sto [] rfl
theorem r_cons (ha : PE X e (teR K mg Γ W m)) (hr : PA X es (taR K mg Γ W ms)) (hs : starEach (e :: es) X.env = (false, eval e X.env) :: starEach es X.env := by rfl) : PA X (e :: es) (taR K mg Γ W (aCons m ms)) := by
  refine pa_imp (pa_cons ha hr hs) fun σ H Q ⟨F, L, ρ, st, rl, q⟩ => ⟨F, L, ρ, st, rl, q.bind.imp fun F1 L1 H1 st1 d s o q1 v kv => ?_⟩
  refine ⟨F1, L1, ρ, st1, rl.step s o, q1.bind.imp fun F2 L2 H2 st2 ds s2 o2 q2 vs kvs => ?_⟩
  exact q2.here o2 (v :: vs) ⟨v, vs, rfl, kR.step kv s2, kvs⟩
theorem cb_of {r : List V → Hp → VK → Prop} {g : OpN} (kl : KLate k) (hs : SemN k K mg g r) : ∀ σ H Q, teG k K mg Γ W (eN g ms) σ H Q → tCB r (taR K mg Γ W ms) σ H Q := by
  intro σ H Q ⟨F, L, ρ, st, rl, p⟩
  refine ⟨F, L, ρ, st, rl, p.bind.imp fun F1 L1 H1 st1 ds s1 o1 p1 vs kvs => ?_⟩
  exact hs Γ W F1 L1 σ H1 ρ st1 ds vs Q (rl.step s1 o1) kvs (p1.imp fun F3 L3 H3 st3 d s3 o3 q w kw => q w (kl (s1.more o1) kw))
theorem g_callB {id : String} {x : Str} {r : List V → Hp → VK → Prop} {g : OpN} (hc : CallR X (.builtin id) r) (kl : KLate k) (hs : SemN k K mg g r) (hm : X.mg x = none) (hv : bootBuiltins x = some (.builtin id)) (ha : PA X (e :: es) (taR K mg Γ W ms)) (hg : Gl X x := by rfl)
    (hn : x ≠ "__name__" := by decide) (hdb : (x == ("__debug__" : Str)) = false := by decide) (he : starEach (e :: es) X.env = (false, eval e X.env) :: starEach es X.env := by rfl) (hpl : (backTo pos (starEach es X.env)).any (·.1) = false := by rfl) :
    PE X (.Call (.Name x p) (e :: es) [] pos) (teG k K mg Γ W (eN g ms)) := pe_imp (pe_callB hc hg hm hv ha hn hdb he hpl) (cb_of kl hs)
theorem g_callTy {T : String} {x : Str} {r : List V → Hp → VK → Prop} {g : OpN} (hc : CallR X (.type T) r) (kl : KLate k) (hs : SemN k K mg g r) (hm : X.mg x = none) (hv : bootBuiltins x = some (.type T)) (ha : PA X (e :: es) (taR K mg Γ W ms)) (hg : Gl X x := by rfl)
    (hn : x ≠ "__name__" := by decide) (hdb : (x == ("__debug__" : Str)) = false := by decide) (he : starEach (e :: es) X.env = (false, eval e X.env) :: starEach es X.env := by rfl) (hpl : (backTo pos (starEach es X.env)).any (·.1) = false := by rfl) :
    PE X (.Call (.Name x p) (e :: es) [] pos) (teG k K mg Γ W (eN g ms)) := pe_imp (pe_callTy hc hg hm hv ha hn hdb he hpl) (cb_of kl hs)
theorem pe_or' {t t' : TE} (h : PE X e t) (h' : PE X e t') : PE X e (fun σ H Q => t σ H Q ∨ t' σ H Q) := ⟨fun pins s σ H Q I q => q.elim (h.run pins s σ H Q I) (h'.run pins s σ H Q I)⟩
end

/-! ### numbers -/
section
variable {X : Cx} {K : PySem.W.Frag} {mg : Glob} {k : Kd}
def gI (C : Int → Int → Bool) (f : Int → Int → D) : Op2 := fun x y st => match x, y with
  | .int i, .int j => if C i j = true then .ok (f i j) st else .bad
  | _, _ => .bad
theorem sem_I {C : Int → Int → Bool} {C' : Int → Int → Prop} {f : Int → Int → D} {f' : Int → Int → V} (hc : ∀ i j, C i j = true → C' i j) (hf : ∀ F i j, Rep K mg F (f i j) (f' i j)) : Sem2 kV K mg (gI C f) (rI C' f') := by
  intro Γ W F L σ H ρ st x y v u Q rl kx ky q
  unfold gI at q
  split at q
  · rename_i i j
    split at q
    · rename_i h
      exact ⟨i, j, kx.int rl, ky.int rl, hc i j h, q.here rl.sto _ (.inr (hf F i j))⟩
    · exact q.elim
  · exact q.elim
theorem sem_I0 {f : Int → Int → D} {f' : Int → Int → V} (hf : ∀ F i j, Rep K mg F (f i j) (f' i j)) : Sem2 kV K mg (gI (fun _ _ => true) f) (rI0 f') := by
  intro Γ W F L σ H ρ st x y v u Q rl kx ky q
  unfold gI at q
  split at q
  · rename_i i j
    rw [if_pos rfl] at q
    exact ⟨i, j, kx.int rl, ky.int rl, q.here rl.sto _ (.inr (hf F i j))⟩
  · exact q.elim
def gSub : Op2 := gI (fun _ _ => true) fun i j => .int (i - j)
def small64 (i : Int) : Bool := decide (-(2 ^ 64) < i ∧ i < 2 ^ 64)
def gMul : Op2 := gI (fun i j => small64 i || small64 j) fun i j => .int (i * j)
def gFdiv : Op2 := gI (fun _ j => decide (0 < j ∧ j < 1073741824)) fun i j => .int (i / j)
def gMod : Op2 := gI (fun _ j => decide (0 < j)) fun i j => .int (i % j)
def gPow : Op2 := gI (fun i j => decide (0 ≤ j ∧ j ≤ 1000000 ∧ i.natAbs < 2 ^ 64)) fun i j => .int (i ^ j.toNat)
theorem sem_sub : Sem2 kV K mg gSub (rI0 fun i j => .int (i - j)) := sem_I0 fun _ _ _ => rfl
theorem sem_mul : Sem2 kV K mg gMul (rI CMul fun i j => .int (i * j)) := sem_I (fun i j h => by
  unfold small64 at h
  rw [Bool.or_eq_true, decide_eq_true_eq, decide_eq_true_eq] at h
  exact h) fun _ _ _ => rfl
theorem sem_fdiv : Sem2 kV K mg gFdiv (rI CDiv fun i j => .int (i / j)) := sem_I (fun i j h => of_decide_eq_true (p := 0 < j ∧ j < 1073741824) h) fun _ _ _ => rfl
theorem sem_mod : Sem2 kV K mg gMod (rI (fun _ j => 0 < j) fun i j => .int (i % j)) := sem_I (fun i j h => of_decide_eq_true (p := 0 < j) h) fun _ _ _ => rfl
theorem sem_pow : Sem2 kV K mg gPow (rI CPow fun i j => .int (i ^ j.toNat)) := sem_I (fun i j h => of_decide_eq_true (p := 0 ≤ j ∧ j ≤ 1000000 ∧ i.natAbs < 2 ^ 64) h) fun _ _ _ => rfl
def gNeg : Op1 := fun x st => match x with
  | .int i => .ok (.int (-i)) st
  | _ => .bad
theorem sem_neg : Sem1 kV K mg gNeg (rU fun i => .int (-i)) := by
  intro Γ W F L σ H ρ st x v Q rl kx q
  unfold gNeg at q
  split at q
  · rename_i i
    exact ⟨i, kx.int rl, q.here rl.sto _ (.inr rfl)⟩
  · exact q.elim
def gLt : Op2 := gI (fun _ _ => true) fun i j => .bl (decide (i < j))
def gLe : Op2 := gI (fun _ _ => true) fun i j => .bl (decide (i ≤ j))
def gGt : Op2 := gI (fun _ _ => true) fun i j => .bl (decide (j < i))
def gGe : Op2 := gI (fun _ _ => true) fun i j => .bl (decide (j ≤ i))
theorem sem_lt : Sem2 kV K mg gLt (rI0 fun i j => .bl (decide (i < j))) := sem_I0 fun _ _ _ => rfl
theorem sem_le : Sem2 kV K mg gLe (rI0 fun i j => .bl (decide (i ≤ j))) := sem_I0 fun _ _ _ => rfl
theorem sem_gt : Sem2 kV K mg gGt (rI0 fun i j => .bl (decide (j < i))) := sem_I0 fun _ _ _ => rfl
theorem sem_ge : Sem2 kV K mg gGe (rI0 fun i j => .bl (decide (j ≤ i))) := sem_I0 fun _ _ _ => rfl

/-! ### + -/
def gAdd : Op2 := fun x y st => match x, y with
  | .int i, .int j => .ok (.int (i + j)) st
  | .str a, .str b => if a.length + b.length ≤ sizeLine then .ok (.str (a ++ b)) st else .bad
  | .lst a, .lst b => if a.length + b.length < 100000 then .ok (.lst (a ++ b)) st else .bad
  | .tup a, .tup b => if a.length + b.length < 100000 then .ok (.tup (a ++ b)) st else .bad
  | _, _ => .bad
abbrev rAddU (K : PySem.W.Frag) : R2 := fun x y H Q => (rI0 fun i j => .int (i + j)) x y H Q ∨ (∃ i j, x = .str i ∧ y = .str j ∧ i.length + j.length ≤ sizeLine ∧ Q (.str (i ++ j)) H) ∨ rCat x y H Q ∨ rCatA K x y H Q
theorem op_addU : OpR X (binaryOp .Add) (rAddU X.K) := OpR.or op_add (OpR.or op_add_str (OpR.or op_cat op_catA))
theorem sem_add : Sem2 kV K mg gAdd (rAddU K) := by
  intro Γ W F L σ H ρ st x y v u Q rl kx ky q
  unfold gAdd at q
  split at q
  · rename_i i j
    exact .inl ⟨i, j, kx.int rl, ky.int rl, q.here rl.sto _ (.inr rfl)⟩
  · rename_i a b
    split at q
    · rename_i h
      exact .inr (.inl ⟨a, b, kx.str rl, ky.str rl, h, q.here rl.sto _ (.inr rfl)⟩)
    · exact q.elim
  · rename_i a b
    split at q
    · rename_i h
      obtain ⟨p, vs, rfl, h1, h2⟩ := kx.lst rl
      obtain ⟨r, us, rfl, g1, g2⟩ := ky.lst rl
      refine .inr (.inr (.inl ⟨p, r, vs, us, rfl, rfl, h1, g1, by rw [sizeLine_eq, ← h2.length, ← g2.length]; omega, fun z nz => ?_⟩))
      obtain ⟨s, o⟩ := rl.sto.lay (o := .lst (vs ++ us)) nz
      exact q _ _ _ s o _ (.inr ⟨z, _, rfl, upd_same, RepL.mono s.ex _ (h2.append g2)⟩)
    · exact q.elim
  · rename_i a b
    split at q
    · rename_i h
      obtain ⟨p, vs, rfl, h1, h2, h3⟩ := kx.tup rl
      obtain ⟨r, us, rfl, g1, g2, g3⟩ := ky.tup rl
      refine .inr (.inr (.inr ⟨p, r, vs, us, rfl, rfl, h1, g1, by rw [sizeLine_eq, ← h2.length, ← g2.length]; omega, fun e => ?_, fun e1 e2 => ?_, fun e1 e2 z nz => ?_⟩))
      · subst e
        have : a = [] := by
          have := h2.length
          cases a <;> simp_all
        subst this
        exact q.here rl.sto _ (.inr ⟨r, us, rfl, g3, g2⟩)
      · subst e2
        have : b = [] := by
          have := g2.length
          cases b <;> simp_all
        subst this
        rw [List.append_nil] at q
        exact q.here rl.sto _ (.inr ⟨p, vs, rfl, h3, h2⟩)
      · obtain ⟨s, o⟩ := rl.sto.lay (o := .tup (vs ++ us)) nz
        exact q _ _ _ s o _ (.inr ⟨z, _, rfl, .inl (.inl upd_same), RepL.mono s.ex _ (h2.append g2)⟩)
    · exact q.elim
  · exact q.elim
/-- a + b of lists, a new one -/
def gCat : Op2 := fun x y st => match x, y with
  | .lst a, .lst b => if a.length + b.length < 100000 then .ok (.lst (a ++ b)) st else .bad
  | _, _ => .bad
theorem sem_cat : Sem2 kO K mg gCat rCat := by
  intro Γ W F L σ H ρ st x y v u Q rl kx ky q
  unfold gCat at q
  split at q
  · rename_i a b
    split at q
    · rename_i h
      obtain ⟨p, vs, rfl, h1, h2⟩ := kx.lst rl
      obtain ⟨r, us, rfl, g1, g2⟩ := ky.lst rl
      exact ⟨p, r, vs, us, rfl, rfl, h1, g1, by rw [sizeLine_eq, ← h2.length, ← g2.length]; omega, fun z nz => q _ _ _ (Stp.fresh nz) (rl.sto.fresh nz) _ ⟨z, rfl, nz, rl.newF nz, rl.newL nz, _, upd_same, h2.append g2⟩⟩
    · exact q.elim
  · exact q.elim
end

/-! ### ==, !=, is None -/
mutual
def D.eqv : D → D → Bool
  | .non, .non => true
  | .bl a, .bl b => a == b
  | .bl a, .int j => (if a then 1 else 0) == j
  | .int i, .bl b => i == (if b then 1 else 0)
  | .int i, .int j => i == j
  | .str x, .str y => x == y
  | .lst xs, .lst ys => eqvL xs ys
  | .lst xs, .scr ys => eqvL xs ys
  | .scr xs, .lst ys => eqvL xs ys
  | .scr xs, .scr ys => eqvL xs ys
  | .tup xs, .tup ys => eqvL xs ys
  | _, _ => false
def eqvL : List D → List D → Bool
  | [], [] => true
  | x :: xs, y :: ys => D.eqv x y && eqvL xs ys
  | _, _ => false
end
/-- plain data, n deep at most -/
def okD : Nat → D → Bool
  | _, .non => true
  | _, .bl _ => true
  | _, .int _ => true
  | _, .str s => PyData.strOk s
  | n + 1, .lst ds => ds.all (okD n)
  | n + 1, .scr ds => ds.all (okD n)
  | n + 1, .tup ds => ds.all (okD n)
  | _, _ => false
mutual
def toPy : D → PyData
  | .non => .none
  | .bl b => .bool b
  | .int i => .int i
  | .str s => .str s
  | .lst ds => .list (toPyL ds)
  | .scr ds => .list (toPyL ds)
  | .tup ds => .tuple (toPyL ds)
  | _ => .none
def toPyL : List D → List PyData
  | [] => []
  | d :: ds => toPy d :: toPyL ds
end
theorem toPy_shape : ∀ (n : Nat) (d : D), okD n d = true → (toPy d).canLay0 = true ∧ (toPy d).depth ≤ n := by
  have lists : ∀ (n : Nat), (∀ d, okD n d = true → (toPy d).canLay0 = true ∧ (toPy d).depth ≤ n) → ∀ ds : List D, ds.all (okD n) = true → PyData.canLayAll0 (toPyL ds) = true ∧ PyData.depthAll (toPyL ds) ≤ n := by
    intro n ih ds
    induction ds with
    | nil => intro _; exact ⟨by simp [toPyL, PyData.canLayAll0], by simp [toPyL, PyData.depthAll]⟩
    | cons d ds ih2 =>
      intro h
      rw [List.all_cons, Bool.and_eq_true] at h
      obtain ⟨a1, a2⟩ := ih d h.1
      obtain ⟨b1, b2⟩ := ih2 h.2
      refine ⟨by simp [toPyL, PyData.canLayAll0, a1, b1], ?_⟩
      simp only [toPyL, PyData.depthAll]
      omega
  intro n
  induction n with
  | zero =>
    intro d h
    cases d with
    | str s => exact ⟨by simpa [toPy, PyData.canLay0, okD] using h, by simp [toPy, PyData.depth]⟩
    | non => exact ⟨by simp [toPy, PyData.canLay0], by simp [toPy, PyData.depth]⟩
    | bl b => exact ⟨by simp [toPy, PyData.canLay0], by simp [toPy, PyData.depth]⟩
    | int b => exact ⟨by simp [toPy, PyData.canLay0], by simp [toPy, PyData.depth]⟩
    | _ => simp [okD] at h
  | succ n ih =>
    intro d h
    cases d with
    | str s => exact ⟨by simpa [toPy, PyData.canLay0, okD] using h, by simp [toPy, PyData.depth]⟩
    | non => exact ⟨by simp [toPy, PyData.canLay0], by simp [toPy, PyData.depth]⟩
    | bl b => exact ⟨by simp [toPy, PyData.canLay0], by simp [toPy, PyData.depth]⟩
    | int b => exact ⟨by simp [toPy, PyData.canLay0], by simp [toPy, PyData.depth]⟩
    | lst ds =>
      obtain ⟨a, b⟩ := lists n ih ds (by simpa [okD] using h)
      exact ⟨by simpa [toPy, PyData.canLay0] using a, by simp only [toPy, PyData.depth]; omega⟩
    | scr ds =>
      obtain ⟨a, b⟩ := lists n ih ds (by simpa [okD] using h)
      exact ⟨by simpa [toPy, PyData.canLay0] using a, by simp only [toPy, PyData.depth]; omega⟩
    | tup ds =>
      obtain ⟨a, b⟩ := lists n ih ds (by simpa [okD] using h)
      exact ⟨by simpa [toPy, PyData.canLay0] using a, by simp only [toPy, PyData.depth]; omega⟩
    | _ => simp [okD] at h
theorem eqv_py : ∀ (n m : Nat) (x y : D), okD n x = true → okD m y = true → PyData.eqv (toPy x) (toPy y) = D.eqv x y := by
  have lists : ∀ (n m : Nat), (∀ x y, okD n x = true → okD m y = true → PyData.eqv (toPy x) (toPy y) = D.eqv x y) → ∀ xs ys : List D, xs.all (okD n) = true → ys.all (okD m) = true → PyData.eqvAll (toPyL xs) (toPyL ys) = eqvL xs ys := by
    intro n m ih xs
    induction xs with
    | nil => intro ys _ _; cases ys <;> simp [toPyL, PyData.eqvAll, eqvL]
    | cons x xs ih2 =>
      intro ys h1 h2
      cases ys with
      | nil => simp [toPyL, PyData.eqvAll, eqvL]
      | cons y ys =>
        rw [List.all_cons, Bool.and_eq_true] at h1 h2
        simp only [toPyL, PyData.eqvAll, eqvL]
        rw [ih x y h1.1 h2.1, ih2 ys h1.2 h2.2]
  intro n
  induction n with
  | zero =>
    intro m x y h1 h2
    cases m <;> cases x <;> cases y <;> simp_all [okD, toPy, PyData.eqv, D.eqv]
  | succ n ih =>
    intro m x y h1 h2
    cases m with
    | zero => cases x <;> cases y <;> simp_all [okD, toPy, PyData.eqv, D.eqv]
    | succ m =>
      have L := lists n m (fun x y a b => ih m x y a b)
      cases x with
      | lst xs => cases y with
        | lst ys => simp only [toPy, PyData.eqv, D.eqv]; exact L xs ys (by simpa [okD] using h1) (by simpa [okD] using h2)
        | scr ys => simp only [toPy, PyData.eqv, D.eqv]; exact L xs ys (by simpa [okD] using h1) (by simpa [okD] using h2)
        | _ => simp_all [okD, toPy, PyData.eqv, D.eqv]
      | scr xs => cases y with
        | lst ys => simp only [toPy, PyData.eqv, D.eqv]; exact L xs ys (by simpa [okD] using h1) (by simpa [okD] using h2)
        | scr ys => simp only [toPy, PyData.eqv, D.eqv]; exact L xs ys (by simpa [okD] using h1) (by simpa [okD] using h2)
        | _ => simp_all [okD, toPy, PyData.eqv, D.eqv]
      | tup xs => cases y with
        | tup ys => simp only [toPy, PyData.eqv, D.eqv]; exact L xs ys (by simpa [okD] using h1) (by simpa [okD] using h2)
        | _ => simp_all [okD, toPy, PyData.eqv, D.eqv]
      | _ => cases y <;> simp_all [okD, toPy, PyData.eqv, D.eqv]
theorem dp_all {K : PySem.W.Frag} {mg : Glob} {F H : Hp} (ex : ExF F H) : ∀ (n : Nat), (∀ d v, okD n d = true → Rep K mg F d v → Dp K H v (toPy d)) → ∀ (ds : List D) (vs : List V), ds.all (okD n) = true → RepL K mg F ds vs → DpAll K H vs (toPyL ds)
  | n, ih, [], vs, _, r => by
    cases (show vs = [] from r)
    exact .nil
  | n, ih, d :: ds, vs, h, r => by
    obtain ⟨v, r', rfl, r1, r2⟩ := r
    rw [List.all_cons, Bool.and_eq_true] at h
    exact .cons (ih d v h.1 r1) (dp_all ex n ih ds r' h.2 r2)
theorem dp_of {K : PySem.W.Frag} {mg : Glob} {F H : Hp} (ex : ExF F H) : ∀ (n : Nat) (d : D) (v : V), okD n d = true → Rep K mg F d v → Dp K H v (toPy d)
  | n, .non, v, _, r => by cases (show v = .non from r); exact .non
  | n, .bl b, v, _, r => by cases (show v = .bl b from r); exact .bl b
  | n, .int i, v, _, r => by cases (show v = .int i from r); exact .int i
  | n, .str s, v, _, r => by cases (show v = .str s from r); exact .str s
  | 0, .lst ds, v, h, _ => by simp [okD] at h
  | 0, .scr ds, v, h, _ => by simp [okD] at h
  | 0, .tup ds, v, h, _ => by simp [okD] at h
  | n + 1, .lst ds, v, h, r => by
    obtain ⟨a, vs, rfl, h1, h2⟩ := r
    exact .lst (.inl (.inl (ex.lst h1))) (dp_all ex n (dp_of ex n) ds vs (by simpa [okD] using h) h2)
  | n + 1, .scr ds, v, h, r => by
    obtain ⟨a, vs, rfl, h1, h2⟩ := r
    exact .lst (ex.l h1) (dp_all ex n (dp_of ex n) ds vs (by simpa [okD] using h) h2)
  | n + 1, .tup ds, v, h, r => by
    obtain ⟨a, vs, rfl, h1, h2⟩ := r
    exact .tup (ex.t h1) (dp_all ex n (dp_of ex n) ds vs (by simpa [okD] using h) h2)
  | n, .dct ds, v, h, _ => by cases n <;> simp [okD] at h
  | n, .ins c fs, v, h, _ => by cases n <;> simp [okD] at h
  | n, .loc k, v, h, _ => by cases n <;> simp [okD] at h
section
variable {X : Cx} {K : PySem.W.Frag} {mg : Glob} {k : Kd}
theorem kR.dp {Γ : Ent} {F H H0 : Hp} {L : List Addr} {σ : St} {ρ : REnv} {st : Store} {d : D} {v : V} {n : Nat} (rl : Rl K mg Γ F L σ H ρ st) (kv : kR K mg σ H0 ρ F L H d v) (h : okD n d = true) : Dp K H v (toPy d) := by
  rcases kv with kv | ⟨i, h1, h2⟩
  · rcases kv with ⟨m, a, rfl, _⟩ | r
    · cases n <;> simp [okD] at h
    · exact dp_of rl.sto.ex n d v h r
  · obtain ⟨a, g1, _, _, _, hs⟩ := rl.so i _ h1
    rw [g1] at h2; cases h2
    cases d with
    | lst ds =>
      obtain ⟨vs, g2, g3⟩ := hs
      cases n with
      | zero => simp [okD] at h
      | succ n => exact .lst (.inl (.inl g2)) (dp_all rl.sto.ex n (dp_of rl.sto.ex n) ds vs (by simpa [okD] using h) g3)
    | dct ds => cases n <;> simp [okD] at h
    | ins c fs => cases n <;> simp [okD] at h
    | _ => exact hs.elim
/-- the scalars that == asks nothing more of -/
def scalD : D → D → Option Bool
  | .non, .non => some true | .non, .int _ => some false | .int _, .non => some false | .non, .bl _ => some false | .bl _, .non => some false | .non, .str _ => some false | .str _, .non => some false
  | .int i, .int j => some (decide (i = j)) | .bl i, .bl j => some (decide (i = j)) | .str i, .str j => some (decide (i = j))
  | .int _, .str _ => some false | .str _, .int _ => some false | .bl _, .str _ => some false | .str _, .bl _ => some false
  | _, _ => none
def eqD (x y : D) : Option Bool := match scalD x y with
  | some b => some b
  | none => if okD 20 x = true ∧ okD 20 y = true then some (D.eqv x y) else none
def gEq : Op2 := fun x y st => match eqD x y with
  | some b => .ok (.bl b) st
  | none => .bad
def gNe : Op2 := fun x y st => match eqD x y with
  | some b => .ok (.bl (!b)) st
  | none => .bad
theorem scal_of {Γ : Ent} {F H H0 : Hp} {L : List Addr} {σ : St} {ρ : REnv} {st : Store} {x y : D} {v u : V} {b : Bool} (rl : Rl K mg Γ F L σ H ρ st) (kx : kR K mg σ H0 ρ F L H x v) (ky : kR K mg σ H0 ρ F L H y u) (h : scalD x y = some b) : scal v u = true ∧ b = decide (v = u) := by
  unfold scalD at h
  split at h <;> first | cases h | skip
  all_goals
    first | cases kx.non rl | cases kx.int rl | cases kx.bl rl | cases kx.str rl
    first | cases ky.non rl | cases ky.int rl | cases ky.bl rl | cases ky.str rl
    refine ⟨rfl, ?_⟩
    simp
theorem op_eqU (hu : X.A.units + 64 < cLine) : OpR X (compareOp .Eq) (fun x y H Q => rEq x y H Q ∨ rEqD X.K x y H Q) := OpR.or op_eq (op_eqD hu)
theorem op_neU (hu : X.A.units + 64 < cLine) : OpR X (compareOp .NotEq) (fun x y H Q => rNe x y H Q ∨ rNeD X.K x y H Q) := OpR.or op_ne (op_neD hu)
theorem sem_eq : Sem2 kV K mg gEq (fun x y H Q => rEq x y H Q ∨ rEqD K x y H Q) := by
  intro Γ W F L σ H ρ st x y v u Q rl kx ky q
  unfold gEq at q
  split at q
  · rename_i b e
    unfold eqD at e
    split at e
    · rename_i b' e'
      cases e
      obtain ⟨h1, rfl⟩ := scal_of rl kx ky e'
      exact .inl ⟨h1, q.here rl.sto _ (.inr rfl)⟩
    · split at e
      · rename_i h
        cases e
        obtain ⟨a1, a2⟩ := toPy_shape 20 x h.1
        obtain ⟨b1, b2⟩ := toPy_shape 20 y h.2
        refine .inr ⟨toPy x, toPy y, kx.dp rl h.1, ky.dp rl h.2, ?_, ?_, ?_⟩
        · unfold SeqAt.shaped; rw [a1]; simp; omega
        · unfold SeqAt.shaped; rw [b1]; simp; omega
        · rw [eqv_py 20 20 x y h.1 h.2]
          exact q.here rl.sto _ (.inr rfl)
      · cases e
  · exact q.elim
theorem sem_ne : Sem2 kV K mg gNe (fun x y H Q => rNe x y H Q ∨ rNeD K x y H Q) := by
  intro Γ W F L σ H ρ st x y v u Q rl kx ky q
  unfold gNe at q
  split at q
  · rename_i b e
    unfold eqD at e
    split at e
    · rename_i b' e'
      cases e
      obtain ⟨h1, rfl⟩ := scal_of rl kx ky e'
      exact .inl ⟨h1, q.here rl.sto _ (.inr rfl)⟩
    · split at e
      · rename_i h
        cases e
        obtain ⟨a1, a2⟩ := toPy_shape 20 x h.1
        obtain ⟨b1, b2⟩ := toPy_shape 20 y h.2
        refine .inr ⟨toPy x, toPy y, kx.dp rl h.1, ky.dp rl h.2, ?_, ?_, ?_⟩
        · unfold SeqAt.shaped; rw [a1]; simp; omega
        · unfold SeqAt.shaped; rw [b1]; simp; omega
        · rw [eqv_py 20 20 x y h.1 h.2]
          exact q.here rl.sto _ (.inr rfl)
      · cases e
  · exact q.elim
/-- is None, is not None -/
def isNon : D → Bool
  | .non => true
  | _ => false
def gIs : Op2 := fun x y st => match y with
  | .non => .ok (.bl (isNon x)) st
  | _ => .bad
def gIsNot : Op2 := fun x y st => match y with
  | .non => .ok (.bl (!isNon x)) st
  | _ => .bad
theorem isNon_of {Γ : Ent} {F H H0 : Hp} {L : List Addr} {σ : St} {ρ : REnv} {st : Store} {x : D} {v : V} (rl : Rl K mg Γ F L σ H ρ st) (kx : kR K mg σ H0 ρ F L H x v) : isNon x = decide (v = .non) := by
  cases x with
  | non => cases kx.non rl; rfl
  | int i => cases kx.int rl; rfl
  | bl i => cases kx.bl rl; rfl
  | str i => cases kx.str rl; rfl
  | lst ds => obtain ⟨a, vs, rfl, _⟩ := kx.lst rl; rfl
  | tup ds => obtain ⟨a, vs, rfl, _⟩ := kx.tup rl; rfl
  | scr ds => obtain ⟨a, vs, rfl, _⟩ := kx.scr rl; rfl
  | dct ds => obtain ⟨a, vs, rfl, _⟩ := kx.dct rl; rfl
  | ins c fs =>
    rcases kx with kv | ⟨i, h1, h2⟩
    · rcases kv with ⟨_, _, e, _⟩ | ⟨a, C, dx, fv, rfl, _⟩
      · cases e
      · rfl
    · obtain ⟨a, g1, _⟩ := rl.so i _ h1
      rw [g1] at h2; cases h2; rfl
  | loc n =>
    have := kx.val rl fun _ _ _ h => h
    obtain ⟨a, _, rfl⟩ := this.loc
    rfl
theorem sem_is : Sem2 kV K mg gIs (fun x y H Q => y = .non ∧ Q (.bl (decide (x = .non))) H) := by
  intro Γ W F L σ H ρ st x y v u Q rl kx ky q
  unfold gIs at q
  split at q
  · exact ⟨ky.non rl, by rw [← isNon_of rl kx]; exact q.here rl.sto _ (.inr rfl)⟩
  · exact q.elim
theorem sem_isNot : Sem2 kV K mg gIsNot (fun x y H Q => y = .non ∧ Q (.bl (!decide (x = .non))) H) := by
  intro Γ W F L σ H ρ st x y v u Q rl kx ky q
  unfold gIsNot at q
  split at q
  · exact ⟨ky.non rl, by rw [← isNon_of rl kx]; exact q.here rl.sto _ (.inr rfl)⟩
  · exact q.elim
end
end Gh
/-! Gh9: in, places, cuts, built-ins. -/
namespace Gh
open L2 PyProof.Rows PySem.Spec PySem
section
variable {X : Cx} {K : PySem.W.Frag} {mg : Glob} {Γ : Ent} {W : WX} {e a b : Expr} {es : List Expr} {m ma mb : EDen} {ms : ADen} {pos p p2 : Pos} {k : Kd}
/-! ### in -/
def flatD : D → Bool
  | .non => true
  | .bl _ => true
  | .int _ => true
  | .str _ => true
  | _ => false
def inD (x : D) (xs : List D) : Bool := xs.any fun y => D.eqv y x
def itemsOf : D → Option (List D)
  | .lst ds => some ds
  | .tup ds => some ds
  | .scr ds => some ds
  | _ => none
def isIn (x y : D) : Option Bool := match y with
  | .str s => (match x with
    | .str t => some (!(Builtin.Str.occurrences s t 0 s.length 1).isEmpty)
    | _ => none)
  | .dct kvs => (match keyOf x with
    | some k => some (valD kvs k).isSome
    | none => none)
  | y => match itemsOf y with
    | some ds => if flatD x = true ∧ ds.all flatD = true then some (inD x ds) else if okD 20 x = true ∧ ds.all (okD 19) = true then some (inD x ds) else none
    | none => none
def gIn : Op2 := fun x y st => match isIn x y with
  | some b => .ok (.bl b) st
  | none => .bad
def gNotIn : Op2 := fun x y st => match isIn x y with
  | some b => .ok (.bl (!b)) st
  | none => .bad
theorem flat_of {F H : Hp} {L : List Addr} {x : D} {v : V} (h : flatD x = true) (r : VRep K mg L F x v) : flatV v = true ∧ ∀ (y : D) (u : V), flatD y = true → VRep K mg L F y u → eqV v u = D.eqv x y := by
  cases x with
  | non => cases r.non; exact ⟨rfl, fun y u hy ry => by
      cases y with
      | non => cases ry.non; rfl
      | bl b => cases ry.bl; rfl
      | int b => cases ry.int; rfl
      | str b => cases ry.str; rfl
      | _ => simp [flatD] at hy⟩
  | bl b => cases r.bl; exact ⟨rfl, fun y u hy ry => by
      cases y with
      | non => cases ry.non; rfl
      | bl b => cases ry.bl; rfl
      | int b => cases ry.int; rfl
      | str b => cases ry.str; rfl
      | _ => simp [flatD] at hy⟩
  | int b => cases r.int; exact ⟨rfl, fun y u hy ry => by
      cases y with
      | non => cases ry.non; rfl
      | bl b => cases ry.bl; rfl
      | int b => cases ry.int; rfl
      | str b => cases ry.str; rfl
      | _ => simp [flatD] at hy⟩
  | str b => cases r.str; exact ⟨rfl, fun y u hy ry => by
      cases y with
      | non => cases ry.non; rfl
      | bl b => cases ry.bl; rfl
      | int b => cases ry.int; rfl
      | str b => cases ry.str; rfl
      | _ => simp [flatD] at hy⟩
  | _ => simp [flatD] at h
theorem flatL_of {F : Hp} {L : List Addr} {x : D} {v : V} (hx : flatD x = true) (rx : VRep K mg L F x v) : ∀ {ds : List D} {vs : List V}, ds.all flatD = true → RepL K mg F ds vs → vs.all flatV = true ∧ inV v vs = inD x ds
  | [], vs, _, r => by
    cases (show vs = [] from r)
    exact ⟨rfl, rfl⟩
  | d :: ds, vs, h, r => by
    obtain ⟨u, r', rfl, r1, r2⟩ := r
    rw [List.all_cons, Bool.and_eq_true] at h
    obtain ⟨a1, a2⟩ := flatL_of hx rx h.2 r2
    have f := flat_of (F := F) (H := F) (L := L) h.1 (.inr r1)
    refine ⟨by rw [List.all_cons, f.1, a1] <;> rfl, ?_⟩
    unfold inV inD at a2 ⊢
    rw [List.any_cons, List.any_cons, a2, f.2 x v hx rx]
/-- data of any depth in a list, a tuple -/
def rInDeep (K : PySem.W.Frag) (f : Bool → Bool) : R2 := fun x y H Q => ∃ d ds z, Dp K H x d ∧ Dp K H y z ∧ (z = .list ds ∨ z = .tuple ds) ∧ d.canLay0 = true ∧ d.depth ≤ 20 ∧ PyData.canLayAll0 ds = true ∧ Q (.bl (f (ds.any fun y => PyData.eqv y d))) H
theorem op_inDeep (hu : X.A.units + 64 < cLine) : OpR X (compareOp .In) (rInDeep X.K id) := by
  intro pins s σ H x y v u Q I rx ry h
  obtain ⟨d, ds, z, h1, h2, h3, h4, h5, h6, q⟩ := h
  obtain ⟨as, r1⟩ := Dp.reads I d x v h1 rx
  have hr : X.A.units + 1 + min (PyData.depthAll ds) d.depth < cLine := by
    have := Nat.min_le_right (PyData.depthAll ds) d.depth
    omega
  rcases h3 with rfl | rfl
  · obtain ⟨bs, r2⟩ := Dp.reads I (.list ds) y u h2 ry
    exact SeqAt.in_list_reads r2 r1 h6 h4 hr ⟨.bl _, H, I, rfl, q⟩
  · obtain ⟨bs, r2⟩ := Dp.reads I (.tuple ds) y u h2 ry
    exact SeqAt.in_tuple_reads r2 r1 h6 h4 hr ⟨.bl _, H, I, rfl, q⟩
theorem op_notInDeep (hu : X.A.units + 64 < cLine) : OpR X (compareOp .NotIn) (rInDeep X.K not) := by
  intro pins s σ H x y v u Q I rx ry h
  obtain ⟨d, ds, z, h1, h2, h3, h4, h5, h6, q⟩ := h
  obtain ⟨as, r1⟩ := Dp.reads I d x v h1 rx
  have hr : X.A.units + 1 + min (PyData.depthAll ds) d.depth < cLine := by
    have := Nat.min_le_right (PyData.depthAll ds) d.depth
    omega
  rcases h3 with rfl | rfl
  · obtain ⟨bs, r2⟩ := Dp.reads I (.list ds) y u h2 ry
    exact SeqAt.notIn_list_reads r2 r1 h6 h4 hr ⟨.bl _, H, I, rfl, q⟩
  · obtain ⟨bs, r2⟩ := Dp.reads I (.tuple ds) y u h2 ry
    exact SeqAt.notIn_tuple_reads r2 r1 h6 h4 hr ⟨.bl _, H, I, rfl, q⟩
theorem lay_all : ∀ (ds : List D) (n : Nat), ds.all (okD n) = true → PyData.canLayAll0 (toPyL ds) = true
  | [], n, _ => rfl
  | d :: ds, n, h => by
    simp only [List.all_cons, Bool.and_eq_true] at h
    show ((toPy d).canLay0 && PyData.canLayAll0 (toPyL ds)) = true
    rw [(toPy_shape n d h.1).1, lay_all ds n h.2]
    rfl
theorem any_py (x : D) (hx : okD 20 x = true) : ∀ (ds : List D), ds.all (okD 19) = true → (toPyL ds).any (fun y => PyData.eqv y (toPy x)) = inD x ds
  | [], _ => rfl
  | d :: ds, h => by
    simp only [List.all_cons, Bool.and_eq_true] at h
    show (PyData.eqv (toPy d) (toPy x) || (toPyL ds).any (fun y => PyData.eqv y (toPy x))) = (D.eqv d x || inD x ds)
    rw [eqv_py 19 20 d x h.1 hx, any_py x hx ds h.2]
theorem deep_at {F H H0 : Hp} {L : List Addr} {σ : St} {ρ : REnv} {st : Store} {x y : D} {v u : V} {ds : List D} {f : Bool → Bool} {Q : VK} (rl : Rl K mg Γ F L σ H ρ st) (kx : kR K mg σ H0 ρ F L H x v) (ky : kR K mg σ H0 ρ F L H y u) (h : itemsOf y = some ds) (h1 : okD 20 x = true) (h2 : ds.all (okD 19) = true)
    (q : Q (.bl (f (inD x ds))) H) : rInDeep K f v u H Q := by
  obtain ⟨a1, a2⟩ := toPy_shape 20 x h1
  have hy : okD 20 y = true := by
    cases y <;> first | (cases h; exact h2) | cases h
  refine ⟨toPy x, toPyL ds, toPy y, kx.dp rl h1, ky.dp rl hy, ?_, a1, a2, lay_all ds 19 h2, ?_⟩
  · cases y with
    | lst es => cases h; exact .inl rfl
    | scr es => cases h; exact .inl rfl
    | tup es => cases h; exact .inr rfl
    | _ => cases h
  · rw [any_py x h1 ds h2]
    exact q
abbrev rInU (K : PySem.W.Frag) : R2 := fun x y H Q => (rIn K false x y H Q ∨ rInDeep K id x y H Q) ∨ ∃ i j, x = .str i ∧ y = .str j ∧ Q (.bl (!(Builtin.Str.occurrences j i 0 j.length 1).isEmpty)) H
abbrev rNotInU (K : PySem.W.Frag) : R2 := fun x y H Q => (rIn K true x y H Q ∨ rInDeep K not x y H Q) ∨ ∃ i j, x = .str i ∧ y = .str j ∧ Q (.bl (!(!(Builtin.Str.occurrences j i 0 j.length 1).isEmpty))) H
theorem op_inU (hu : X.A.units + 64 < cLine) : OpR X (compareOp .In) (rInU X.K) := OpR.or (OpR.or op_in_seq (op_inDeep hu)) op_in_str
theorem op_notInU (hu : X.A.units + 64 < cLine) : OpR X (compareOp .NotIn) (rNotInU X.K) := OpR.or (OpR.or op_notIn_seq (op_notInDeep hu)) op_notIn_str
theorem items_at {F H H0 : Hp} {L : List Addr} {σ : St} {ρ : REnv} {st : Store} {y : D} {u : V} {ds : List D} (rl : Rl K mg Γ F L σ H ρ st) (ky : kR K mg σ H0 ρ F L H y u) (h : itemsOf y = some ds) : ∃ p vs, u = .ref p ∧ (SqL K H p vs ∨ SqT K H p vs) ∧ RepL K mg F ds vs := by
  cases y with
  | lst es => cases h; obtain ⟨a, vs, rfl, h1, h2⟩ := ky.lst rl; exact ⟨a, vs, rfl, .inl (.inl (.inl h1)), h2⟩
  | tup es => cases h; obtain ⟨a, vs, rfl, h1, h2, _⟩ := ky.tup rl; exact ⟨a, vs, rfl, .inr h1, h2⟩
  | scr es => cases h; obtain ⟨a, vs, rfl, h1, h2⟩ := ky.scr rl; exact ⟨a, vs, rfl, .inl h1, h2⟩
  | _ => cases h
theorem key_at {F H H0 : Hp} {L : List Addr} {σ : St} {ρ : REnv} {st : Store} {x : D} {v : V} {kk : Key} (rl : Rl K mg Γ F L σ H ρ st) (kx : kR K mg σ H0 ρ F L H x v) (h : keyOf x = some kk) : v = L2.kV kk := by
  cases x with
  | int i => cases h; exact kx.int rl
  | str s => cases h; exact kx.str rl
  | _ => cases h
/-- the outcome of b, asked behind a, is of a kind -/
def sndIs (pr : D → Bool) (ma mb : EDen) (ρ : REnv) (st : Store) : Prop := ∃ x st1 y st2, ma ρ st = .ok x st1 ∧ mb ρ st1 = .ok y st2 ∧ pr y = true
def fstIs (pr : D → Bool) (ma : EDen) (ρ : REnv) (st : Store) : Prop := ∃ x st1, ma ρ st = .ok x st1 ∧ pr x = true
def isDct : D → Bool
  | .dct _ => true
  | _ => false
theorem sem_in : ∀ (Γ : Ent) (W : WX) (F : Hp) (L : List Addr) (σ : St) (H : Hp) (ρ : REnv) (st : Store) (x y : D) (v u : V) (Q : VK), isDct y = false → Rl K mg Γ F L σ H ρ st → kR K mg σ H ρ F L H x v → kR K mg σ H ρ F L H y u →
    Post K mg W σ F L H (gIn x y st) (fun F' L' H' _ d => ∀ w, kV K mg σ H ρ F' L' H' d w → Q w H') → rInU K v u H Q := by
  intro Γ W F L σ H ρ st x y v u Q nd rl kx ky q
  unfold gIn at q
  split at q
  · rename_i bb eb
    unfold isIn at eb
    split at eb
    · rename_i s
      split at eb
      · rename_i t
        cases eb
        exact .inr ⟨t, s, kx.str rl, ky.str rl, q.here rl.sto _ (.inr rfl)⟩
      · cases eb
    · cases nd
    · split at eb
      · rename_i ds hds
        split at eb
        · rename_i hf
          cases eb
          obtain ⟨p, vs, rfl, h1, h2⟩ := items_at rl ky hds
          have kx' : VRep K mg L F x v := kx.val rl (by intro F H a hs; cases x <;> first | exact hs | simp [flatD] at hf)
          obtain ⟨f1, f2⟩ := flatL_of (F := F) hf.1 kx' hf.2 h2
          have g1 := (flat_of (F := F) (H := F) hf.1 kx').1
          exact .inl (.inl ⟨p, vs, rfl, h1, g1, f1, by rw [if_neg Bool.false_ne_true, f2]; exact q.here rl.sto _ (.inr rfl)⟩)
        · split at eb
          · rename_i hf
            cases eb
            exact .inl (.inr (deep_at rl kx ky hds hf.1 hf.2 (q.here rl.sto _ (.inr rfl))))
          · cases eb
      · cases eb
  · exact q.elim
theorem sem_notIn : ∀ (Γ : Ent) (W : WX) (F : Hp) (L : List Addr) (σ : St) (H : Hp) (ρ : REnv) (st : Store) (x y : D) (v u : V) (Q : VK), isDct y = false → Rl K mg Γ F L σ H ρ st → kR K mg σ H ρ F L H x v → kR K mg σ H ρ F L H y u →
    Post K mg W σ F L H (gNotIn x y st) (fun F' L' H' _ d => ∀ w, kV K mg σ H ρ F' L' H' d w → Q w H') → rNotInU K v u H Q := by
  intro Γ W F L σ H ρ st x y v u Q nd rl kx ky q
  unfold gNotIn at q
  split at q
  · rename_i bb eb
    unfold isIn at eb
    split at eb
    · rename_i s
      split at eb
      · rename_i t
        cases eb
        exact .inr ⟨t, s, kx.str rl, ky.str rl, q.here rl.sto _ (.inr rfl)⟩
      · cases eb
    · cases nd
    · split at eb
      · rename_i ds hds
        split at eb
        · rename_i hf
          cases eb
          obtain ⟨p, vs, rfl, h1, h2⟩ := items_at rl ky hds
          have kx' : VRep K mg L F x v := kx.val rl (by intro F H a hs; cases x <;> first | exact hs | simp [flatD] at hf)
          obtain ⟨f1, f2⟩ := flatL_of (F := F) hf.1 kx' hf.2 h2
          have g1 := (flat_of (F := F) (H := F) hf.1 kx').1
          exact .inl (.inl ⟨p, vs, rfl, h1, g1, f1, by rw [if_pos rfl, f2]; exact q.here rl.sto _ (.inr rfl)⟩)
        · split at eb
          · rename_i hf
            cases eb
            exact .inl (.inr (deep_at rl kx ky hds hf.1 hf.2 (q.here rl.sto _ (.inr rfl))))
          · cases eb
      · cases eb
  · exact q.elim
/-- in a list, a tuple, a text, a dict -/
theorem in_go {X : Cx} {mg : Glob} {Γ : Ent} {W : WX} {ma mb : EDen} {σ : St} {H : Hp} {Q : VK} (h : teV X.K mg Γ W (e2 gIn ma mb) σ H Q) : tOp (rInU X.K) (teR X.K mg Γ W ma) (teR X.K mg Γ W mb) σ H Q ∨ tDIn (teR X.K mg Γ W ma) (teR X.K mg Γ W mb) σ H Q := by
  obtain ⟨F, L, ρ, st, rl, q⟩ := h
  by_cases hd : sndIs isDct ma mb ρ st
  · right
    obtain ⟨x0, st1', y0, st2', e1, e2', hy⟩ := hd
    refine ⟨F, L, ρ, st, rl, q.bind.impE fun F1 L1 H1 st1 x ex s1 o1 p1 v kv => ?_⟩
    have rl1 := rl.step s1 o1
    refine ⟨F1, L1, ρ, st1, rl1, p1.bind.impE fun F2 L2 H2 st2 y ey s2 o2 p2 u ku => ?_⟩
    have rl2 := rl1.step s2 o2
    have kv2 : kR X.K mg σ H2 ρ F2 L2 H2 x v := kR.step kv s2
    rw [e1] at ex; cases ex
    rw [e2'] at ey; cases ey
    unfold gIn at p2
    split at p2
    · rename_i bb eb
      cases y0 with
      | dct kvs =>
        have eb : (match keyOf x0 with
          | some k => some (valD kvs k).isSome
          | none => none) = some bb := eb
        split at eb
        · rename_i kk hk
          cases eb
          obtain ⟨a', vs, rfl, h1, h2⟩ := ku.dct rl2
          cases key_at rl2 kv2 hk
          refine ⟨a', valV vs kk, rfl, .inl ⟨vs, kk, h1, rfl, rfl⟩, ?_⟩
          have : (valV vs kk).isSome = (valD kvs kk).isSome := by
            rcases h2.val kk with ⟨z1, z2⟩ | ⟨d, w, z1, z2, _⟩ <;> rw [z1, z2] <;> rfl
          rw [this]
          exact p2.here o2 _ (.inr rfl)
        · cases eb
      | _ => cases hy
    · exact p2.elim
  · left
    refine ⟨F, L, ρ, st, rl, q.bind.impE fun F1 L1 H1 st1 x ex s1 o1 p1 v kv => ?_⟩
    have rl1 := rl.step s1 o1
    refine ⟨F1, L1, ρ, st1, rl1, p1.bind.impE fun F2 L2 H2 st2 y ey s2 o2 p2 u ku => ?_⟩
    have rl2 := rl1.step s2 o2
    have nd : isDct y = false := by
      cases h : isDct y with
      | false => rfl
      | true => exact absurd ⟨x, st1, y, st2, ex, ey, h⟩ hd
    exact sem_in Γ W F2 L2 σ H2 ρ st2 x y v u Q nd rl2 (kR.step kv s2) ku p2
theorem g_in (hK : X.K = K) (hu : X.A.units + 64 < cLine) (ha : PE X a (teR K mg Γ W ma)) (hb : PE X b (teR K mg Γ W mb)) (hm : behindInMarks .In b = false := by rfl) : PE X (.Compare a [.In] [b] pos) (teV K mg Γ W (e2 gIn ma mb)) := by
  subst hK
  exact pe_imp (pe_or' (pe_cmpR (op_inU hu) ha hb hm) (pe_cmp (pc_din (by omega) ha hb) hm)) fun σ H Q h => in_go h
theorem notIn_go {X : Cx} {mg : Glob} {Γ : Ent} {W : WX} {ma mb : EDen} {σ : St} {H : Hp} {Q : VK} (h : teV X.K mg Γ W (e2 gNotIn ma mb) σ H Q) : tOp (rNotInU X.K) (teR X.K mg Γ W ma) (teR X.K mg Γ W mb) σ H Q ∨ tDNotIn (teR X.K mg Γ W ma) (teR X.K mg Γ W mb) σ H Q := by
  obtain ⟨F, L, ρ, st, rl, q⟩ := h
  by_cases hd : sndIs isDct ma mb ρ st
  · right
    obtain ⟨x0, st1', y0, st2', e1, e2', hy⟩ := hd
    refine ⟨F, L, ρ, st, rl, q.bind.impE fun F1 L1 H1 st1 x ex s1 o1 p1 v kv => ?_⟩
    have rl1 := rl.step s1 o1
    refine ⟨F1, L1, ρ, st1, rl1, p1.bind.impE fun F2 L2 H2 st2 y ey s2 o2 p2 u ku => ?_⟩
    have rl2 := rl1.step s2 o2
    have kv2 : kR X.K mg σ H2 ρ F2 L2 H2 x v := kR.step kv s2
    rw [e1] at ex; cases ex
    rw [e2'] at ey; cases ey
    unfold gNotIn at p2
    split at p2
    · rename_i bb eb
      cases y0 with
      | dct kvs =>
        have eb : (match keyOf x0 with
          | some k => some (valD kvs k).isSome
          | none => none) = some bb := eb
        split at eb
        · rename_i kk hk
          cases eb
          obtain ⟨a', vs, rfl, h1, h2⟩ := ku.dct rl2
          cases key_at rl2 kv2 hk
          refine ⟨a', valV vs kk, rfl, .inl ⟨vs, kk, h1, rfl, rfl⟩, ?_⟩
          have : (valV vs kk).isSome = (valD kvs kk).isSome := by
            rcases h2.val kk with ⟨z1, z2⟩ | ⟨d, w, z1, z2, _⟩ <;> rw [z1, z2] <;> rfl
          rw [this]
          exact p2.here o2 _ (.inr rfl)
        · cases eb
      | _ => cases hy
    · exact p2.elim
  · left
    refine ⟨F, L, ρ, st, rl, q.bind.impE fun F1 L1 H1 st1 x ex s1 o1 p1 v kv => ?_⟩
    have rl1 := rl.step s1 o1
    refine ⟨F1, L1, ρ, st1, rl1, p1.bind.impE fun F2 L2 H2 st2 y ey s2 o2 p2 u ku => ?_⟩
    have rl2 := rl1.step s2 o2
    have nd : isDct y = false := by
      cases h : isDct y with
      | false => rfl
      | true => exact absurd ⟨x, st1, y, st2, ex, ey, h⟩ hd
    exact sem_notIn Γ W F2 L2 σ H2 ρ st2 x y v u Q nd rl2 (kR.step kv s2) ku p2
theorem g_notIn (hK : X.K = K) (hu : X.A.units + 64 < cLine) (ha : PE X a (teR K mg Γ W ma)) (hb : PE X b (teR K mg Γ W mb)) (hm : behindInMarks .NotIn b = false := by rfl) : PE X (.Compare a [.NotIn] [b] pos) (teV K mg Γ W (e2 gNotIn ma mb)) := by
  subst hK
  exact pe_imp (pe_or' (pe_cmpR (op_notInU hu) ha hb hm) (pe_cmp (pc_dnotin (by omega) ha hb) hm)) fun σ H Q h => notIn_go h
/-! ### places -/
def gIx : Op2 := fun x y st => match x, y with
  | .dct kvs, y => (match keyOf y with
    | some k => (match valD kvs k with
      | some d => .ok d st
      | none => .bad)
    | none => .bad)
  | .str s, .int i => if s.length ≤ sizeLine then (match atI s.cps.toList i with
    | some c => .ok (.str ⟨#[c]⟩) st
    | none => .bad) else .bad
  | .loc n, .int i => (match st[n]? with
    | some (.lst ds) => (match atI ds i with
      | some d => .ok d st
      | none => .bad)
    | _ => .bad)
  | x, .int i => (match itemsOf x with
    | some ds => (match atI ds i with
      | some d => .ok d st
      | none => .bad)
    | none => .bad)
  | _, _ => .bad
theorem atI_rep {F : Hp} {ds : List D} {vs : List V} {i : Int} {d : D} (r : RepL K mg F ds vs) (h : atI ds i = some d) : ∃ v, atI vs i = some v ∧ Rep K mg F d v := by
  unfold atI at h ⊢
  rw [← r.length]
  cases hx : ixN ds.length i with
  | none => rw [hx] at h; cases h
  | some j =>
    rw [hx] at h
    exact r.get h
theorem g_sub (hK : X.K = K) (hu : X.A.units + 1 < cLine) (ha : PE X a (teR K mg Γ W ma)) (hb : PE X b (teR K mg Γ W mb)) (hx : PlainIx b := by exact fun _ _ => rfl) : PE X (.Subscript a b pos) (teV K mg Γ W (e2 gIx ma mb)) := by
  subst hK
  refine pe_imp (pe_or' (pe_ix ix_seq ha hb hx) (pe_dget hu ha hb hx)) fun σ H Q ⟨F, L, ρ, st, rl, q⟩ => ?_
  by_cases hd : fstIs isDct ma ρ st
  · right
    obtain ⟨x0, st1', e1, hy⟩ := hd
    refine ⟨F, L, ρ, st, rl, q.bind.impE fun F1 L1 H1 st1 x ex s1 o1 p1 v kv => ?_⟩
    have rl1 := rl.step s1 o1
    refine ⟨F1, L1, ρ, st1, rl1, p1.bind.imp fun F2 L2 H2 st2 y s2 o2 p2 u ku => ?_⟩
    have rl2 := rl1.step s2 o2
    have kv2 : kR X.K mg σ H2 ρ F2 L2 H2 x v := kR.step kv s2
    rw [e1] at ex; cases ex
    cases x0 with
    | dct kvs =>
      have p2 : Post X.K mg W σ F2 L2 H2 (match keyOf y with
        | some k => (match valD kvs k with
          | some d => .ok d st2
          | none => .bad)
        | none => .bad) _ := p2
      split at p2
      · rename_i kk hk
        split at p2
        · rename_i d hv
          obtain ⟨a', vs, rfl, h1, h2⟩ := kv2.dct rl2
          cases key_at rl2 ku hk
          rcases h2.val kk with ⟨z1, z2⟩ | ⟨d', w, z1, z2, z3⟩
          · rw [z1] at hv; cases hv
          · rw [z1] at hv; cases hv
            exact ⟨a', w, rfl, .inl ⟨vs, kk, h1, rfl, z2.symm⟩, p2.here o2 _ (.inr z3)⟩
        · exact p2.elim
      · exact p2.elim
    | _ => cases hy
  · left
    refine ⟨F, L, ρ, st, rl, q.bind.impE fun F1 L1 H1 st1 x ex s1 o1 p1 v kv => ?_⟩
    have rl1 := rl.step s1 o1
    refine ⟨F1, L1, ρ, st1, rl1, p1.bind.imp fun F2 L2 H2 st2 y s2 o2 p2 u ku => ?_⟩
    have rl2 := rl1.step s2 o2
    have kv2 : kR X.K mg σ H2 ρ F2 L2 H2 x v := kR.step kv s2
    unfold gIx at p2
    split at p2
    · rename_i kvs yy
      exact absurd ⟨_, _, ex, rfl⟩ hd
    · rename_i s i
      split at p2
      · rename_i hl
        split at p2
        · rename_i c hc
          exact .inr (.inr ⟨s, i, c, kv2.str rl2, ku.int rl2, hl, hc, p2.here o2 _ (.inr rfl)⟩)
        · exact p2.elim
      · exact p2.elim
    · rename_i n i
      split at p2
      · rename_i ds hst
        split at p2
        · rename_i d hd'
          have := kv2.val rl2 fun _ _ _ h => h
          obtain ⟨a', h1, rfl⟩ := this.loc
          obtain ⟨nF, vs, h2, h3⟩ := o2.at_ n a' _ h1 hst
          obtain ⟨w, w1, w2⟩ := atI_rep h3 hd'
          exact .inl ⟨a', vs, i, w, rfl, ku.int rl2, .inl (.inl h2), w1, p2.here o2 _ (.inr w2)⟩
        · exact p2.elim
      · exact p2.elim
    · rename_i i _ _ _
      split at p2
      · rename_i ds hds
        split at p2
        · rename_i d hd'
          obtain ⟨p, vs, rfl, h1, h2⟩ := items_at rl2 kv2 hds
          obtain ⟨w, w1, w2⟩ := atI_rep h2 hd'
          rcases h1 with h1 | h1
          · exact .inl ⟨p, vs, i, w, rfl, ku.int rl2, h1, w1, p2.here o2 _ (.inr w2)⟩
          · exact .inr (.inl ⟨p, vs, i, w, rfl, ku.int rl2, h1, w1, p2.here o2 _ (.inr w2)⟩)
        · exact p2.elim
      · exact p2.elim
    · exact p2.elim
end
end Gh
/-! Gh10: cuts, built-ins, isinstance, truth and == of instances. -/
namespace Gh
open L2 PyProof.Rows PySem.Spec PySem
section
variable {X : Cx} {K : PySem.W.Frag} {mg : Glob} {Γ : Ent} {W : WX} {e a b : Expr} {es : List Expr} {m ma mb : EDen} {ms : ADen} {pos p p2 : Pos} {k : Kd}
/-! ### cuts -/
abbrev ODen := REnv → Store → RC (Option Int)
def oNone : ODen := fun _ st => .ok none st
def oSome (m : EDen) : ODen := fun ρ st => (m ρ st).bind fun d st1 => match d with
  | .int i => .ok (some i) st1
  | _ => .bad
def toG (K : PySem.W.Frag) (mg : Glob) (Γ : Ent) (W : WX) (m : ODen) : TO := fun σ H Q => ∃ F L ρ st, Rl K mg Γ F L σ H ρ st ∧
  Post K mg W σ F L H (m ρ st) fun F' L' H' _ o => Q o H'
theorem po_imp {e : Option Expr} {t t' : TO} (h : PO X e t) (k : ∀ σ H Q, t' σ H Q → t σ H Q) : PO X e t' := ⟨fun pins s σ H Q I q => h.run pins s σ H Q I (k σ H Q q)⟩
theorem o_none : PO X none (toG K mg Γ W oNone) := po_imp po_none fun σ H Q ⟨F, L, ρ, st, rl, q⟩ => q.here rl.sto
theorem o_some (h : PE X e (teR K mg Γ W m)) : PO X (some e) (toG K mg Γ W (oSome m)) := by
  refine po_imp (po_some h) fun σ H Q ⟨F, L, ρ, st, rl, q⟩ => ⟨F, L, ρ, st, rl, q.bind.imp fun F1 L1 H1 st1 d s o q1 v kv => ?_⟩
  split at q1
  · rename_i i
    exact ⟨i, kv.int (rl.step s o), q1.here o⟩
  · exact q1.elim
def cutD (ds : List D) (lo hi : Option Int) : List D := (ds.drop (HT.sIx ds.length 0 lo)).take (HT.sIx ds.length ds.length hi - HT.sIx ds.length 0 lo)
theorem cutD_rep {F : Hp} {ds : List D} {vs : List V} (r : RepL K mg F ds vs) (lo hi : Option Int) : RepL K mg F (cutD ds lo hi) (cutV vs lo hi) := by
  unfold cutD cutV
  rw [← r.length]
  exact (r.drop _).take _
def gCut (x : D) (lo hi : Option Int) (st : Store) : RC D := match x with
  | .lst ds => .ok (.lst (cutD ds lo hi)) st
  | .tup ds => .ok (.tup (cutD ds lo hi)) st
  | _ => .bad
def eCut (m : EDen) (lo hi : ODen) : EDen := fun ρ st => (m ρ st).bind fun x st1 => (lo ρ st1).bind fun l st2 => (hi ρ st2).bind fun h st3 => gCut x l h st3
def gCutL (x : D) (lo hi : Option Int) (st : Store) : RC D := match x with
  | .lst ds => .ok (.lst (cutD ds lo hi)) st
  | _ => .bad
/-- .. of a list, a new one -/
def eCutL (m : EDen) (lo hi : ODen) : EDen := fun ρ st => (m ρ st).bind fun x st1 => (lo ρ st1).bind fun l st2 => (hi ρ st2).bind fun h st3 => gCutL x l h st3
theorem cutV_whole {xs : List V} {lo hi : Option Int} (h : HT.sIx xs.length 0 lo = 0 ∧ HT.sIx xs.length xs.length hi = xs.length) : cutV xs lo hi = xs := by
  unfold cutV
  rw [h.1, h.2]
  simp
theorem g_cut {elo ehi : Option Expr} {lo hi : ODen} (hK : X.K = K) (he : PE X e (teR K mg Γ W m)) (hl : PO X elo (toG K mg Γ W lo)) (hh : PO X ehi (toG K mg Γ W hi)) : PE X (.Subscript e (.Slice elo ehi none p2) pos) (teV K mg Γ W (eCut m lo hi)) := by
  subst hK
  refine pe_imp (pe_slice (SlR.or sl_list sl_tupA) he hl hh) fun σ H Q ⟨F, L, ρ, st, rl, q⟩ => ⟨F, L, ρ, st, rl, q.bind.imp fun F1 L1 H1 st1 x s1 o1 p1 v kv => ?_⟩
  have rl1 := rl.step s1 o1
  refine ⟨F1, L1, ρ, st1, rl1, p1.bind.imp fun F2 L2 H2 st2 l s2 o2 p2 => ?_⟩
  have rl2 := rl1.step s2 o2
  refine ⟨F2, L2, ρ, st2, rl2, p2.bind.imp fun F3 L3 H3 st3 h s3 o3 p3 => ?_⟩
  have rl3 := rl2.step s3 o3
  have kv3 : kR X.K mg σ H3 ρ F3 L3 H3 x v := kR.step (kR.step (H0' := H2) (H3 := H2) kv s2) s3
  unfold gCut at p3
  split at p3
  · rename_i ds
    obtain ⟨a, vs, rfl, h1, h2⟩ := kv3.lst rl3
    refine .inl ⟨a, vs, rfl, .inl (.inl h1), fun z nz => ?_⟩
    obtain ⟨s, o⟩ := o3.lay (o := .lst (cutV vs l h)) nz
    exact p3 _ _ _ s o _ (.inr ⟨z, _, rfl, upd_same, RepL.mono s.ex _ (cutD_rep h2 l h)⟩)
  · rename_i ds
    obtain ⟨a, vs, rfl, h1, h2, h3⟩ := kv3.tup rl3
    refine .inr ⟨a, vs, rfl, h1, fun w => ?_, fun w z nz => ?_⟩
    · have r := cutD_rep h2 l h
      rw [cutV_whole w] at r
      exact p3.here o3 _ (.inr ⟨a, vs, rfl, h3, r⟩)
    · obtain ⟨s, o⟩ := o3.lay (o := .tup (cutV vs l h)) nz
      exact p3 _ _ _ s o _ (.inr ⟨z, _, rfl, .inl (.inl upd_same), RepL.mono s.ex _ (cutD_rep h2 l h)⟩)
  · exact p3.elim
theorem g_cutL {elo ehi : Option Expr} {lo hi : ODen} (hK : X.K = K) (he : PE X e (teR K mg Γ W m)) (hl : PO X elo (toG K mg Γ W lo)) (hh : PO X ehi (toG K mg Γ W hi)) : PE X (.Subscript e (.Slice elo ehi none p2) pos) (teO K mg Γ W (eCutL m lo hi)) := by
  subst hK
  refine pe_imp (pe_slice sl_list he hl hh) fun σ H Q ⟨F, L, ρ, st, rl, q⟩ => ⟨F, L, ρ, st, rl, q.bind.imp fun F1 L1 H1 st1 x s1 o1 p1 v kv => ?_⟩
  have rl1 := rl.step s1 o1
  refine ⟨F1, L1, ρ, st1, rl1, p1.bind.imp fun F2 L2 H2 st2 l s2 o2 p2 => ?_⟩
  have rl2 := rl1.step s2 o2
  refine ⟨F2, L2, ρ, st2, rl2, p2.bind.imp fun F3 L3 H3 st3 h s3 o3 p3 => ?_⟩
  have rl3 := rl2.step s3 o3
  have kv3 : kR X.K mg σ H3 ρ F3 L3 H3 x v := kR.step (kR.step (H0' := H2) (H3 := H2) kv s2) s3
  unfold gCutL at p3
  split at p3
  · rename_i ds
    obtain ⟨a, vs, rfl, h1, h2⟩ := kv3.lst rl3
    refine ⟨a, vs, rfl, .inl (.inl h1), fun z nz => ?_⟩
    refine p3 _ _ _ (Stp.fresh nz) (o3.fresh nz) _ ⟨z, rfl, ?_, rl3.newF nz, rl3.newL nz, _, upd_same, cutD_rep h2 l h⟩
    cases hz : H z with
    | none => rfl
    | some u => exact absurd nz (s3.more o3 z (s2.more o2 z (s1.more o1 z (by rw [hz]; simp))))
  · exact p3.elim

/-! ### built-ins -/
theorem KRL.one {Γ : Ent} {F H : Hp} {L : List Addr} {σ : St} {ρ : REnv} {d : D} {vs : List V} (h : KRL K mg σ ρ F L H [d] vs) : ∃ v, vs = [v] ∧ kR K mg σ H ρ F L H d v := by
  obtain ⟨v, r, rfl, h1, h2⟩ := h
  cases (show r = [] from h2)
  exact ⟨v, rfl, h1⟩
theorem KRL.two {Γ : Ent} {F H : Hp} {L : List Addr} {σ : St} {ρ : REnv} {d d' : D} {vs : List V} (h : KRL K mg σ ρ F L H [d, d'] vs) : ∃ v u, vs = [v, u] ∧ kR K mg σ H ρ F L H d v ∧ kR K mg σ H ρ F L H d' u := by
  obtain ⟨v, r, rfl, h1, h2⟩ := h
  obtain ⟨u, r', rfl, h3, h4⟩ := h2
  cases (show r' = [] from h4)
  exact ⟨v, u, rfl, h1, h3⟩
/-- len -/
theorem call_lenR : CallR X (.builtin "len") (fun xs H Q => ∃ a kvs, xs = [V.ref a] ∧ Rd H a (.dK kvs) ∧ Q (.int kvs.length) H) := by
  intro pins s σ H xs us Q I r h
  obtain ⟨a, kvs, rfl, ha, q⟩ := h
  obtain ⟨u, rfl, ru⟩ := vals1 r
  cases ru
  exact d_len I ha fun t s' I' => ⟨.int kvs.length, H, I', ⟨t, rfl⟩, q⟩
abbrev rLen (K : PySem.W.Frag) : List V → Hp → VK → Prop := fun xs H Q => (∃ p ys, xs = [.ref p] ∧ (SqL K H p ys ∨ SqT K H p ys) ∧ Q (.int ys.length) H) ∨ (∃ z, xs = [.str z] ∧ z.length ≤ sizeLine ∧ Q (.int z.length) H) ∨ ∃ a kvs, xs = [V.ref a] ∧ Rd H a (.dK kvs) ∧ Q (.int kvs.length) H
theorem call_lenU : CallR X (.builtin "len") (rLen X.K) := CallR.or call_len_seq (CallR.or call_len_str call_lenR)
def lenD : D → Option Nat
  | .str s => if s.length ≤ sizeLine then some s.length else none
  | .dct kvs => some kvs.length
  | x => (itemsOf x).map List.length
def gLen : OpN := fun ds st => match ds with
  | [d] => (match lenD d with
    | some n => .ok (.int n) st
    | none => .bad)
  | _ => .bad
theorem sem_len : SemN kV K mg gLen (rLen K) := by
  intro Γ W F L σ H ρ st ds vs Q rl kvs q
  unfold gLen at q
  split at q
  · rename_i d
    obtain ⟨v, rfl, kv⟩ := kvs.one (Γ := Γ)
    split at q
    · rename_i n hn
      have seq : ∀ ds, itemsOf d = some ds → n = ds.length → rLen K [v] H Q := fun ds hd e => by
        obtain ⟨p, us, rfl, h1, h2⟩ := items_at rl kv hd
        exact .inl ⟨p, us, rfl, h1, by rw [← h2.length, ← e]; exact q.here rl.sto _ (.inr rfl)⟩
      cases d with
      | str s =>
        have hn : (if s.length ≤ sizeLine then some s.length else none) = some n := hn
        split at hn
        · rename_i hl
          cases hn
          exact .inr (.inl ⟨s, by rw [kv.str rl], hl, q.here rl.sto _ (.inr rfl)⟩)
        · cases hn
      | dct kvs' =>
        cases hn
        obtain ⟨a, us, rfl, h1, h2⟩ := kv.dct rl
        exact .inr (.inr ⟨a, us, rfl, h1, by rw [← h2.length]; exact q.here rl.sto _ (.inr rfl)⟩)
      | lst ds => exact seq ds rfl (by simpa [lenD, itemsOf] using hn.symm)
      | tup ds => exact seq ds rfl (by simpa [lenD, itemsOf] using hn.symm)
      | scr ds => exact seq ds rfl (by simpa [lenD, itemsOf] using hn.symm)
      | _ => simp [lenD, itemsOf] at hn
    · exact q.elim
  · exact q.elim
/-- list(x), tuple(x) -/
def gList : OpN := fun ds st => match ds with
  | [d] => (match itemsOf d with
    | some es => .ok (.lst es) st
    | none => .bad)
  | _ => .bad
theorem sem_list : SemN kO K mg gList (fun xs H Q => ∃ p ys, xs = [.ref p] ∧ (SqL K H p ys ∨ SqT K H p ys) ∧ ∀ l, H l = none → Q (.ref l) (upd H l (.lst ys))) := by
  intro Γ W F L σ H ρ st ds vs Q rl kvs q
  unfold gList at q
  split at q
  · rename_i d
    obtain ⟨v, rfl, kv⟩ := kvs.one (Γ := Γ)
    split at q
    · rename_i es hd
      obtain ⟨p, us, rfl, h1, h2⟩ := items_at rl kv hd
      exact ⟨p, us, rfl, h1, fun z nz => q _ _ _ (Stp.fresh nz) (rl.sto.fresh nz) _ ⟨z, rfl, nz, rl.newF nz, rl.newL nz, us, upd_same, h2⟩⟩
    · exact q.elim
  · exact q.elim
def gTuple : OpN := fun ds st => match ds with
  | [d] => (match itemsOf d with
    | some es => .ok (.tup es) st
    | none => .bad)
  | _ => .bad
theorem sem_tuple : SemN kV K mg gTuple (fun xs H Q => ∃ p ys, xs = [.ref p] ∧ ((SqL K H p ys ∧ ∀ l, H l = none → Q (.ref l) (upd H l (.tup ys))) ∨ (SqT K H p ys ∧ Q (.ref p) H))) := by
  intro Γ W F L σ H ρ st ds vs Q rl kvs q
  unfold gTuple at q
  split at q
  · rename_i d
    obtain ⟨v, rfl, kv⟩ := kvs.one (Γ := Γ)
    split at q
    · rename_i es hd
      have new : ∀ us, RepL K mg F es us → ∀ l, H l = none → Q (.ref l) (upd H l (.tup us)) := fun us h2 l nl => by
        obtain ⟨s, o⟩ := rl.sto.lay (o := .tup us) nl
        exact q _ _ _ s o _ (.inr ⟨l, us, rfl, .inl (.inl upd_same), RepL.mono s.ex _ h2⟩)
      cases d with
      | lst es' => cases hd; obtain ⟨a, us, rfl, h1, h2⟩ := kv.lst rl; exact ⟨a, us, rfl, .inl ⟨.inl (.inl h1), new us h2⟩⟩
      | scr es' => cases hd; obtain ⟨a, us, rfl, h1, h2⟩ := kv.scr rl; exact ⟨a, us, rfl, .inl ⟨h1, new us h2⟩⟩
      | tup es' => cases hd; obtain ⟨a, us, rfl, h1, h2, h3⟩ := kv.tup rl; exact ⟨a, us, rfl, .inr ⟨h1, q.here rl.sto _ (.inr ⟨a, us, rfl, h3, h2⟩)⟩⟩
      | _ => cases hd
    · exact q.elim
  · exact q.elim
/-- lists of ints, of truth values -/
def asInts : List D → Option (List Int)
  | [] => some []
  | .int i :: r => (asInts r).map (i :: ·)
  | _ => none
def asBools : List D → Option (List Bool)
  | [] => some []
  | .bl i :: r => (asBools r).map (i :: ·)
  | _ => none
theorem asInts_rep {F : Hp} : ∀ {ds : List D} {vs : List V} {ns : List Int}, RepL K mg F ds vs → asInts ds = some ns → vs = ns.map V.int
  | [], vs, ns, r, h => by
    cases (show vs = [] from r)
    cases h
    rfl
  | d :: ds, vs, ns, r, h => by
    obtain ⟨v, r', rfl, r1, r2⟩ := r
    cases d with
    | int i =>
      have h : (asInts ds).map (i :: ·) = some ns := h
      cases h2 : asInts ds with
      | none => rw [h2] at h; cases h
      | some ms =>
        rw [h2] at h
        cases h
        cases (show v = .int i from r1)
        rw [asInts_rep r2 h2] <;> rfl
    | _ => cases h
theorem asBools_rep {F : Hp} : ∀ {ds : List D} {vs : List V} {ns : List Bool}, RepL K mg F ds vs → asBools ds = some ns → vs = ns.map V.bl
  | [], vs, ns, r, h => by
    cases (show vs = [] from r)
    cases h
    rfl
  | d :: ds, vs, ns, r, h => by
    obtain ⟨v, r', rfl, r1, r2⟩ := r
    cases d with
    | bl i =>
      have h : (asBools ds).map (i :: ·) = some ns := h
      cases h2 : asBools ds with
      | none => rw [h2] at h; cases h
      | some ms =>
        rw [h2] at h
        cases h
        cases (show v = .bl i from r1)
        rw [asBools_rep r2 h2] <;> rfl
    | _ => cases h
theorem list_at {F H H0 : Hp} {L : List Addr} {σ : St} {ρ : REnv} {st : Store} {ds : List D} {v : V} (rl : Rl K mg Γ F L σ H ρ st) (kv : kR K mg σ H0 ρ F L H (.lst ds) v) : ∃ a vs, v = .ref a ∧ SqL K H a vs ∧ RepL K mg F ds vs := by
  obtain ⟨a, vs, rfl, h1, h2⟩ := kv.lst rl
  exact ⟨a, vs, rfl, .inl (.inl h1), h2⟩
def gAll : OpN := fun ds st => match ds with
  | [.lst es] => (match asBools es with
    | some bs => .ok (.bl (bs.all id)) st
    | none => .bad)
  | _ => .bad
def gAny : OpN := fun ds st => match ds with
  | [.lst es] => (match asBools es with
    | some bs => .ok (.bl (bs.any id)) st
    | none => .bad)
  | _ => .bad
theorem sem_all : SemN kV K mg gAll (rAll K) := by
  intro Γ W F L σ H ρ st ds vs Q rl kvs q
  unfold gAll at q
  split at q
  · rename_i es
    obtain ⟨v, rfl, kv⟩ := kvs.one (Γ := Γ)
    split at q
    · rename_i bs hb
      obtain ⟨a, us, rfl, h1, h2⟩ := list_at rl kv
      cases asBools_rep h2 hb
      exact ⟨a, bs, rfl, h1, q.here rl.sto _ (.inr rfl)⟩
    · exact q.elim
  · exact q.elim
theorem sem_any : SemN kV K mg gAny (rAny K) := by
  intro Γ W F L σ H ρ st ds vs Q rl kvs q
  unfold gAny at q
  split at q
  · rename_i es
    obtain ⟨v, rfl, kv⟩ := kvs.one (Γ := Γ)
    split at q
    · rename_i bs hb
      obtain ⟨a, us, rfl, h1, h2⟩ := list_at rl kv
      cases asBools_rep h2 hb
      exact ⟨a, bs, rfl, h1, q.here rl.sto _ (.inr rfl)⟩
    · exact q.elim
  · exact q.elim
def maxI : List Int → Int
  | [] => 0
  | [i] => i
  | i :: r => max i (maxI r)
def minI : List Int → Int
  | [] => 0
  | [i] => i
  | i :: r => min i (minI r)
theorem maxI_is : ∀ (ns : List Int) (m : Int), m ∈ ns → (∀ y, y ∈ ns → y ≤ m) → maxI ns = m
  | [], m, h, _ => by simp at h
  | [i], m, h, _ => by
    have : m = i := by simpa using h
    exact this.symm
  | i :: j :: r, m, h, hm => by
    show max i (maxI (j :: r)) = m
    by_cases hr : m ∈ j :: r
    · rw [maxI_is (j :: r) m hr (fun y hy => hm y (List.mem_cons_of_mem _ hy))]
      have := hm i List.mem_cons_self
      omega
    · have e : m = i := by
        rcases List.mem_cons.mp h with h | h
        · exact h
        · exact absurd h hr
      subst e
      have le : ∀ l : List Int, l ≠ [] → (∀ y, y ∈ l → y ≤ m) → maxI l ≤ m := by
        intro l
        induction l with
        | nil => intro h; exact absurd rfl h
        | cons x l ih =>
          intro _ h
          cases l with
          | nil => exact h x List.mem_cons_self
          | cons z l =>
            show max x (maxI (z :: l)) ≤ m
            have := ih (by simp) (fun y hy => h y (List.mem_cons_of_mem _ hy))
            have := h x List.mem_cons_self
            omega
      have := le (j :: r) (by simp) (fun y hy => hm y (List.mem_cons_of_mem _ hy))
      omega
theorem minI_is : ∀ (ns : List Int) (m : Int), m ∈ ns → (∀ y, y ∈ ns → m ≤ y) → minI ns = m
  | [], m, h, _ => by simp at h
  | [i], m, h, _ => by
    have : m = i := by simpa using h
    exact this.symm
  | i :: j :: r, m, h, hm => by
    show min i (minI (j :: r)) = m
    by_cases hr : m ∈ j :: r
    · rw [minI_is (j :: r) m hr (fun y hy => hm y (List.mem_cons_of_mem _ hy))]
      have := hm i List.mem_cons_self
      omega
    · have e : m = i := by
        rcases List.mem_cons.mp h with h | h
        · exact h
        · exact absurd h hr
      subst e
      have le : ∀ l : List Int, l ≠ [] → (∀ y, y ∈ l → m ≤ y) → m ≤ minI l := by
        intro l
        induction l with
        | nil => intro h; exact absurd rfl h
        | cons x l ih =>
          intro _ h
          cases l with
          | nil => exact h x List.mem_cons_self
          | cons z l =>
            show m ≤ min x (minI (z :: l))
            have := ih (by simp) (fun y hy => h y (List.mem_cons_of_mem _ hy))
            have := h x List.mem_cons_self
            omega
      have := le (j :: r) (by simp) (fun y hy => hm y (List.mem_cons_of_mem _ hy))
      omega
def gMax : OpN := fun ds st => match ds with
  | [.lst es] => (match asInts es with
    | some (n :: ns) => .ok (.int (maxI (n :: ns))) st
    | _ => .bad)
  | _ => .bad
def gMin : OpN := fun ds st => match ds with
  | [.lst es] => (match asInts es with
    | some (n :: ns) => .ok (.int (minI (n :: ns))) st
    | _ => .bad)
  | _ => .bad
def gSum : OpN := fun ds st => match ds with
  | [.lst es] => (match asInts es with
    | some ns => .ok (.int ns.sum) st
    | _ => .bad)
  | _ => .bad
theorem sem_max : SemN kV K mg gMax (rMax K) := by
  intro Γ W F L σ H ρ st ds vs Q rl kvs q
  unfold gMax at q
  split at q
  · rename_i es
    obtain ⟨v, rfl, kv⟩ := kvs.one (Γ := Γ)
    split at q
    · rename_i n ns hb
      obtain ⟨a, us, rfl, h1, h2⟩ := list_at rl kv
      cases asInts_rep h2 hb
      refine ⟨a, n :: ns, rfl, h1, by simp, fun m hm hy => ?_⟩
      rw [maxI_is _ m hm hy] at q
      exact q.here rl.sto _ (.inr rfl)
    · exact q.elim
  · exact q.elim
theorem sem_min : SemN kV K mg gMin (rMin K) := by
  intro Γ W F L σ H ρ st ds vs Q rl kvs q
  unfold gMin at q
  split at q
  · rename_i es
    obtain ⟨v, rfl, kv⟩ := kvs.one (Γ := Γ)
    split at q
    · rename_i n ns hb
      obtain ⟨a, us, rfl, h1, h2⟩ := list_at rl kv
      cases asInts_rep h2 hb
      refine ⟨a, n :: ns, rfl, h1, by simp, fun m hm hy => ?_⟩
      rw [minI_is _ m hm hy] at q
      exact q.here rl.sto _ (.inr rfl)
    · exact q.elim
  · exact q.elim
theorem sem_sum : SemN kV K mg gSum (rSum K) := by
  intro Γ W F L σ H ρ st ds vs Q rl kvs q
  unfold gSum at q
  split at q
  · rename_i es
    obtain ⟨v, rfl, kv⟩ := kvs.one (Γ := Γ)
    split at q
    · rename_i ns hb
      obtain ⟨a, us, rfl, h1, h2⟩ := list_at rl kv
      cases asInts_rep h2 hb
      exact ⟨a, ns, rfl, h1, q.here rl.sto _ (.inr rfl)⟩
    · exact q.elim
  · exact q.elim
def gMax2 : OpN := fun ds st => match ds with
  | [.int i, .int j] => .ok (.int (if j > i then j else i)) st
  | _ => .bad
def gMin2 : OpN := fun ds st => match ds with
  | [.int i, .int j] => .ok (.int (if j < i then j else i)) st
  | _ => .bad
theorem sem_max2 : SemN kV K mg gMax2 (fun xs H Q => ∃ i j, xs = [.int i, .int j] ∧ Q (.int (if j > i then j else i)) H) := by
  intro Γ W F L σ H ρ st ds vs Q rl kvs q
  unfold gMax2 at q
  split at q
  · rename_i i j
    obtain ⟨v, u, rfl, kv, ku⟩ := kvs.two (Γ := Γ)
    exact ⟨i, j, by rw [kv.int rl, ku.int rl], q.here rl.sto _ (.inr rfl)⟩
  · exact q.elim
theorem sem_min2 : SemN kV K mg gMin2 (fun xs H Q => ∃ i j, xs = [.int i, .int j] ∧ Q (.int (if j < i then j else i)) H) := by
  intro Γ W F L σ H ρ st ds vs Q rl kvs q
  unfold gMin2 at q
  split at q
  · rename_i i j
    obtain ⟨v, u, rfl, kv, ku⟩ := kvs.two (Γ := Γ)
    exact ⟨i, j, by rw [kv.int rl, ku.int rl], q.here rl.sto _ (.inr rfl)⟩
  · exact q.elim
def gInt : OpN := fun ds st => match ds with
  | [.int i] => .ok (.int i) st
  | [.bl b] => .ok (.int (if b then 1 else 0)) st
  | _ => .bad
theorem sem_int : SemN kV K mg gInt (fun xs H Q => (∃ i, xs = [.int i] ∧ Q (.int i) H) ∨ ∃ k, xs = [.bl k] ∧ Q (.int (if k then 1 else 0)) H) := by
  intro Γ W F L σ H ρ st ds vs Q rl kvs q
  unfold gInt at q
  split at q
  · rename_i i
    obtain ⟨v, rfl, kv⟩ := kvs.one (Γ := Γ)
    exact .inl ⟨i, by rw [kv.int rl], q.here rl.sto _ (.inr rfl)⟩
  · rename_i i
    obtain ⟨v, rfl, kv⟩ := kvs.one (Γ := Γ)
    exact .inr ⟨i, by rw [kv.bl rl], q.here rl.sto _ (.inr rfl)⟩
  · exact q.elim
end
end Gh
/-! Gh11: enumerate of a tuple. -/
namespace Gh
open L2 PyProof.Rows PySem.Spec PySem
/-- enumerate(v), one argument: an iterator of v, then the enumerate object -/
theorem meets_enumB {v : Value} {o : Obj} {H : Heap → Prop} (B : Begins v o H) :
    Meets (Builtin.«enumerate.__new__» ⟨[.type "enumerate", v], []⟩) (fun _ R s => H s.heap ∧
      R (.ok (.ret (.ref (s.heap.push o).objs.size))) { s with heap := (s.heap.push o).push { cls := .type "enumerate", data := .fields #[.none, .bool false, .ref s.heap.objs.size, rawInt 0, .none, .none] } }) := by
  refine .of_wp fun prog w A R s z => ?_
  obtain ⟨hp, gn, dp, tk, os⟩ := s
  obtain ⟨z1, z2⟩ := z
  have hsub := sub_enumerate
  have it1 : ∀ {A1 : Around} {E1 : Value → Shared → Prop} {Q1 : Value → Shared → Prop}, Q1 (.ref hp.objs.size) ⟨hp.push o, gn, dp, tk, os⟩ → wpAny (model prog w) A1 (pyIter v) Q1 E1 ⟨hp, gn, dp, tk, os⟩ := by
    intro A1 E1 Q1 q
    exact B.iter prog w _ _ ⟨hp, gn, dp, tk, os⟩ _ z1 q
  wp_walk using it1
  refine wpAny_stack_any fun stk => wpAny_pure ?_
  split
  next c _ _ _ _ _ => cases (c == Value.type "enumerate") <;> (wp_walk using it1) <;> exact ⟨_, rfl, z2⟩
  next => (wp_walk using it1) <;> exact ⟨_, rfl, z2⟩
theorem call_enumB {prog : Program} {w : World} {A : Around} {E : Value → Shared → Prop} {s : Shared} {v : Value} {o : Obj} {H : Heap → Prop} {Q : Value → Shared → Prop} (B : Begins v o H) (z : H s.heap)
    (q : ∀ h', IsEnum h' (s.heap.objs.size + 1) s.heap.objs.size 0 .none → h'.get? s.heap.objs.size = some o → (∀ b u, s.heap.get? b = some u → h'.get? b = some u) → Q (.ref (s.heap.objs.size + 1)) { s with heap := h' }) :
    wpAny (model prog w) A (call (.type "enumerate") [v]) Q E s := by
  refine callType_new F.called_enumerate (by decide) (F.typeCall_enumerate_1 _) (F.newCall_enumerate_1 _) (fun obj => F.args_object_init_2 obj _) F.entry_enumerate_new (meets_enumB B) ⟨z, ?_⟩
  have n1 : (s.heap.push o).objs.size = s.heap.objs.size + 1 := Heap.size_push ..
  have g0 : (s.heap.push o).get? s.heap.objs.size = some o := Heap.get?_push_size _ B.free
  refine (?_ : _ ∧ _)
  rw [n1]
  have g1 : IsEnum ((s.heap.push o).push { cls := .type "enumerate", data := .fields #[.none, .bool false, .ref s.heap.objs.size, rawInt 0, .none, .none] }) (s.heap.objs.size + 1) s.heap.objs.size 0 .none := by
    rw [← n1]
    exact Heap.get?_push_size _ rfl
  exact ⟨⟨_, g1, rfl⟩, q _ g1 (Heap.get?_push_of_some _ g0) fun b u e => Heap.get?_push_of_some _ (Heap.get?_push_of_some _ e)⟩

/-- the tuple at a, each item in a new pair -/
def IteT (K : PySem.W.Frag) (a : Addr) : It where
  go i H := ∃ (xs : List V) (x : V), SqT K H a xs ∧ xs[i]? = some x
  yld i H v H' := ∃ T x, v = .ref T ∧ H T = none ∧ H' = upd H T (.tup [.int (i : Nat), x]) ∧ ∀ xs, SqT K H a xs → xs[i]? = some x
  stop i H := ∃ xs : List V, SqT K H a xs ∧ xs.length ≤ i
theorem turn_enumT {P : Program} {w : World} {K : PySem.W.Frag} {elts : List Expr} {kk : Nat} {tpos : Pos} (a en it : Addr) (hai : a ≠ it) (hae : a ≠ en) :
    Turn P w K (.Tuple elts kk tpos) (IteT K a) [en, it] en (fun i h => (∃ old, IsEnum h en it ((i : Nat) : Int) old) ∧ h.IsTupleIter it a i ∧ en ≠ it) where
  mem := by simp
  obj i h st b hb := by
    obtain ⟨⟨old, he⟩, ⟨o, ho, hc, hd⟩, _⟩ := st
    rcases (by simpa using hb : b = en ∨ b = it) with rfl | rfl
    · exact ⟨_, he, fun v q => nomatch q⟩
    · exact ⟨o, ho, fun v q => by rw [hd] at q; cases q⟩
  keep i h h' st k := by
    obtain ⟨⟨old, he⟩, hi, hne⟩ := st
    exact ⟨⟨old, k en (by simp) _ he⟩, hi.at fun o q => k it (by simp) o q, hne⟩
  item := by
    rintro X rfl rfl rfl hc i pins s σ H E I hf ⟨⟨old, he⟩, hit, hne⟩ ⟨xs, x, hq, hx⟩
    obtain ⟨its, rv, p, hz⟩ := I.tuple hq
    obtain ⟨u, hu, ru⟩ := rv.get hx
    have l1 : en < s.heap.objs.size := Heap.lt_size he
    have l2 : it < s.heap.objs.size := by
      obtain ⟨_, q, _⟩ := hit
      exact Heap.lt_size q
    have hsz : i < its.toArray.size := by simpa using (List.getElem?_eq_some_iff.mp hu).1
    refine wpAny_pyNext_enum_itemD (Draws.tuple (A := X.A.in1) (I.ok.hd hc) it a hai its.toArray) he ⟨hit, p⟩ hsz hne (by simp [Ne.symm hae, hne]) fun y h' tk hP ho hs' hT hn hk => ?_
    obtain ⟨hit', p'⟩ := hs'
    have hy : y = u := by
      have q1 : its.toArray[i]? = some u := by simpa using hu
      rw [show its.toArray[i]? = some y from hP] at q1
      exact Option.some.inj q1
    subst hy
    refine ⟨_, rfl, wpAny_letOwnedTupleGo_enum (s := { s with heap := h', toks := tk + 1 }) ho fun h'' he' sb => ?_⟩
    have hT2 := (sb.2 _ (Nat.ne_of_gt l1)).trans hT
    have new : ObjOk X.prog X.w (upd H s.heap.objs.size (.tup [.int (i : Nat), x])) h'' s.heap.objs.size (.tup [.int (i : Nat), x]) := by
      refine ⟨by show 2 ≤ sizeLine; decide, [.int i tk, y], .cons ⟨_, rfl⟩ (.cons ru .nil), _, hT2, rfl, _, rfl⟩
    have I1 : Inv X pins σ (upd H s.heap.objs.size (.tup [.int (i : Nat), x])) { s with heap := h'', toks := tk + 1 } := by
      refine I.turnedNew (ch := [en, it]) (fun b ob hb q => ?_) hf (Nat.le_refl _) new
      simp only [List.mem_cons, List.not_mem_nil, or_false, not_or] at hb
      exact (sb.2 b hb.1).trans (hk b ob hb.1 hb.2 q)
    refine ⟨.ref s.heap.objs.size, _, I1, rfl, ⟨_, x, rfl, I.hok.fresh (Nat.le_refl _), rfl, fun ys hy => by rw [I.tuple_inj hy hq]; exact hx⟩, ⟨⟨y, ?_⟩, hit'.at fun o q => (sb.2 it (Ne.symm hne)).trans q, hne⟩, fun b hb => ?_⟩
    · rw [show ((i + 1 : Nat) : Int) = (i : Int) + 1 by omega]
      exact he'
    · have hb' : b < s.heap.objs.size := by
        rcases (by simpa using hb : b = en ∨ b = it) with rfl | rfl
        · exact l1
        · exact l2
      rw [upd_ne (Nat.ne_of_lt hb')]
      exact (hf b hb).1
  done := by
    rintro X rfl rfl rfl hc i pins s σ H E I hf ⟨⟨old, he⟩, hit, hne⟩ ⟨xs, hq, hx⟩
    obtain ⟨its, rv, p, hz⟩ := I.tuple hq
    obtain ⟨f0, f1, f2, f3, f4, f5⟩ := hf it (by simp)
    have hl := rv.length
    have D : Draws X.prog X.w X.A.in1 it [it, a] i (fun _ _ => True) (fun j h => j = i ∧ h.IsTupleIter it a j ∧ h.IsTuple a its.toArray) := by
      have D0 := Draws.tuple (prog := X.prog) (w := X.w) (A := X.A.in1) (I.ok.hd hc) it a hai its.toArray
      exact ⟨fun j h z => D0.live j h z.2, fun j h h' z k => ⟨z.1, D0.frame j h h' z.2 k⟩, fun j s Q E hj z => absurd z.1 (Nat.ne_of_lt hj), fun s Q E z hE => wpAny_nextOf_tuple_end (I.ok.hd hc) z.2.1 z.2.2 (by simp; omega) hE⟩
    exact wpAny_pyNext_enum_endD D he ⟨rfl, hit, p⟩ fun h' eb => ⟨rfl, I.turned (t' := s.toks) (fun b o hb q => eb b o hb q) f0 f1 f3 f4 f5⟩
  self A i s Q E st h := by
    obtain ⟨⟨_, he⟩, _⟩ := st
    exact wpAny_pyIter_enum he h

def iEnumT (K : PySem.W.Frag) (ta : TA) : TI := fun σ H R => ta σ H fun vs H1 => ∃ a xs, vs = [.ref a] ∧ SqT K H1 a xs ∧ R (IteT K a) H1
theorem pi_enumT {X : Cx} {e : Expr} {ta : TA} {p pos tpos : Pos} {elts : List Expr} {kk : Nat} (hg : Gl X "enumerate") (hm : X.mg "enumerate" = none) (ha : PA X [e] ta) (hs : starEach [e] X.env = [(false, eval e X.env)] := by rfl) :
    PI X (.Tuple elts kk tpos) (.Call (.Name "enumerate" p) [e] [] pos) (iEnumT X.K ta) where
  run pins s σ H R I h := by
    refine Call_ (ld_blt I hg hm boot_enumerate (PyProof.Rows.callWith_type1 (thn (ha.run pos pins s σ H _ I h) fun us s1 z => ?_) hs rfl))
    obtain ⟨vs, H1, I1, r1, a, xs, rfl, hq, q⟩ := z
    obtain ⟨u, rfl, r⟩ : ∃ u, us = [u] ∧ RelV (.ref a) u := by
      cases r1 with
      | cons r rr => cases rr; exact ⟨_, rfl, r⟩
    cases r
    obtain ⟨its, rv, p', hz⟩ := I1.tuple hq
    have la : a < s1.heap.objs.size := by
      obtain ⟨o, e, _⟩ := p'
      exact Heap.lt_size e
    refine call_enumB (begins_tuple a its.toArray) p' fun h' he hit hk => wpAny_pyIter_enum he ?_
    have I2 : Inv X pins σ H1 { s1 with heap := h' } := I1.kept (t' := s1.toks) hk
    refine ⟨s1.heap.objs.size + 1, [s1.heap.objs.size + 1, s1.heap.objs.size], _, _, H1, rfl, I2, turn_enumT a _ _ (Nat.ne_of_lt la) (Nat.ne_of_lt (Nat.lt_succ_of_lt la)), ⟨⟨.none, he⟩, ⟨_, hit, rfl, rfl⟩, Nat.succ_ne_self _⟩, fun b hb => ?_, q⟩
    have hle : s1.heap.objs.size ≤ b := by
      rcases (by simpa using hb : b = s1.heap.objs.size + 1 ∨ b = s1.heap.objs.size) with rfl | rfl <;> omega
    exact I1.fpOk hle (I1.hok.fresh hle)
section
variable {X : Cx} {K : PySem.W.Frag} {mg : Glob} {Γ : Ent} {W : WX} {tg e a b : Expr} {m ma mb : EDen} {ms : ADen} {pos p : Pos}
theorem itG_enumT {F : Hp} {ds : List D} {vs : List V} {a : Addr} (hs : ∀ F1 L1 H1 st1, Ex F F1 → Sto K mg F1 L1 H1 st1 → SqT K H1 a vs) (r : RepL K mg F ds vs) : ItG K mg (IteT K a) (numbered ds) F := fun F1 L1 H1 st1 x o => by
  have h := hs F1 L1 H1 st1 x o
  have hl : (numbered ds).length = ds.length := by unfold numbered; rw [List.length_map, List.length_range]
  refine ⟨⟨vs, h, by rw [hl, r.length]; exact Nat.le_refl _⟩, fun i d e => ?_⟩
  obtain ⟨y, ey, rfl⟩ := numbered_get e
  obtain ⟨v, e1, e2⟩ := r.get ey
  refine ⟨⟨vs, v, h, e1⟩, fun z H2 w => ?_⟩
  obtain ⟨T, x', rfl, nT, rfl, q⟩ := w
  have := q vs h
  rw [e1] at this; cases this
  obtain ⟨s2, o2⟩ := o.lay (o := .tup [.int (i : Nat), v]) nT
  exact ⟨_, s2, o2, T, _, rfl, .inl (.inl upd_same), _, _, rfl, rfl, _, _, rfl, Rep.mono s2.ex _ (Rep.mono x _ e2), rfl⟩
/-- enumerate of a list, a tuple -/
def lEnumU (ms : ADen) : LDen := fun ρ st => (ms ρ st).bind fun ds st1 => match ds with
  | [.lst xs] => .ok (numbered xs) st1
  | [.tup xs] => .ok (numbered xs) st1
  | _ => .bad
theorem i_enumU {elts : List Expr} {kk : Nat} {tpos : Pos} (hK : X.K = K) (hm : X.mg "enumerate" = none) (ha : PA X [e] (taG K mg Γ W ms)) (hg : Gl X "enumerate" := by rfl) (hs : starEach [e] X.env = [(false, eval e X.env)] := by rfl) :
    PI X (.Tuple elts kk tpos) (.Call (.Name "enumerate" p) [e] [] pos) (tiG K mg Γ W (lEnumU ms)) := by
  refine pi_imp (pi_or (pi_enum hg hm ha hs) (pi_enumT hg hm ha hs)) fun σ H R z => ?_
  obtain ⟨F, L, ρ, st, rl, q⟩ := z
  have q := q.bind
  cases hd : ms ρ st with
  | bad => rw [hd] at q; exact q.elim
  | exc c fs st' =>
    refine .inl ⟨F, L, ρ, st, rl, ?_⟩
    rw [hd] at q ⊢
    exact q
  | ok ds st' =>
    rw [hd] at q
    by_cases hl : ∃ xs, ds = [.lst xs]
    · obtain ⟨xs, rfl⟩ := hl
      refine .inl ⟨F, L, ρ, st, rl, ?_⟩
      rw [hd]
      intro F1 L1 H1 s o vs kvs
      have q1 := q F1 L1 H1 s o
      obtain ⟨v, r, rfl, kv, rr⟩ := kvs
      cases (show r = [] from rr)
      rcases kv with ⟨_, _, e, _⟩ | ⟨a, vs, rfl, h1, h2⟩
      · cases e
      · rw [hK]
        exact ⟨a, vs, rfl, .inl (.inl (o.ex.lst h1)), q1.here o _ (itG_enum (fun F1 L1 H1 st1 x o1 => .inl (.inl (o1.ex.lst (x _ _ h1)))) h2)⟩
    · refine .inr ⟨F, L, ρ, st, rl, ?_⟩
      rw [hd]
      intro F1 L1 H1 s o vs kvs
      have q1 := q F1 L1 H1 s o
      dsimp only at q1
      split at q1
      · exact absurd ⟨_, rfl⟩ hl
      · obtain ⟨v, r, rfl, kv, rr⟩ := kvs
        cases (show r = [] from rr)
        rcases kv with ⟨_, _, e, _⟩ | ⟨a, vs, rfl, h1, h2⟩
        · cases e
        · rw [hK]
          exact ⟨a, vs, rfl, o.ex.t h1, q1.here o _ (itG_enumT (fun F1 L1 H1 st1 x o1 => o1.ex.t (ex_t x h1)) h2)⟩
      · exact q1.elim
end
end Gh
/-! Gh12: isinstance; instances with an own __bool__, an own __eq__. -/
namespace Gh
open L2 PyProof.Rows PySem.Spec PySem
/-! ### isinstance -/
/-- what isinstance asks of a class of the text -/
structure InsTy (K : PySem.W.Frag) (C : Addr) : Prop where
  cl : Cls K C
  ha : PySem.W.findIn K (.ref C) "__class__" = some (some (.builtin "object.__class__"))
  hn : PySem.W.specialIn K (.builtin "object.__class__") "__get__" = some (some (.builtin "getset_descriptor.__get__"))
  htk : PySem.W.takesIn K (.builtin "object.__class__") = some true
  hm : PySem.W.mroIn K C (.type "object") = some true
inductive Ty where
  | blt (n : String) | own (c : Str)
def tyD (st : Store) : D → Option Ty
  | .non => some (.blt "NoneType")
  | .bl _ => some (.blt "bool")
  | .int _ => some (.blt "int")
  | .str _ => some (.blt "str")
  | .tup _ => some (.blt "tuple")
  | .lst _ => some (.blt "list")
  | .scr _ => some (.blt "list")
  | .dct _ => some (.blt "dict")
  | .ins c _ => some (.own c)
  | .loc n => (match st[n]? with
    | some (.ins c _) => some (.own c)
    | _ => none)
def blts : List String := ["NoneType", "bool", "int", "str", "tuple", "list", "dict"]
/-- is a value of the built-in type n one of the types bs -/
def tyIs (n : String) (bs : List String) : Bool := bs.any fun b => n == b || (n == "bool" && b == "int")
def isiT (bs : List String) (yes no : List Str) : Ty → Option Bool
  | .blt n => some (tyIs n bs)
  | .own c => if c ∈ yes then some true else if c ∈ no then some false else none
def gIsi (bs : List String) (yes no : List Str) : Op1 := fun d st => match tyD st d with
  | some t => (match isiT bs yes no t with
    | some b => .ok (.bl b) st
    | none => .bad)
  | none => .bad
structure IsiOk (K : PySem.W.Frag) (mg : Glob) (kit : Value → Option Bool) (bs : List String) (yes no : List Str) : Prop where
  b : ∀ n ∈ blts, kit (.type n) = some (tyIs n bs)
  y : ∀ c ∈ yes, ∀ C, mg c = some (.ref C) → InsTy K C ∧ kit (.ref C) = some true
  n : ∀ c ∈ no, ∀ C, mg c = some (.ref C) → InsTy K C ∧ kit (.ref C) = some false
section
variable {X : Cx} {K : PySem.W.Frag} {mg : Glob} {Γ : Ent} {W : WX} {e a b : Expr} {es : List Expr} {m ma mb : EDen} {ms : ADen} {pos p p2 p3 : Pos}
theorem ty_rd {H : Hp} {a : Addr} {kv : List (Key × V)} (h : Rd H a (.dK kv)) : TyX K H (.ref a) (.type "dict") := by
  rcases h with h | ⟨o, h⟩
  · exact .base (.dK h)
  · exact .fDict h
theorem ty_l {H : Hp} {a : Addr} {vs : List V} (h : SqL K H a vs) : TyX K H (.ref a) (.type "list") := by
  rcases h with h | ⟨o, its, n, hk, hc, _⟩
  · rcases h with h | ⟨o, h⟩
    · exact .base (.lst h)
    · exact .base (.frz h)
  · exact .kList hk hc
theorem ty_t {H : Hp} {a : Addr} {vs : List V} (h : SqT K H a vs) : TyX K H (.ref a) (.type "tuple") := by
  rcases h with h | ⟨o, its, n, hk, hc, _⟩
  · rcases h with h | ⟨o, h⟩
    · exact .base (.tup h)
    · exact .fTuple h
  · exact .kTuple hk hc
theorem ty_of {kit : Value → Option Bool} {bs : List String} {yes no : List Str} (A : IsiOk K mg kit bs yes no) {F H H0 : Hp} {L : List Addr} {σ : St} {ρ : REnv} {st : Store} {d : D} {v : V} {t : Ty} {r : Bool} (rl : Rl K mg Γ F L σ H ρ st) (kv : kR K mg σ H0 ρ F L H d v)
    (ht : tyD st d = some t) (hr : isiT bs yes no t = some r) : ∃ u, TyX K H v u ∧ kit u = some r := by
  have own : ∀ c fs, (∃ a C dx fv, v = .ref a ∧ mg c = some (.ref C) ∧ H a = some (.ins C dx fv) ∧ RepF K mg F fs fv) → t = .own c → ∃ u, TyX K H v u ∧ kit u = some r := by
    rintro c fs ⟨a, C, dx, fv, rfl, h1, h2, _⟩ rfl
    replace hr : (if c ∈ yes then some true else if c ∈ no then some false else none) = some r := hr
    split at hr
    · rename_i hy
      cases hr
      obtain ⟨i, k⟩ := A.y c hy C h1
      exact ⟨_, .base (.ins h2 i.cl i.ha i.hn i.htk i.hm), k⟩
    · split at hr
      · rename_i hy
        cases hr
        obtain ⟨i, k⟩ := A.n c hy C h1
        exact ⟨_, .base (.ins h2 i.cl i.ha i.hn i.htk i.hm), k⟩
      · cases hr
  cases d with
  | non => cases ht; cases hr; cases kv.non rl; exact ⟨_, .base .non, A.b _ (by decide)⟩
  | bl x => cases ht; cases hr; cases kv.bl rl; exact ⟨_, .base (.bl _), A.b _ (by decide)⟩
  | int x => cases ht; cases hr; cases kv.int rl; exact ⟨_, .base (.int _), A.b _ (by decide)⟩
  | str x => cases ht; cases hr; cases kv.str rl; exact ⟨_, .base (.str _), A.b _ (by decide)⟩
  | tup ds => cases ht; cases hr; obtain ⟨a, vs, rfl, h, _⟩ := kv.tup rl; exact ⟨_, ty_t h, A.b _ (by decide)⟩
  | lst ds => cases ht; cases hr; obtain ⟨a, vs, rfl, h, _⟩ := kv.lst rl; exact ⟨_, .base (.lst h), A.b _ (by decide)⟩
  | scr ds => cases ht; cases hr; obtain ⟨a, vs, rfl, h, _⟩ := kv.scr rl; exact ⟨_, ty_l h, A.b _ (by decide)⟩
  | dct ds => cases ht; cases hr; obtain ⟨a, vs, rfl, h, _⟩ := kv.dct rl; exact ⟨_, ty_rd h, A.b _ (by decide)⟩
  | ins c fs =>
    cases ht
    refine own c fs ?_ rfl
    rcases kv with kv | ⟨i, h1, h2⟩
    · exact inst_at rl.sto kv (.inl rfl)
    · obtain ⟨a, g1, _, _, _, C, dx, fv, g2, g3, g4⟩ := rl.so i _ h1
      rw [g1] at h2; cases h2
      exact ⟨a, C, dx, fv, rfl, g2, g3, g4⟩
  | loc n =>
    have ht : (match st[n]? with
      | some (.ins c _) => some (.own c)
      | _ => none) = some t := ht
    split at ht
    · rename_i c fs e
      cases ht
      refine own c fs ?_ rfl
      rcases kv with kv | ⟨i, h1, h2⟩
      · exact inst_at rl.sto kv (.inr ⟨n, rfl, e⟩)
      · obtain ⟨_, _, _, _, _, hs⟩ := rl.so i _ h1
        exact hs.elim
    · cases ht
theorem isi_go {kit : Value → Option Bool} {bs : List String} {yes no : List Str} (A : IsiOk K mg kit bs yes no) {σ : St} {H : Hp} {Q : VK} (h : teV K mg Γ W (e1 (gIsi bs yes no) m) σ H Q) : teR K mg Γ W m σ H fun v H1 => ∃ u r, TyX K H1 v u ∧ kit u = some r ∧ Q (.bl r) H1 := by
  obtain ⟨F, L, ρ, st, rl, q⟩ := h
  refine ⟨F, L, ρ, st, rl, q.bind.imp fun F1 L1 H1 st1 d s o q1 v kv => ?_⟩
  unfold gIsi at q1
  split at q1
  · rename_i t ht
    split at q1
    · rename_i r hr
      obtain ⟨u, z1, z2⟩ := ty_of A (rl.step s o) kv ht hr
      exact ⟨u, r, z1, z2, q1.here o _ (.inr rfl)⟩
    · exact q1.elim
  · exact q1.elim
/-- isinstance(e, c), c one class -/
theorem g_isi {c : V} {u : Value} {bs : List String} {yes no : List Str} (hK : X.K = K) (k : ClsV c u) (A : IsiOk K mg (fun t => PySem.W.kitOne K t u) bs yes no) (hm : X.mg "isinstance" = none) (ha : PE X a (teR K mg Γ W m)) (hc : PE X b (tC c)) (hg : Gl X "isinstance" := by rfl)
    (he : starEach [a, b] X.env = (false, eval a X.env) :: starEach [b] X.env := by rfl) (hs2 : starEach [b] X.env = (false, eval b X.env) :: starEach [] X.env := by rfl) (hpl : (backTo pos (starEach [b] X.env)).any (·.1) = false := by rfl) :
    PE X (.Call (.Name "isinstance" p) [a, b] [] pos) (teV K mg Γ W (e1 (gIsi bs yes no) m)) := by
  refine pe_imp (pe_callB (call_isi (X := X)) hg hm boot_isinstance (pa_cons ha (pa_cons hc pa_nil hs2) he) (by decide) (by decide) he hpl) fun σ H Q h => ?_
  obtain ⟨F, L, ρ, st, rl, q⟩ := isi_go A h
  refine ⟨F, L, ρ, st, rl, q.imp fun F1 L1 H1 st1 d s o q1 v kv => ?_⟩
  obtain ⟨t, r, z1, z2, z3⟩ := q1 v kv
  exact ⟨v, c, t, u, r, rfl, k, by rw [hK]; exact z1, by rw [hK]; exact z2, z3⟩
/-- isinstance(e, (c1, c2)) -/
theorem g_isi2 {c1 c2 : V} {u1 u2 : Value} {b1 b2 : Expr} {kk : Nat} {bs : List String} {yes no : List Str} (hK : X.K = K) (k1 : ClsV c1 u1) (k2 : ClsV c2 u2) (A : IsiOk K mg (fun t => PySem.W.kitAny K t [u1, u2]) bs yes no) (hm : X.mg "isinstance" = none) (ha : PE X a (teR K mg Γ W m)) (hc1 : PE X b1 (tC c1)) (hc2 : PE X b2 (tC c2)) (hg : Gl X "isinstance" := by rfl)
    (he : starEach [a, .Tuple [b1, b2] kk p2] X.env = (false, eval a X.env) :: starEach [.Tuple [b1, b2] kk p2] X.env := by rfl) (hs2 : starEach [.Tuple [b1, b2] kk p2] X.env = (false, eval (.Tuple [b1, b2] kk p2) X.env) :: starEach [] X.env := by rfl) (hpl : (backTo pos (starEach [.Tuple [b1, b2] kk p2] X.env)).any (·.1) = false := by rfl)
    (hs3 : starEach [b1, b2] X.env = (false, eval b1 X.env) :: starEach [b2] X.env := by rfl) (hs4 : starEach [b2] X.env = (false, eval b2 X.env) :: starEach [] X.env := by rfl) :
    PE X (.Call (.Name "isinstance" p) [a, .Tuple [b1, b2] kk p2] [] pos) (teV K mg Γ W (e1 (gIsi bs yes no) m)) := by
  refine pe_imp (pe_callB (call_isiT (X := X)) hg hm boot_isinstance (pa_cons ha (pa_cons (pe_tup (pa_cons hc1 (pa_cons hc2 pa_nil hs4) hs3)) pa_nil hs2) he) (by decide) (by decide) he hpl) fun σ H Q h => ?_
  obtain ⟨F, L, ρ, st, rl, q⟩ := h
  refine ⟨F, L, ρ, st, rl, q.bind.imp fun F1 L1 H1 st1 d s o q1 v kv => ?_⟩
  refine ⟨by show 2 ≤ sizeLine; decide, fun tp ntp => ?_⟩
  unfold gIsi at q1
  split at q1
  · rename_i t ht
    split at q1
    · rename_i r hr
      obtain ⟨s2, o2⟩ := o.lay (o := .tup [c1, c2]) ntp
      have rl2 := (rl.step s o).step s2 o2
      obtain ⟨u, z1, z2⟩ := ty_of A rl2 (kR.step kv s2 (H0' := H1)) ht hr
      exact ⟨v, tp, [c1, c2], u, [u1, u2], r, rfl, upd_same, .cons k1 (.cons k2 .nil), by rw [hK]; exact z1, by rw [hK]; exact z2, q1 _ _ _ s2 o2 _ (.inr rfl)⟩
    · exact q1.elim
  · exact q1.elim
end
/-! ### own __bool__, own __eq__ -/
/-- the classes that cf knows have the def nm, and it promises what cf tells -/
def OwnM (X : Cx) (mg : Glob) (kk : Nat) (nm : Str) (cf : Str → Option CallF) : Prop := ∀ c g C, cf c = some g → mg c = some (.ref C) →
  ∃ f fd ps, PySem.W.findIn X.K (.ref C) nm = some (some (.ref f)) ∧ PySem.W.isFn X.K (.ref f) = true ∧ FnOk X.prog X.w X.K X.mg X.base (L2.CX X.prog X.w) kk f fd ps (spG X.K mg g) ∧ Binds X.K fd ps []
theorem run_at {X : Cx} {A : Around} {kk : Nat} {f : Addr} {fd : FuncData} {ps : List Str} {sp : Sp} {E : XK} {pins : List (Addr × Obj)} {σ : St} {H : Hp} {s : Shared} {Q : VK} {us : List Value} {vs : List V} (F : FnOk X.prog X.w X.K X.mg X.base (L2.CX X.prog X.w) kk f fd ps sp) (hr : Room kk A) (hb : Binds X.K fd ps []) (hx : PassesAt (L2.CX X.prog X.w) X σ E)
    (e0 : Env0 X.prog X.w X.K X.mg X.base A X.stack s H) (I : Inv X pins σ H s) (r : Vals vs us) (h : sp vs H Q E) : wpAny (model X.prog X.w) A (call (.ref f) us) (EP X pins σ Q) X.xe s := by
  have hl : us.length = ps.length := by
    rw [← r.length]
    exact F.len _ _ _ _ h
  have b := hb s us I.kIn (by simpa using hl)
  simp only [List.append_nil] at b
  refine wpAny_call (codeAny_mono (F.run A X.stack s H ⟨us, []⟩ us vs Q E hr e0 b r h) fun z s' hq => ?_)
  match z, hq with
  | .error e, hq => exact hx pins H s e s' I hq
  | .ok (.ret u), hq => exact I.after hq
section
variable {X : Cx} {K : PySem.W.Frag} {mg : Glob} {Γ : Ent} {W : WX} {e a b : Expr} {es : List Expr} {m ma mb : EDen} {ms : ADen} {pos p : Pos} {kk : Nat} {cf : Str → Option CallF}
/-- x's def of the class is asked; its answer is a truth value -/
def askB (cf : Str → Option CallF) (args : List D) (d : D) (st : Store) : RC Bool := match instOf st d with
  | some (c, _) => (match cf c with
    | some g => (noX (g (d :: args) st)).bind fun r st2 => match r with
      | .bl b => .ok b st2
      | _ => .bad
    | none => .bad)
  | none => .bad
def tOwn (cf : Str → Option CallF) (m : EDen) : TDen := fun ρ st => (m ρ st).bind fun d st1 => askB cf [] d st1
def eOwn (cf : Str → Option CallF) (m : EDen) : EDen := fun ρ st => (m ρ st).bind fun d st1 => (askB cf [] d st1).bind fun b st2 => .ok (.bl b) st2
/-- what is asked of the heap and of what follows -/
def rAsk (X : Cx) (kk : Nat) (nm : Str) (args : List V) : V → Hp → (Bool → Hp → Prop) → Prop := fun x H Q => ∃ a C dx fs f fd ps sp, x = .ref a ∧ H a = some (.ins C dx fs) ∧ PySem.W.findIn X.K (.ref C) nm = some (some (.ref f)) ∧ PySem.W.isFn X.K (.ref f) = true ∧
  FnOk X.prog X.w X.K X.mg X.base (L2.CX X.prog X.w) kk f fd ps sp ∧ Binds X.K fd ps [] ∧ sp (x :: args) H (fun v H' => ∃ b, v = .bl b ∧ Q b H') (fun _ _ _ => False)
theorem no_pass {X : Cx} {σ : St} (tk : Takes X W0) : PassesAt (L2.CX X.prog X.w) X σ (fun _ _ _ => False) := passAt tk σ
theorem truR_own (hr : Room kk X.A) (tk : Takes X W0) : TruR X (rAsk X kk "__bool__" []) := by
  rintro pins s σ H x v Q I rx ⟨a, C, dx, fs, f, fd, ps, sp, rfl, ha, hf, hi, F, hb, q⟩
  cases rx
  obtain ⟨mA, J, _⟩ := ins_get I.hok ha
  obtain ⟨od, J, _⟩ := J.look
  obtain ⟨m, hF⟩ := I.fr
  refine PySem.W.truthy_K hF I.ok.mod.kin J hf hi (wpAny_mono (run_at (us := [.ref a]) (vs := [.ref a]) F hr hb (no_pass (σ := σ) tk) I.env0 I (.cons rfl .nil) q) (fun r s' z => ?_) fun _ _ y => y)
  obtain ⟨v, H', I', rz, b, rfl, q'⟩ := z
  cases rz
  exact ⟨H', I', q'⟩
theorem ask_go {nm : Str} (hK : X.K = K) (A : OwnM X mg kk nm cf) {F H : Hp} {L : List Addr} {σ : St} {st : Store} {d : D} {v : V} {ds : List D} {vs : List V} {Q : Bool → Hp → Prop} (o : Sto K mg F L H st) (kv : VRep K mg L F d v) (kvs : VRepL K mg L F ds vs)
    (h : Post K mg W σ F L H (askB cf ds d st) fun F' L' H' _ b => Q b H') : rAsk X kk nm vs v H Q := by
  subst hK
  unfold askB at h
  split at h
  · rename_i c fs e
    split at h
    · rename_i g hg
      obtain ⟨a, C, dx, fv, rfl, h1, h2, h3⟩ := inst_at o kv (instOf_at e)
      obtain ⟨f, fd, ps, z1, z2, z3, z4⟩ := A c g C hg h1
      refine ⟨a, C, dx, fv, f, fd, ps, spG X.K mg g, rfl, h2, z1, z2, z3, z4, F, L, d :: ds, st, o, ⟨_, vs, rfl, kv, kvs⟩, ?_⟩
      refine Post.imp (ok' := fun F' L' H' _ d => ∀ w, VRep X.K mg L' F' d w → ∃ b, w = .bl b ∧ Q b H') (h.bind.noX (σ' := [])) (fun F' L' H' st' r s2 o2 z w kw => ?_)
      split at z
      · cases kw.bl
        exact ⟨_, rfl, z.here o2⟩
      · exact z.elim
    · exact h.elim
  · exact h.elim
theorem g_trOwn (hK : X.K = K) (A : OwnM X mg kk "__bool__" cf) (hr : Room kk X.A) (tk : Takes X W0) (h : PE X a (teV K mg Γ W m)) (he : ∀ whole, isTrue a X.env whole = (do let v ← whole; standAt a.pos; holding [v] (truthy v)) := by intro _; rfl) : PT X a (ttG K mg Γ W (tOwn cf m)) := by
  refine pt_imp (pt_truthR h (truR_own hr tk) he) fun σ H Q ⟨F, L, ρ, st, rl, p⟩ => ⟨F, L, ρ, st, rl, p.bind.imp fun F1 L1 H1 st1 d s o p1 v kv => ?_⟩
  exact ask_go (vs := []) (ds := []) hK A o kv rfl p1
/-- == by an own __eq__ -/
def gOwnEq (cf : Str → Option CallF) : Op2 := fun x y st => (askB cf [y] x st).bind fun b st2 => .ok (.bl b) st2
/-- no class of the right ones is a subclass of a left one with another def -/
def NotF (X : Cx) (mg : Glob) (cf : Str → Option CallF) (cs : List Str) : Prop := ∀ c g C, cf c = some g → mg c = some (.ref C) → ∀ c' ∈ cs, ∀ C', mg c' = some (.ref C') → PySem.W.notFirst X.K C (.ref C') = true
def insIn (cs : List Str) (st : Store) (d : D) : Bool := match instOf st d with
  | some (c, _) => decide (c ∈ cs)
  | none => false
/-- .. the right one an instance of a class of cs -/
def gEqI (cf : Str → Option CallF) (cs : List Str) : Op2 := fun x y st => if insIn cs st y = true then gOwnEq cf x y st else .bad
def rEqI (X : Cx) (kk : Nat) : R2 := fun x y H Q => rAsk X kk "__eq__" [y] x H (fun b H' => Q (.bl b) H') ∧ ∃ a b C dx fs C' dx' fs', x = .ref a ∧ y = .ref b ∧ H a = some (.ins C dx fs) ∧ H b = some (.ins C' dx' fs') ∧ PySem.W.notFirst X.K C (.ref C') = true
theorem op_eqI (hr : Room kk X.A) (tk : Takes X W0) : OpR X (compareOp .Eq) (rEqI X kk) := by
  rintro pins s σ H x y v u Q I rx ry ⟨⟨a, C, dx, fs, f, fd, ps, sp, rfl, ha, hf, hi, F, hb, q⟩, a', b', C2, dx2, fs2, C3, dx3, fs3, e1, rfl, hA, hB, nf⟩
  cases e1
  rw [ha] at hA; cases hA
  cases rx
  cases ry
  obtain ⟨mA, J, _⟩ := ins_get I.hok ha
  obtain ⟨mB, J', _⟩ := ins_get I.hok hB
  obtain ⟨od, J, _⟩ := J.look
  obtain ⟨od', J', _⟩ := J'.look
  obtain ⟨m, hF⟩ := I.fr
  refine PySem.W.cmp_K (op := .Eq) (tb := .ref C3) hr.units0 hF I.ok.mod.kin J J'.type nf hf hi (wpAny_mono (run_at (us := [.ref a, .ref b']) (vs := [.ref a, .ref b']) F hr hb (no_pass (σ := σ) tk) I.env0 I (.cons rfl (.cons rfl .nil)) q) (fun r s' z => ?_) fun _ _ y => y)
  obtain ⟨v, H', I', rz, b, rfl, q'⟩ := z
  cases rz
  exact ⟨.bl b, H', I', rfl, q'⟩
theorem g_eqI {cs : List Str} (hK : X.K = K) (A : OwnM X mg kk "__eq__" cf) (nf : NotF X mg cf cs) (hr : Room kk X.A) (tk : Takes X W0) (ha : PE X a (teV K mg Γ W ma)) (hb : PE X b (teV K mg Γ W mb)) (hm : behindInMarks .Eq b = false := by rfl) :
    PE X (.Compare a [.Eq] [b] pos) (teV K mg Γ W (e2 (gEqI cf cs) ma mb)) := by
  refine pe_imp (pe_cmpR (op_eqI hr tk) ha hb hm) fun σ H Q ⟨F, L, ρ, st, rl, q⟩ => ⟨F, L, ρ, st, rl, q.bind.imp fun F1 L1 H1 st1 d s o q1 v kv => ⟨F1, L1, ρ, st1, rl.step s o, q1.bind.imp fun F2 L2 H2 st2 y s2 o2 q2 u ku => ?_⟩⟩
  unfold gEqI at q2
  split at q2
  · rename_i hin
    unfold insIn at hin
    split at hin
    · rename_i c fs ey
      have kx := s2.vrep kv
      have q3 : Post K mg W σ F2 L2 H2 (askB cf [y] d st2) (fun F' L' H' _ b => Q (.bl b) H') := Post.imp (Post.bind (f := fun b st2 => RC.ok (D.bl b) st2) q2) fun F' L' H' st' r s3 o3 z => z.here o3 _ (.inr rfl)
      refine ⟨ask_go (ds := [y]) (vs := [u]) hK A o2 kx ⟨u, [], rfl, ku, rfl⟩ q3, ?_⟩
      obtain ⟨b, C', dx', fv', rfl, g1, g2, g3⟩ := inst_at o2 ku (instOf_at ey)
      unfold askB at q3
      split at q3
      · rename_i c1 fs1 e1
        split at q3
        · rename_i g hg
          obtain ⟨a, C, dx, fv, rfl, h1, h2, h3⟩ := inst_at o2 kx (instOf_at e1)
          exact ⟨a, b, C, dx, fv, C', dx', fv', rfl, rfl, h2, g2, nf c1 g C hg h1 c (by simpa using hin) C' g1⟩
        · exact q3.elim
      · exact q3.elim
    · cases hin
  · exact q2.elim
/-! bool(x), x an instance with an own __bool__ -/
theorem bool_at {prog : Program} {w : World} {A : Around} {E : Value → Shared → Prop} {s : Shared} {x : Value} {Q : Bool → Shared → Prop}
    (h : wpAny (model prog w) A.in1.in1 (truthy x) Q E s) : wpAny (model prog w) A (call (.type "bool") [x]) (fun r s' => ∃ b, r = .bool b ∧ Q b s') E s := by
  refine callType_codes (T := "bool") (Bi := Builtin.«object.__init__») (Q₁ := fun r s₁ => ∃ b, r = Value.bool b ∧ Q b s₁) PySem.F.called_bool (PySem.F.typeCall_bool_1 _) PySem.F.entry_object_init ?_ ?_
  · refine codeAny_of_tree ?_
    show wpAny _ A.in1.in1 (do checkBuiltinCall "bool.__new__" ⟨[.type "bool", x], []⟩; again (.builtin "bool.__new__" ⟨[.type "bool", x], []⟩)) _ _ s
    refine wpAny_bind (wpAny_of_eq (PySem.F.newCall_bool_1 _) (wpAny_pure ⟨plainId_quiet (by decide +kernel) _, codeAny_builtin PySem.F.entry_bool_new ?_⟩))
    rw [Around.under_plainId (by decide +kernel) _]
    unfold Builtin.«bool.__new__»
    refine wpAny_bind (wpAny_of_eq (a := true) (by first | rfl | kernel_rfl) ?_)
    refine PySem.W.KFB.if_not rfl ?_
    refine wpAny_bind (wpAny_of_eq (a := true) PySem.F.conv_sub_bool ?_)
    refine PySem.W.KFB.if_not rfl ?_
    refine wpAny_bind (m := someArgs "bool" 0 1 _) (wpAny_of_eq (a := [x]) (by first | rfl | kernel_rfl) ?_)
    exact wpAny_bind (wpAny_mono h (fun b s' q => wpAny_pure ⟨b, rfl, q⟩) fun _ _ y => y)
  · rintro obj s₁ ⟨b, rfl, hq⟩
    exact ⟨rfl, PySem.F.args_object_init_2 _ _, object_init_meets PySem.F.called_bool.init.lookup PySem.F.called_bool.made (by decide) prog w A.in1 _ s₁ ⟨rfl, rfl, b, rfl, hq⟩⟩
theorem call_boolOwn (hr : Room (kk + 2) X.A) (tk : Takes X W0) : CallR X (.type "bool") (fun xs H Q => ∃ x, xs = [x] ∧ rAsk X kk "__bool__" [] x H (fun b H' => Q (.bl b) H')) := by
  rintro pins s σ H xs us Q I r ⟨x, rfl, a, C, dx, fs, f, fd, ps, sp, rfl, ha, hf, hi, F, hb, q⟩
  obtain ⟨u, rfl, ru⟩ := vals1 r
  cases ru
  obtain ⟨mA, J, _⟩ := ins_get I.hok ha
  obtain ⟨od, J, _⟩ := J.look
  obtain ⟨m, hF⟩ := I.fr
  have hr2 : Room kk X.A.in1.in1 := (show Room (kk + 1) X.A.in1 from Room.in1 hr).in1
  have z := PySem.W.truthy_K (M := model X.prog X.w) (A := X.A.in1.in1) (E := X.xe) (Q := fun b s' => ∃ H', Inv X pins σ H' s' ∧ Q (.bl b) H') hF I.ok.mod.kin J hf hi (wpAny_mono (run_at (us := [.ref a]) (vs := [.ref a]) F hr2 hb (no_pass (σ := σ) tk) I.env0.in1.in1 I (.cons rfl .nil) q) (fun r s' z => by
    obtain ⟨v, H', I', rz, b, rfl, q'⟩ := z
    cases rz
    exact ⟨H', I', q'⟩) fun _ _ y => y)
  refine wpAny_mono (bool_at z) (fun r s' z => ?_) fun _ _ y => y
  obtain ⟨b, rfl, H', I', q'⟩ := z
  exact ⟨.bl b, H', I', rfl, q'⟩
theorem g_boolOwn (hK : X.K = K) (A : OwnM X mg kk "__bool__" cf) (hr : Room (kk + 2) X.A) (tk : Takes X W0) (hm : X.mg "bool" = none) (h : PE X a (teV K mg Γ W m)) (hg : Gl X "bool" := by rfl) (he : starEach [a] X.env = (false, eval a X.env) :: starEach [] X.env := by rfl) (hpl : (backTo pos (starEach [] X.env)).any (·.1) = false := by rfl) :
    PE X (.Call (.Name "bool" p) [a] [] pos) (teV K mg Γ W (eOwn cf m)) := by
  refine pe_imp (pe_callTy (call_boolOwn hr tk) hg hm (by decide +kernel) (pa_cons h pa_nil he) (by decide) (by decide) he hpl) fun σ H Q ⟨F, L, ρ, st, rl, p⟩ => ⟨F, L, ρ, st, rl, p.bind.imp fun F1 L1 H1 st1 d s o p1 v kv => ?_⟩
  exact ⟨v, rfl, ask_go (vs := []) (ds := []) hK A o kv rfl (Post.imp (Post.bind (f := fun b st2 => RC.ok (D.bl b) st2) p1) fun F' L' H' st' r s3 o3 z => z.here o3 _ (.inr rfl))⟩
end
end Gh
/-! Gh13: truth values compared; lists of the store; several targets. -/
namespace Gh
open L2 PyProof.Rows PySem.Spec PySem
section
variable {X : Cx} {K : PySem.W.Frag} {mg : Glob} {Γ : Ent} {W : WX} {e a b tg : Expr} {es : List Expr} {m ma mb mo mi me : EDen} {ms : ADen} {pos p p2 tpos : Pos} {k : Kd}
/-! ### numbers and truth values by order -/
def numOf : D → Option Int
  | .int i => some i
  | .bl b => some (if b then 1 else 0)
  | _ => none
def gLtB : Op2 := fun x y st => match x, y with
  | .bl p, .bl q => .ok (.bl (!p && q)) st
  | _, _ => .bad
theorem op_ltB : OpR X (compareOp .Lt) (fun x y H Q => ∃ p q, x = .bl p ∧ y = .bl q ∧ Q (.bl (!p && q)) H) := by
  rintro pins s σ H x y v u Q I rx ry ⟨c, d, rfl, rfl, q⟩
  cases rx
  cases ry
  refine lt_bool ⟨.bl _, H, I, rfl, ?_⟩
  cases c <;> cases d <;> exact q
theorem sem_ltB : Sem2 kV K mg gLtB (fun x y H Q => ∃ p q, x = .bl p ∧ y = .bl q ∧ Q (.bl (!p && q)) H) := by
  intro Γ W F L σ H ρ st x y v u Q rl kx ky q
  unfold gLtB at q
  split at q
  · exact ⟨_, _, kx.bl rl, ky.bl rl, q.here rl.sto _ (.inr rfl)⟩
  · exact q.elim
/-! ### a list laid into the store -/
def eAlloc (m : EDen) : EDen := fun ρ st => (m ρ st).bind fun d st1 => .ok (.loc st1.length) (st1 ++ [d])
theorem Stp.withO {F H F1 H1 : Hp} {L L1 : List Addr} {a : Addr} (s : Stp F L H F1 L1 H1) (n : H a = none) : Stp F L H F1 (L1 ++ [a]) H1 := by
  refine ⟨s.ex, ?_, fun b u h nb => ?_⟩
  · obtain ⟨M, e⟩ := s.pre
    exact ⟨M ++ [a], by rw [e, List.append_assoc]⟩
  · obtain ⟨h1, h2, h3⟩ := s.kp b u h nb
    refine ⟨h1, h2, fun z => ?_⟩
    rcases List.mem_append.mp z with z | z
    · exact h3 z
    · have z : b = a := by simpa using z
      rw [z, n] at h; cases h
theorem g_alloc (h : PE X e (teO K mg Γ W m)) : PE X e (teV K mg Γ W (eAlloc m)) := by
  refine pe_imp h fun σ H Q ⟨F, L, ρ, st, rl, q⟩ => ⟨F, L, ρ, st, rl, ?_⟩
  unfold eAlloc at q
  cases hd : m ρ st with
  | bad => rw [hd] at q; exact q.elim
  | exc c fs st' => rw [hd] at q; exact q
  | ok d st1 =>
    rw [hd] at q
    intro F1 L1 H1 s o v kv
    obtain ⟨a, rfl, n, nF, nL, hs⟩ := kv
    exact q _ _ _ (s.withO n) (o.add hs nF nL) _ (.inl ⟨st1.length, a, rfl, by rw [← o.len]; simp, rfl⟩)
/-- o[i] op= e, o a list of the store -/
def sAugI (mo mi : EDen) (g : Op2) (me : EDen) : SDen := fun ρ st => (mo ρ st).s ρ fun o st1 => (mi ρ st1).s ρ fun i st2 => match o, i with
  | .loc n, .int k => (match st2[n]? with
    | some (.lst ds) => (match atI ds k with
      | some x => if 0 ≤ k ∧ k < 1000000 then (me ρ st2).s ρ fun y st3 => (g x y st3).s ρ fun z st4 => if isLoc z = false then (match st4[n]? with
        | some (.lst es) => (match ixN es.length k with
          | some j => .nx ρ (st4.set n (.lst (es.set j z)))
          | none => .bad)
        | _ => .bad) else .bad else .bad
      | none => .bad)
    | _ => .bad)
  | _, _ => .bad
theorem pget_list : PGet X (fun o i H Q => ∃ p xs k v, o = .ref p ∧ i = .int k ∧ SqL X.K H p xs ∧ 0 ≤ k ∧ k < 1000000 ∧ atI xs k = some v ∧ Q v H) := by
  rintro pins s σ H x y v u Q I rx ry ⟨p, xs, k, z, rfl, rfl, hq, h0, h1, he, q⟩
  cases rx
  obtain ⟨t, rfl⟩ := ry
  obtain ⟨its, r, pl, hz⟩ := I.list hq
  obtain ⟨j, g1, g2, g3, g4, g5⟩ := atI_get he
  obtain ⟨w, ew, rw'⟩ := r.get g2
  have hj : k.toNat = j := by
    rw [seqIndex_of h0 g5] at g1
    exact Option.some.inj g1
  exact wpAny_getItem_list pl.isList h0 (by omega) (by rw [hj]; simpa using ew) ⟨z, H, I, rw', q⟩
theorem s_augI {o i : Expr} {op : Operator} {r : R2} {g : Op2} (hK : X.K = K) (ho : PE X o (teV K mg Γ W mo)) (hi : PE X i (teV K mg Γ W mi)) (he : PE X e (teV K mg Γ W me)) (hop : OpR X (inplaceOp op) r) (hsem : Sem2 kV K mg g r)
    (ha : ∀ ov iv new, augStore i ov iv new = (do holding [new, ov, iv] (setItem ov iv new); release [new, ov, iv] []; pure .next) := by intros; rfl) : PS X (.AugAssign (.Subscript o i tpos) op e pos) (tsG K mg Γ W (sAugI mo mi g me)) := by
  refine ps_imp (ps_augS (tip := r) ho hi pget_list he (fun pins s σ H x y v u Q I r r2 q => hop pins s σ H x y v u Q I r r2 q) set_list ha) fun D' σ H z => ?_
  obtain ⟨F, L, ρ, st, rl, q⟩ := z
  refine ⟨F, L, ρ, st, rl, (SPost.s q rl).imp fun F1 L1 H1 st1 od s1 o1 q1 ov ko => ?_⟩
  have rl1 := rl.step s1 o1
  refine ⟨F1, L1, ρ, st1, rl1, (SPost.s q1 rl1).imp fun F2 L2 H2 st2 idd s2 o2 q2 iv ki => ?_⟩
  have rl2 := rl1.step s2 o2
  split at q2
  · rename_i n k'
    split at q2
    · rename_i ds e
      split at q2
      · rename_i x ex
        obtain ⟨a, hL, rfl⟩ := (s2.vrep ko).loc
        cases ki.int
        obtain ⟨nF, vs, hv, hr⟩ := o2.at_ n a _ hL e
        obtain ⟨xv, exv, hx⟩ := atI_rep hr ex
        split at q2
        · rename_i hk
          refine ⟨a, vs, k', xv, rfl, rfl, .inl (.inl hv), hk.1, hk.2, exv, F2, L2, ρ, st2, rl2, (SPost.s q2 rl2).imp fun F3 L3 H3 st3 y s3 o3 q3 yv ky => ?_⟩
          have rl3 := rl2.step s3 o3
          refine hsem Γ W F3 L3 σ H3 ρ st3 x y xv yv _ rl3 (.inl (.inr (Rep.mono s3.ex _ hx))) (.inl ky) ((SPost.s q3 rl3).imp fun F4 L4 H4 st4 z s4 o4 q4 zv kz => ?_)
          have rl4 := rl3.step s4 o4
          split at q4
          · rename_i hc
            split at q4
            · rename_i es e4
              split at q4
              · rename_i j hj
                have hL4 : L4[n]? = some a := by
                  obtain ⟨M, e1⟩ := (s3.trans s4).pre
                  rw [e1, List.getElem?_append_left (List.getElem?_eq_some_iff.mp hL).1]
                  exact hL
                obtain ⟨nF4, us, hu, hur⟩ := o4.at_ n a _ hL4 e4
                have rz : Rep K mg F4 z zv := VRep.flat kz hc
                refine ⟨a, us, k', j, rfl, rfl, hu, by rw [← hur.length]; exact hj, ?_⟩
                have o5 := o4.put (d := .lst (es.set j z)) (u := .lst (us.set j zv)) hL4 fun H' h => ⟨_, h, hur.set j rz⟩
                exact q4 F4 L4 σ _ (rl4.step (Stp.put (List.mem_of_getElem? hL4)) o5)
              · exact q4.elim
            · exact q4.elim
          · exact q4.elim
        · exact q2.elim
      · exact q2.elim
    · exact q2.elim
  · exact q2.elim
/-! ### several targets at once -/
abbrev MDen := REnv → Store → RC (List (D × Bool))
/-- (d, false): a value; (d, true): a new list, dict of its own -/
def MixL (K : PySem.W.Frag) (mg : Glob) (Hs F : Hp) (L : List Addr) (H : Hp) : List (D × Bool) → List V → Prop
  | [], vs => vs = []
  | (d, false) :: ds, vs => ∃ v r, vs = v :: r ∧ VRep K mg L F d v ∧ MixL K mg Hs F L H ds r
  | (d, true) :: ds, vs => ∃ a r, vs = .ref a :: r ∧ (Hs a = none ∧ F a = none ∧ a ∉ L ∧ Has K mg F H a d) ∧ (∀ (j : Nat) (d' : D), ds[j]? = some (d', true) → r[j]? ≠ some (V.ref a)) ∧ MixL K mg Hs F L H ds r
theorem MixL.len {Hs F H : Hp} {L : List Addr} : ∀ {ds : List (D × Bool)} {vs : List V}, MixL K mg Hs F L H ds vs → ds.length = vs.length
  | [], vs, h => by
    have h : vs = [] := h
    rw [h] <;> rfl
  | (d, false) :: ds, vs, h => by
    obtain ⟨v, r, rfl, _, h3⟩ := h
    rw [List.length_cons, List.length_cons, h3.len]
  | (d, true) :: ds, vs, h => by
    obtain ⟨v, r, rfl, _, _, h3⟩ := h
    rw [List.length_cons, List.length_cons, h3.len]
theorem MixL.late {Hs Hs' F H : Hp} {L : List Addr} (h0 : ∀ a, Hs a ≠ none → Hs' a ≠ none) : ∀ {ds : List (D × Bool)} {vs : List V}, MixL K mg Hs' F L H ds vs → MixL K mg Hs F L H ds vs
  | [], vs, h => h
  | (d, false) :: ds, vs, h => by
    obtain ⟨v, r, rfl, h1, h3⟩ := h
    exact ⟨v, r, rfl, h1, h3.late h0⟩
  | (d, true) :: ds, vs, h => by
    obtain ⟨v, r, rfl, ⟨h1, h2⟩, h4, h3⟩ := h
    exact ⟨v, r, rfl, ⟨Classical.byContradiction fun z => h0 _ z h1, h2⟩, h4, h3.late h0⟩
theorem MixL.fresh {Hs F H : Hp} {L : List Addr} : ∀ {ds : List (D × Bool)} {vs : List V} {j : Nat} {d : D} {a : Addr}, MixL K mg Hs F L H ds vs → ds[j]? = some (d, true) → vs[j]? = some (.ref a) → Hs a = none
  | [], vs, j, d, a, h, e, e' => by simp at e
  | (d, false) :: ds, vs, 0, d', a, h, e, e' => by simp at e
  | (d, true) :: ds, vs, 0, d', a, h, e, e' => by
    obtain ⟨v, r, rfl, ⟨h1, _⟩, _, _⟩ := h
    have e' : v = a := by simpa using e'
    exact e' ▸ h1
  | (d, false) :: ds, vs, j + 1, d', a, h, e, e' => by
    obtain ⟨v, r, rfl, _, h3⟩ := h
    exact h3.fresh (by simpa using e) (by simpa using e')
  | (d, true) :: ds, vs, j + 1, d', a, h, e, e' => by
    obtain ⟨v, r, rfl, _, _, h3⟩ := h
    exact h3.fresh (by simpa using e) (by simpa using e')
theorem MixL.more {Hs F H H' : Hp} {L : List Addr} (x : ∀ a o, H a = some o → H' a = some o) : ∀ {ds : List (D × Bool)} {vs : List V}, MixL K mg Hs F L H ds vs → MixL K mg Hs F L H' ds vs
  | [], vs, h => h
  | (d, false) :: ds, vs, h => by
    obtain ⟨v, r, rfl, h1, h3⟩ := h
    exact ⟨v, r, rfl, h1, h3.more x⟩
  | (d, true) :: ds, vs, h => by
    obtain ⟨v, r, rfl, ⟨h1, h2, h5, h6⟩, h4, h3⟩ := h
    exact ⟨v, r, rfl, ⟨h1, h2, h5, h6.mono (Ex.refl F) (x v)⟩, h4, h3.more x⟩
def tmG (K : PySem.W.Frag) (mg : Glob) (Γ : Ent) (W : WX) (m : MDen) : TA := fun σ H Q => ∃ F L ρ st, Rl K mg Γ F L σ H ρ st ∧
  Post K mg W σ F L H (m ρ st) fun F' L' H' _ ds => ∀ vs, MixL K mg H F' L' H' ds vs → Q vs H'
def mNil : MDen := fun _ st => .ok [] st
def mVal (m : EDen) (ms : MDen) : MDen := fun ρ st => (m ρ st).bind fun d st1 => (ms ρ st1).bind fun ds st2 => .ok ((d, false) :: ds) st2
def mOwn (m : EDen) (ms : MDen) : MDen := fun ρ st => (m ρ st).bind fun d st1 => (ms ρ st1).bind fun ds st2 => .ok ((d, true) :: ds) st2
theorem m_nil : PA X [] (tmG K mg Γ W mNil) := pa_imp pa_nil fun σ H Q ⟨F, L, ρ, st, rl, q⟩ => q.here rl.sto [] rfl
theorem m_val {ms : MDen} (ha : PE X e (teV K mg Γ W m)) (hr : PA X es (tmG K mg Γ W ms)) (hs : starEach (e :: es) X.env = (false, eval e X.env) :: starEach es X.env := by rfl) : PA X (e :: es) (tmG K mg Γ W (mVal m ms)) := by
  refine pa_imp (pa_cons ha hr hs) fun σ H Q ⟨F, L, ρ, st, rl, q⟩ => ⟨F, L, ρ, st, rl, q.bind.imp fun F1 L1 H1 st1 d s o q1 v kv => ?_⟩
  refine ⟨F1, L1, ρ, st1, rl.step s o, q1.bind.imp fun F2 L2 H2 st2 ds s2 o2 q2 vs kvs => ?_⟩
  exact q2.here o2 (v :: vs) ⟨v, vs, rfl, s2.vrep kv, kvs.late (s.more o)⟩
theorem m_own {ms : MDen} (ha : PE X e (teO K mg Γ W m)) (hr : PA X es (tmG K mg Γ W ms)) (hs : starEach (e :: es) X.env = (false, eval e X.env) :: starEach es X.env := by rfl) : PA X (e :: es) (tmG K mg Γ W (mOwn m ms)) := by
  refine pa_imp (pa_cons ha hr hs) fun σ H Q ⟨F, L, ρ, st, rl, q⟩ => ⟨F, L, ρ, st, rl, q.bind.imp fun F1 L1 H1 st1 d s o q1 v kv => ?_⟩
  refine ⟨F1, L1, ρ, st1, rl.step s o, q1.bind.imp fun F2 L2 H2 st2 ds s2 o2 q2 vs kvs => ?_⟩
  obtain ⟨a, rfl, n, nF, nL, hs⟩ := kv
  obtain ⟨u, hu⟩ := hs.there
  obtain ⟨g1, g2, g3⟩ := s2.kp a u hu nL
  refine q2.here o2 (.ref a :: vs) ⟨a, vs, rfl, ⟨n, g2.trans nF, g3, hs.mono s2.ex fun w z => (s2.kp a w z nL).1⟩, fun j d' e1 e2 => ?_, kvs.late (s.more o)⟩
  rw [kvs.fresh e1 e2] at hu; cases hu
def setR (ρ : REnv) : List Nat → List (D × Bool) → REnv
  | i :: is, (d, true) :: ds => setR (ρ.set i (.own d)) is ds
  | i :: is, (d, false) :: ds => setR (ρ.set i (.val d)) is ds
  | _, _ => ρ
def setAll (σ : St) : List Nat → List V → St
  | i :: is, v :: vs => setAll (σ.set i (some v)) is vs
  | _, _ => σ
theorem Rl.setAll {Hs F H : Hp} {L : List Addr} {st : Store} (n0 : ∀ a, Hs a = none → Γ.H0 a = none) : ∀ (is : List Nat) {σ : St} {ρ : REnv} {ds : List (D × Bool)} {vs : List V}, Rl K mg Γ F L σ H ρ st → MixL K mg Hs F L H ds vs →
    (∀ (i : Nat) (d : D) (b : Addr), ρ[i]? = some (Sl.own d) → σ[i]? = some (some (V.ref b)) → ∀ (j : Nat) (d' : D), ds[j]? = some (d', true) → vs[j]? ≠ some (V.ref b)) → Rl K mg Γ F L (Gh.setAll σ is vs) H (setR ρ is ds) st
  | [], σ, ρ, ds, vs, rl, h, ne => by
    have e : setR ρ [] ds = ρ := by cases ds <;> rfl
    have e2 : Gh.setAll σ [] vs = σ := by cases vs <;> rfl
    rw [e, e2]; exact rl
  | i :: is, σ, ρ, [], vs, rl, h, ne => by
    have h : vs = [] := h
    subst h
    exact rl
  | i :: is, σ, ρ, (d, false) :: ds, vs, rl, h, ne => by
    obtain ⟨v, r, rfl, h1, h3⟩ := h
    refine Rl.setAll n0 is (rl.setV i h1) h3 fun k e b k1 k2 j d' j1 => ?_
    rcases set_get k1 with ⟨_, q, _⟩ | ⟨n, q⟩
    · cases q
    · rw [List.getElem?_set_ne (Ne.symm n)] at k2
      have := ne k e b q k2 (j + 1) d' (by simpa using j1)
      simpa using this
  | i :: is, σ, ρ, (d, true) :: ds, vs, rl, h, ne => by
    obtain ⟨a, r, rfl, ⟨h1, h2, h5, h6⟩, h4, h3⟩ := h
    refine Rl.setAll n0 is (rl.setO i h2 h5 (n0 a h1) h6 fun j e q => fun z => ne j e a q z 0 d rfl rfl) h3 fun k e b k1 k2 j d' j1 => ?_
    rcases set_get k1 with ⟨hki, q, hl⟩ | ⟨n, q⟩
    · subst hki
      rw [List.getElem?_set_self (by rw [← rl.len]; exact hl)] at k2
      cases k2
      exact h4 j d' j1
    · rw [List.getElem?_set_ne (Ne.symm n)] at k2
      have := ne k e b q k2 (j + 1) d' (by simpa using j1)
      simpa using this
end
end Gh
/-! Gh14: statements with several targets. -/
namespace Gh
open L2 PyProof.Rows PySem.Spec PySem
section
variable {X : Cx} {K : PySem.W.Frag} {mg : Glob} {Γ : Ent} {W : WX} {e a b c tg : Expr} {es ts : List Expr} {m ma mb mo mi me : EDen} {ms : MDen} {pos p p2 tpos px py pz pt pt2 : Pos} {k : Kd} {kt k2 : Nat} {vs ws : List Nat} {bd : BDen}
def sPar (is : List Nat) (m : MDen) : SDen := fun ρ st => (m ρ st).s ρ fun ds st' => if ds.length = is.length then .nx (setR ρ is ds) st' else .bad
/-- from the outcome of the values to the slots -/
theorem par_go {D' : Ends} {σ : St} {H : Hp} {is : List Nat} (h : tsG K mg Γ W (sPar is ms) D' σ H) : tmG K mg Γ W ms σ H fun vs H1 => vs.length = is.length ∧ (∀ p u, H1 p = none → D'.nx (setAll σ is vs) (upd H1 p u)) ∧ D'.nx (setAll σ is vs) H1 := by
  obtain ⟨F, L, ρ, st, rl, q⟩ := h
  refine ⟨F, L, ρ, st, rl, (SPost.s q rl).imp fun F1 L1 H1 st1 ds s o q1 vs kvs => ?_⟩
  split at q1
  · rename_i hl
    have rl1 := rl.step s o
    have fin : ∀ H2, Rl K mg Γ F1 L1 σ H2 ρ st1 → MixL K mg H F1 L1 H2 ds vs → D'.nx (setAll σ is vs) H2 := fun H2 r2 k2 => by
      refine q1 F1 L1 _ H2 (r2.setAll (Hs := H) (fun a n => rl.new0 n) is k2 fun i d b e1 e2 j d' j1 j2 => ?_)
      obtain ⟨a, g1, _, _, _, hh⟩ := rl.so i d e1
      rw [g1] at e2
      cases e2
      obtain ⟨u, hu⟩ := hh.there
      rw [k2.fresh j1 j2] at hu; cases hu
    refine ⟨by rw [← kvs.len]; exact hl, fun p u np => fin _ (rl1.step (Stp.fresh np) (o.fresh np)) (kvs.more fun a w z => by rw [upd_ne (ne_of_none z np)]; exact z), fin H1 rl1 kvs⟩
  · exact q1.elim
theorem s_par2 {i j : Nat} {x y : Str} (hc : X.calm = true) (hN : X.N.Nodup) (ha : PA X [a, b] (tmG K mg Γ W ms)) (hi : X.N[i]? = some x := by rfl) (hj : X.N[j]? = some y := by rfl) (hij : i ≠ j := by decide) (hx : X.env.scope.names.lookup x = some .local := by rfl) (hy : X.env.scope.names.lookup y = some .local := by rfl)
    (hw : swappedStores [.Tuple [.Name x px, .Name y py] kt pt] (.Tuple [a, b] k2 pt2) X.env = pure (some [x, y]) := by rfl) (hs : swapsWithSole [.Tuple [.Name x px, .Name y py] kt pt] (.Tuple [a, b] k2 pt2) pos.line X.env = pure false := by rfl) :
    PS X (.Assign [.Tuple [.Name x px, .Name y py] kt pt] (.Tuple [a, b] k2 pt2) pos) (tsG K mg Γ W (sPar [i, j] ms)) := by
  refine ps_imp (ps_par hc hN hi hj hij hx hy ha hw hs) fun D' σ H h => ?_
  obtain ⟨F, L, ρ, st, rl, q⟩ := par_go h
  refine ⟨F, L, ρ, st, rl, q.imp fun F1 L1 H1 st1 ds s o q1 vs kvs => ?_⟩
  obtain ⟨hl, _, q2⟩ := q1 vs kvs
  match vs, hl, q2 with
  | [v, u], _, q2 => exact ⟨v, u, rfl, q2⟩
theorem s_par3 {i j l : Nat} {x y z : Str} (hc : X.calm = true) (hN : X.N.Nodup) (ha : PA X [a, b, c] (tmG K mg Γ W ms)) (hi : X.N[i]? = some x := by rfl) (hj : X.N[j]? = some y := by rfl) (hl : X.N[l]? = some z := by rfl) (hij : i ≠ j := by decide) (hil : i ≠ l := by decide) (hjl : j ≠ l := by decide)
    (hx : X.env.scope.names.lookup x = some .local := by rfl) (hy : X.env.scope.names.lookup y = some .local := by rfl) (hz : X.env.scope.names.lookup z = some .local := by rfl)
    (hw : swappedStores [.Tuple [.Name x px, .Name y py, .Name z pz] kt pt] (.Tuple [a, b, c] k2 pt2) X.env = pure (some [x, y, z]) := by rfl) (hs : swapsWithSole [.Tuple [.Name x px, .Name y py, .Name z pz] kt pt] (.Tuple [a, b, c] k2 pt2) pos.line X.env = pure false := by rfl) :
    PS X (.Assign [.Tuple [.Name x px, .Name y py, .Name z pz] kt pt] (.Tuple [a, b, c] k2 pt2) pos) (tsG K mg Γ W (sPar [i, j, l] ms)) := by
  refine ps_imp (ps_par3 hc hN hi hj hl hij hil hjl hx hy hz ha hw hs) fun D' σ H h => ?_
  obtain ⟨F, L, ρ, st, rl, q⟩ := par_go h
  refine ⟨F, L, ρ, st, rl, q.imp fun F1 L1 H1 st1 ds s o q1 vs kvs => ?_⟩
  obtain ⟨hl, _, q2⟩ := q1 vs kvs
  match vs, hl, q2 with
  | [v, u, w], _, q2 => exact ⟨v, u, w, rfl, q2⟩
/-- any number of plain names -/
def gAll' (is : List Nat) : TGs := fun vs σ H Q => vs.length = is.length ∧ Q (setAll σ is vs) H
theorem n_nil : PGs X [] (gAll' []) := pgs_imp pgs_nil fun vs σ H Q ⟨h1, h2⟩ => by
  have e : vs = [] := by simpa using h1
  subst e
  exact ⟨rfl, h2⟩
theorem n_cons {x : Str} {is : List Nat} (i : Nat) (hN : X.N.Nodup) (h2 : PGs X es (gAll' is)) (hi : X.N[i]? = some x := by rfl) (hx : Loc X.env.scope x := by first | exact Or.inl rfl | exact Or.inr rfl) (hf : X.fn x = true ∨ X.env.scope.names.lookup x = some .local := by first | exact .inl rfl | exact .inr rfl | assumption)
    (hs : (assignEach (.Name x pos :: es) X.env).map (·.2) = assign (.Name x pos) X.env :: (assignEach es X.env).map (·.2) := by rfl) : PGs X (.Name x pos :: es) (gAll' (i :: is)) := by
  refine pgs_imp (pgs_cons (pg_name hN hi hx hf) h2 hs) fun vs σ H Q ⟨h1, h3⟩ => ?_
  match vs, h1, h3 with
  | v :: r, h1, h3 => exact ⟨v, r, rfl, by simpa using h1, h3⟩
theorem s_parN {is : List Nat} {x1 : Nat} (hK : X.K = K) (hc : X.calm = true) (ha : PA X es (tmG K mg Γ W ms)) (h : PGs X ts (gAll' is)) (hl9 : is.length < 100) (hn : (assignEach ts X.env).length = is.length := by rfl) (hst : (assignEach ts X.env).findIdx? (·.1) = none := by rfl)
    (hs : swapsWithSole [.Tuple ts kt tpos] (.Tuple es x1 p) pos.line X.env = pure false := by rfl) (hw : swappedStores [.Tuple ts kt tpos] (.Tuple es x1 p) X.env = pure none := by rfl)
    (h1 : (assignEach [.Tuple ts kt tpos] X.env).map (·.2) = [assign (.Tuple ts kt tpos) X.env] := by rfl) : PS X (.Assign [.Tuple ts kt tpos] (.Tuple es x1 p) pos) (tsG K mg Γ W (sPar is ms)) := by
  refine ps_imp (ps_asg (pe_tup ha) (pg_tup hc h hn hst) hs hw h1) fun D' σ H h => ?_
  obtain ⟨F, L, ρ, st, rl, q⟩ := par_go h
  refine ⟨F, L, ρ, st, rl, q.imp fun F1 L1 H1 st1 ds s o q1 vs kvs => ?_⟩
  obtain ⟨hl, q2, _⟩ := q1 vs kvs
  exact ⟨by rw [hl, sizeLine_eq]; omega, fun p np => ⟨p, vs, rfl, .inl (.inl upd_same), hl, hl, q2 p _ np⟩⟩
/-- target = e, e a value -/
def sAsgT (bd : BDen) (m : EDen) : SDen := fun ρ st => (m ρ st).s ρ fun d st' => if isLoc d = true then .bad else match bd d ρ with
  | some ρ' => .nx ρ' st'
  | none => .bad
theorem s_asgT (he : PE X e (teV K mg Γ W m)) (hg : PG X tg (tgG K mg Γ vs bd)) (hs : swapsWithSole [tg] e pos.line X.env = pure false := by rfl) (hw : swappedStores [tg] e X.env = pure none := by rfl) (h1 : (assignEach [tg] X.env).map (·.2) = [assign tg X.env] := by rfl) :
    PS X (.Assign [tg] e pos) (tsG K mg Γ W (sAsgT bd m)) := by
  refine ps_imp (ps_asg he hg hs hw h1) fun D' σ H ⟨F, L, ρ, st, rl, q⟩ => ⟨F, L, ρ, st, rl, (SPost.s q rl).imp fun F1 L1 H1 st1 d s o q1 v kv => ?_⟩
  split at q1
  · exact q1.elim
  · rename_i hl
    split at q1
    · rename_i ρ' hb
      exact ⟨F1, L1, ρ, st1, d, ρ', rl.step s o, VRep.flat kv (by simpa using hl), hb, fun σ' _ rl' => q1 F1 L1 σ' H1 rl'⟩
    · exact q1.elim
end
end Gh
/-! Gh15: what the top has written, in one word a def; the rules by it; the end. -/
namespace Gh
open L2 PyProof.Rows PySem.Spec PySem
theorem takesW {X : Cx} : Takes X W0 := fun u s' ⟨_, _, _, _, _, _, _, _, _, _, _, _, _, _, _, _, w⟩ => w.elim
section
variable {P : Program} {w : World} {K : PySem.W.Frag} {mg : Glob} {base : Heap}
/-- a def of the module promises m -/
def OkG (P : Program) (w : World) (K : PySem.W.Frag) (mg : Glob) (base : Heap) (kk : Nat) (x : Str) (ps : List Str) (m : CallF) : Prop :=
  ∃ f fd, mg x = some (.ref f) ∧ FnOk P w K mg base (L2.CX P w) kk f fd ps (spG K mg m) ∧ PySem.W.keepIn K (.ref f) = true ∧ Binds K fd ps []
/-- a def of a class promises m -/
def OkM (P : Program) (w : World) (K : PySem.W.Frag) (mg : Glob) (base : Heap) (kk : Nat) (c x : Str) (ps : List Str) (m : CallF) : Prop :=
  ∃ C f fd, mg c = some (.ref C) ∧ Cls K C ∧ Meth K C x f ∧ FnOk P w K mg base (L2.CX P w) kk f fd ps (spG K mg m) ∧ Binds K fd ps []
/-- the class may be called, its __init__ promises m -/
def OkC (P : Program) (w : World) (K : PySem.W.Frag) (mg : Glob) (base : Heap) (kk : Nat) (c : Str) (ps : List Str) (m : CallF) : Prop :=
  ∃ C f fd, mg c = some (.ref C) ∧ Mk K C f ∧ FnOk P w K mg base (L2.CX P w) kk f fd ps (spG K mg m) ∧ Binds K fd ps []
/-- the same def x in some classes -/
def OkMs (P : Program) (w : World) (K : PySem.W.Frag) (mg : Glob) (base : Heap) (kk : Nat) (x : Str) (l : List (Str × CallF)) : Prop := ∀ c g, l.lookup c = some g → ∃ ps, OkM P w K mg base kk c x ps g
theorem OkMs.nil {kk : Nat} {x : Str} : OkMs P w K mg base kk x [] := fun c g h => by cases h
theorem OkMs.cons {kk : Nat} {c x : Str} {ps : List Str} {m : CallF} {l : List (Str × CallF)} (h : OkM P w K mg base kk c x ps m) (t : OkMs P w K mg base kk x l) : OkMs P w K mg base kk x ((c, m) :: l) := fun d g e => by
  rw [List.lookup_cons] at e
  cases q : d == c with
  | true =>
    rw [q] at e
    cases e
    rw [beq_iff_eq] at q
    subst q
    exact ⟨ps, h⟩
  | false =>
    rw [q] at e
    exact t d g e
theorem OkG.mono {j k : Nat} {x : Str} {ps : List Str} {m : CallF} (h : OkG P w K mg base j x ps m) (e : j ≤ k) : OkG P w K mg base k x ps m := by
  obtain ⟨f, fd, h1, h2, h3, h4⟩ := h
  exact ⟨f, fd, h1, h2.mono e, h3, h4⟩
theorem OkM.mono {j k : Nat} {c x : Str} {ps : List Str} {m : CallF} (h : OkM P w K mg base j c x ps m) (e : j ≤ k) : OkM P w K mg base k c x ps m := by
  obtain ⟨C, f, fd, h1, h2, h3, h4, h5⟩ := h
  exact ⟨C, f, fd, h1, h2, h3, h4.mono e, h5⟩
theorem OkC.mono {j k : Nat} {c : Str} {ps : List Str} {m : CallF} (h : OkC P w K mg base j c ps m) (e : j ≤ k) : OkC P w K mg base k c ps m := by
  obtain ⟨C, f, fd, h1, h3, h4, h5⟩ := h
  exact ⟨C, f, fd, h1, h3, h4.mono e, h5⟩
/-! what the top has written -/
def TG (K : PySem.W.Frag) (mg : Glob) (x qual : Str) (st : Stmt) : Prop := ∃ f fd, mg x = some (.ref f) ∧ Fun K x qual st f fd ∧ PySem.W.keepIn K (.ref f) = true
def TC (K : PySem.W.Frag) (mg : Glob) (c : Str) : Prop := ∃ C, mg c = some (.ref C) ∧ Cls K C ∧ PySem.W.makesIn K C = true ∧ PySem.W.keepIn K (.ref C) = true
def TM (K : PySem.W.Frag) (mg : Glob) (c x qual : Str) (st : Stmt) : Prop := ∃ C f fd, mg c = some (.ref C) ∧ Meth K C x f ∧ Fun K x qual st f fd
def TF (K : PySem.W.Frag) (mg : Glob) (c f : Str) : Prop := ∃ C, mg c = some (.ref C) ∧ Cls K C ∧ NoAttr K C f
theorem tg_mk {h : Heap} {x qual : Str} {st : Stmt} {f : Addr} {oc : Value} {od an : Option Addr} {osl : Array (Option Value)} {kV doc pm cdv ct : Value} (X : K.In h) (G : h.Ns mainGlobals mg) (a : PySem.W.nsIn K mainGlobals x = some (some (.ref f)))
    (l : K.lookup f = some ⟨oc, od, .func (PySem.W.fnOf x qual (defArgs st) (defBody st) (defScope st) .none kV doc pm an cdv ct), osl⟩) (c : PySem.W.codeIn K cdv qual = true) (k : PySem.W.keepIn K (.ref f) = true) : TG K mg x qual st :=
  ⟨f, _, PySem.W.mg_of X G a, fun_mk l c k, k⟩
theorem tc_mk {h : Heap} {c : Str} {C : Addr} (X : K.In h) (G : h.Ns mainGlobals mg) (a : PySem.W.nsIn K mainGlobals c = some (some (.ref C))) (pg : PySem.W.plainGet K C Str.empty = true) (hd : PySem.W.hasDictIn K C = true) (po : PySem.W.plainOver K C = true)
    (sa : PySem.W.findIn K (.ref C) "__setattr__" = some (some (.builtin "object.__setattr__"))) (mk : PySem.W.makesIn K C = true) (kc : PySem.W.keepIn K (.ref C) = true) : TC K mg c := ⟨C, PySem.W.mg_of X G a, ⟨pg, hd, po, sa⟩, mk, kc⟩
theorem tm_mk {h : Heap} {c x qual : Str} {st : Stmt} {C f : Addr} {oc : Value} {od an : Option Addr} {osl : Array (Option Value)} {kV doc pm cdv ct : Value} (X : K.In h) (G : h.Ns mainGlobals mg) (a : PySem.W.nsIn K mainGlobals c = some (some (.ref C)))
    (b : PySem.W.findIn K (.ref C) x = some (some (.ref f))) (i : PySem.W.isFn K (.ref f) = true)
    (l : K.lookup f = some ⟨oc, od, .func (PySem.W.fnOf x qual (defArgs st) (defBody st) (defScope st) .none kV doc pm an cdv ct), osl⟩) (d : PySem.W.codeIn K cdv qual = true) (k : PySem.W.keepIn K (.ref f) = true) : TM K mg c x qual st :=
  ⟨C, f, _, PySem.W.mg_of X G a, ⟨b, i, k⟩, fun_mk l d k⟩
theorem tf_mk {h : Heap} {c f : Str} {C : Addr} (X : K.In h) (G : h.Ns mainGlobals mg) (T : TC K mg c) (a : PySem.W.nsIn K mainGlobals c = some (some (.ref C))) (n : PySem.W.findIn K (.ref C) f = some none) : TF K mg c f := by
  obtain ⟨C', h1, h2, _⟩ := T
  rw [PySem.W.mg_of X G a] at h1
  cases h1
  exact ⟨C, PySem.W.mg_of X G a, h2, n⟩
theorem AttOk.nil {f : Str} : AttOk K mg f [] := fun c h => by cases h
theorem AttOk.cons {c f : Str} {cs : List Str} (h : TF K mg c f) (t : AttOk K mg f cs) : AttOk K mg f (c :: cs) := fun d hd C hC => by
  rcases List.mem_cons.mp hd with rfl | hd
  · obtain ⟨C', h1, h2, h3⟩ := h
    rw [h1] at hC
    cases hC
    exact ⟨h2, h3⟩
  · exact t d hd C hC
/-- one class among those that isinstance asks of -/
def TI1 (K : PySem.W.Frag) (mg : Glob) (kit : Value → Option Bool) (c : Str) (r : Bool) : Prop := ∃ C, mg c = some (.ref C) ∧ InsTy K C ∧ kit (.ref C) = some r
theorem isiOk_mk {kit : Value → Option Bool} {bs : List String} {yes no : List Str} (hb : ∀ n ∈ blts, kit (.type n) = some (tyIs n bs)) (hy : ∀ c ∈ yes, TI1 K mg kit c true) (hn : ∀ c ∈ no, TI1 K mg kit c false) : IsiOk K mg kit bs yes no := by
  refine ⟨hb, fun c h C hC => ?_, fun c h C hC => ?_⟩
  · obtain ⟨C', h1, h2⟩ := hy c h
    rw [h1] at hC; cases hC
    exact h2
  · obtain ⟨C', h1, h2⟩ := hn c h
    rw [h1] at hC; cases hC
    exact h2
theorem OkMs.own {X : Cx} {kk : Nat} {x : Str} {l : List (Str × CallF)} (h : OkMs X.prog X.w X.K X.mg X.base kk x l) : OwnM X X.mg kk x (fun c => l.lookup c) := fun c g C e hC => by
  obtain ⟨ps, C', f, fd, h1, h2, h3, h4, h5⟩ := h c g e
  rw [h1] at hC; cases hC
  exact ⟨f, fd, ps, h3.at_, h3.fn, h4, h5⟩
/-! the promise of a def -/
theorem okG_of {x : Str} {st : Stmt} {ps : List Str} {kk : Nat} {m : CallF} (T : TG K mg x x st) (hb : ∀ f fd, Fun K x x st f fd → Binds K fd ps []) (F : ∀ f fd, Fun K x x st f fd → FnOk P w K mg base (L2.CX P w) kk f fd ps (spG K mg m)) : OkG P w K mg base kk x ps m := by
  obtain ⟨f, fd, h1, h2, h3⟩ := T
  exact ⟨f, fd, h1, F f fd h2, h3, hb f fd h2⟩
theorem okM_of {c x qual : Str} {st : Stmt} {ps : List Str} {kk : Nat} {m : CallF} (T0 : TC K mg c) (T : TM K mg c x qual st) (hb : ∀ f fd, Fun K x qual st f fd → Binds K fd ps []) (F : ∀ f fd, Fun K x qual st f fd → FnOk P w K mg base (L2.CX P w) kk f fd ps (spG K mg m)) : OkM P w K mg base kk c x ps m := by
  obtain ⟨C, f, fd, h1, h2, h3⟩ := T
  obtain ⟨C', g1, g2, _⟩ := T0
  rw [h1] at g1; cases g1
  exact ⟨C, f, fd, h1, g2, h2, F f fd h3, hb f fd h3⟩
theorem okC_of {c : Str} {ps : List Str} {kk : Nat} {m : CallF} (T0 : TC K mg c) (h : OkM P w K mg base kk c "__init__" ps m) : OkC P w K mg base kk c ps m := by
  obtain ⟨C, f, fd, h1, h2, h3, h4, h5⟩ := h
  obtain ⟨C', g1, g2, g3, g4⟩ := T0
  rw [h1] at g1; cases g1
  exact ⟨C, f, fd, h1, ⟨g3, h3.at_, h3.fn, g4⟩, h4, h5⟩
end
section
variable {X : Cx} {mg : Glob} {Γ : Ent} {W : WX} {e o : Expr} {es : List Expr} {m mo : EDen} {ms : ADen} {pos p apos : Pos} {kk : Nat} {x c mname : Str} {ps : List Str} {cf : CallF}
theorem f_call (h : OkG X.prog X.w X.K X.mg X.base kk x ps cf) (hr : Room kk X.A) (tk : Takes X W) (ha : PA X (e :: es) (taG X.K X.mg Γ W ms)) (hg : Gl X x := by rfl) (hdb : (x == ("__debug__" : Str)) = false := by decide)
    (he : starEach (e :: es) X.env = (false, eval e X.env) :: starEach es X.env := by rfl) (hpl : (backTo pos (starEach es X.env)).any (·.1) = false := by rfl) : PE X (.Call (.Name x p) (e :: es) [] pos) (teV X.K X.mg Γ W (eCall cf ms)) := by
  obtain ⟨f, fd, h1, h2, h3, h4⟩ := h
  exact g_call h2 hr h1 h3 h4 tk ha hg hdb he hpl
theorem f_call0 (h : OkG X.prog X.w X.K X.mg X.base kk x ps cf) (hr : Room kk X.A) (tk : Takes X W) (hg : Gl X x := by rfl) (hdb : (x == ("__debug__" : Str)) = false := by decide) : PE X (.Call (.Name x p) [] [] pos) (teV X.K X.mg Γ W (eCall cf aNil)) := by
  obtain ⟨f, fd, h1, h2, h3, h4⟩ := h
  exact g_call0 h2 hr h1 h3 h4 tk hg hdb
theorem f_make (h : OkC X.prog X.w X.K X.mg X.base kk c ps cf) (hr : Room (kk + 1) X.A) (tk : Takes X W) (ha : PA X (e :: es) (taG X.K X.mg Γ W ms)) (hg : Gl X c := by rfl) (hdb : (c == ("__debug__" : Str)) = false := by decide)
    (he : starEach (e :: es) X.env = (false, eval e X.env) :: starEach es X.env := by rfl) (hpl : (backTo pos (starEach es X.env)).any (·.1) = false := by rfl) : PE X (.Call (.Name c p) (e :: es) [] pos) (teV X.K X.mg Γ W (eMake c cf ms)) := by
  obtain ⟨C, f, fd, h1, h2, h3, h4⟩ := h
  exact g_make h2 h3 hr h1 h1 h4 tk ha hg hdb he hpl
theorem f_makeM (h : OkC X.prog X.w X.K X.mg X.base kk c ps cf) (hr : Room (kk + 1) X.A) (tk : Takes X W) (ha : PA X (e :: es) (taG X.K X.mg Γ W ms)) (hg : Gl X c := by rfl) (hdb : (c == ("__debug__" : Str)) = false := by decide)
    (he : starEach (e :: es) X.env = (false, eval e X.env) :: starEach es X.env := by rfl) (hpl : (backTo pos (starEach es X.env)).any (·.1) = false := by rfl) : PE X (.Call (.Name c p) (e :: es) [] pos) (teV X.K X.mg Γ W (eMakeM c cf ms)) := by
  obtain ⟨C, f, fd, h1, h2, h3, h4⟩ := h
  exact g_makeM h2 h3 hr h1 h1 h4 tk ha hg hdb he hpl
theorem f_makeM0 (h : OkC X.prog X.w X.K X.mg X.base kk c ps cf) (hr : Room (kk + 1) X.A) (tk : Takes X W) (hg : Gl X c := by rfl) (hdb : (c == ("__debug__" : Str)) = false := by decide) : PE X (.Call (.Name c p) [] [] pos) (teV X.K X.mg Γ W (eMakeM c cf aNil)) := by
  obtain ⟨C, f, fd, h1, h2, h3, h4⟩ := h
  exact g_makeM0 h2 h3 hr h1 h1 h4 tk hg hdb
/-- o.m(..), o of one of the classes of l -/
def eMethU (l : List (Str × CallF)) (m : Str) (mo : EDen) (ms : ADen) : EDen := fun ρ st => (mo ρ st).bind fun d st1 => match instOf st1 d with
  | some (c, fs) => (match l.lookup c with
    | some f => if (fs.lookup m).isNone = true then (ms ρ st1).bind fun ds st2 => f (d :: ds) st2 else .bad
    | none => .bad)
  | none => .bad
theorem methU_go {Q : VK} {σ : St} {H : Hp} {l : List (Str × CallF)} (A : OkMs X.prog X.w X.K X.mg X.base kk mname l) (h : teV X.K X.mg Γ W (eMethU l mname mo ms) σ H Q) :
    teV X.K X.mg Γ W mo σ H fun x H1 => ∃ C a dx fs f fd ps cf, x = .ref a ∧ H1 a = some (.ins C dx fs) ∧ fs.lookup mname = none ∧ Cls X.K C ∧ Meth X.K C mname f ∧ FnOk X.prog X.w X.K X.mg X.base (L2.CX X.prog X.w) kk f fd ps (spG X.K X.mg cf) ∧ Binds X.K fd ps [] ∧
      taG X.K X.mg Γ W ms σ H1 fun vs H2 => spG X.K X.mg cf (x :: vs) H2 Q (WE W σ) := by
  obtain ⟨F, L, ρ, st, rl, q⟩ := h
  refine ⟨F, L, ρ, st, rl, q.bind.imp fun F1 L1 H1 st1 d s o q1 v kv => ?_⟩
  split at q1
  · rename_i c' fs e
    split at q1
    · rename_i g hg
      split at q1
      · rename_i hn
        obtain ⟨a, C', dx, fv, rfl, h1, h2, h3⟩ := inst_at o kv (instOf_at e)
        obtain ⟨ps, C, f, fd, g1, g2, g3, g4, g5⟩ := A c' g hg
        rw [h1] at g1; cases g1
        refine ⟨C', a, dx, fv, f, fd, ps, g, rfl, h2, h3.lookNone (by simpa using hn), g2, g3, g4, g5, F1, L1, ρ, st1, rl.step s o, q1.bind.imp fun F2 L2 H2 st2 ds s2 o2 q2 vs kvs => ?_⟩
        exact ⟨F2, L2, d :: ds, st2, o2, ⟨_, vs, rfl, s2.vrep kv, kvs⟩, Post.wish q2⟩
      · exact q1.elim
    · exact q1.elim
  · exact q1.elim
theorem f_meth {pl : Sem Bool} {l : List (Str × CallF)} (A : OkMs X.prog X.w X.K X.mg X.base kk mname l) (hr : Room kk X.A) (tk : Takes X W) (ho : PE X o (teV X.K X.mg Γ W mo)) (ha : PA X (e :: es) (taG X.K X.mg Γ W ms))
    (hst : starEach (e :: es) X.env = (false, eval e X.env) :: starEach es X.env := by rfl) (hpl : (backTo pos (starEach es X.env)).any (·.1) = false := by rfl)
    (ht : eval (.Call (.Attribute o mname apos) (e :: es) [] pos) X.env = (do let ov ← eval o X.env; standAt apos.atName; let (f, first) ← holding [ov] (getMethod ov mname pl); callWith pos f first (backTo pos (starEach (e :: es) X.env)) (backToKw pos (keywordEach [] X.env))) := by rfl) :
    PE X (.Call (.Attribute o mname apos) (e :: es) [] pos) (teV X.K X.mg Γ W (eMethU l mname mo ms)) := by
  refine ⟨fun pins s σ H Q I h => PySem.W.methodCall_KW (pl := pl) (thn (ho.run pins s σ H _ I (methU_go A h)) fun u s1 hh => ?_) ht⟩
  obtain ⟨x, H1, I1, rx, C, a, dx, fs, f, fd, ps, cf, ex, ea, ln, cl, hm, F, hb, q⟩ := hh
  cases ex
  cases (show u = Value.ref a from rx)
  exact getmeth_ok I1 ea cl hm ln (PySem.W.callWith_K (first := [.ref a]) (h₀ := X.base) I.ok.mod.kin hm.kp (thn (ha.run pos pins s1 σ H1 _ I1 q) fun us s2 ⟨vs, H2, I2, r, q2⟩ =>
    ⟨I2.kIn, run_fnS (us := .ref a :: us) (vs := .ref a :: vs) (E := WE W) F hr hb (passAt tk σ) I2 (.cons rfl r) q2⟩) hst hpl)
theorem f_meth0 {pl : Sem Bool} {l : List (Str × CallF)} (A : OkMs X.prog X.w X.K X.mg X.base kk mname l) (hr : Room kk X.A) (tk : Takes X W) (ho : PE X o (teV X.K X.mg Γ W mo))
    (ht : eval (.Call (.Attribute o mname apos) [] [] pos) X.env = (do let ov ← eval o X.env; standAt apos.atName; let (f, first) ← holding [ov] (getMethod ov mname pl); callWith pos f first (backTo pos (starEach [] X.env)) (backToKw pos (keywordEach [] X.env))) := by rfl) :
    PE X (.Call (.Attribute o mname apos) [] [] pos) (teV X.K X.mg Γ W (eMethU l mname mo aNil)) := by
  refine ⟨fun pins s σ H Q I h => PySem.W.methodCall_KW (pl := pl) (thn (ho.run pins s σ H _ I (methU_go A h)) fun u s1 hh => ?_) ht⟩
  obtain ⟨x, H1, I1, rx, C, a, dx, fs, f, fd, ps, cf, ex, ea, ln, cl, hm, F, hb, F', L', ρ', st', rl', q⟩ := hh
  cases ex
  cases (show u = Value.ref a from rx)
  obtain ⟨F2, L2', ds, st2, o2, k2, q2⟩ := q.here rl'.sto [] rfl
  exact getmeth_ok I1 ea cl hm ln (PySem.W.callWith_K0 (first := [.ref a]) I1.kIn hm.kp (run_fnS (us := [.ref a]) (vs := [.ref a]) (E := WE W) F hr hb (passAt tk σ) I1 (.cons rfl .nil) ⟨F2, L2', ds, st2, o2, k2, q2⟩))
/-! what is never come to -/
def eBad : EDen := fun _ _ => .bad
def sBad : SDen := fun _ _ => .bad
theorem e_bad {k : Kd} {K : PySem.W.Frag} : PE X e (teG k K mg Γ W eBad) := ⟨fun pins s σ H Q I ⟨_, _, _, _, _, q⟩ => q.elim⟩
theorem s_bad {K : PySem.W.Frag} {st : Stmt} : PS X st (tsG K mg Γ W sBad) := ⟨fun pins s σ H D' I ⟨_, _, _, _, _, q⟩ => q.elim⟩
end
/-! ### the end -/
/-- law's: a list of at most 63 ints is handed in, True comes out -/
def spLaw (K : PySem.W.Frag) : Sp := fun vs H Q _ => ∃ (a : Addr) (ns : List Int), vs = [.ref a] ∧ SqL K H a (ns.map V.int) ∧ ns.length ≤ 63 ∧ ∀ H', Q (.bl true) H'
theorem repl_ints {K : PySem.W.Frag} {mg : Glob} {F : Hp} : ∀ ns : List Int, RepL K mg F (ns.map D.int) (ns.map V.int)
  | [] => rfl
  | n :: ns => ⟨_, _, rfl, rfl, repl_ints ns⟩
theorem law_sp {K : PySem.W.Frag} {mg : Glob} {m : CallF} (h : ∀ ns : List Int, ns.length ≤ 63 → m [.scr (ns.map D.int)] [] = .ok (.bl true) []) : ∀ vs H Q E, spLaw K vs H Q E → spG K mg m vs H Q E := by
  rintro vs H Q E ⟨a, ns, rfl, h1, h2, h3⟩
  refine ⟨H, [], [.scr (ns.map D.int)], [], ⟨ExF.of (Ex.refl H), List.nodup_nil, rfl, fun n a d e => by cases e⟩, ⟨_, [], rfl, .inr ⟨a, _, rfl, h1, repl_ints ns⟩, rfl⟩, ?_⟩
  rw [h ns h2]
  intro F' L' H' s o v kv
  rw [kv.bl]
  exact h3 H'
/-- law's own entry, by what the top has written -/
def LawB (P : Program) (w : World) (K : PySem.W.Frag) (mg : Glob) (k : Nat) (x : Str) (m : CallF) : Prop := ∃ fd f, mg x = some (.ref f) ∧ (∀ (s : Shared) (u : Value), BindsTo s fd ⟨[u], []⟩ [("script", u)]) ∧
  ∀ base : Heap, K.In base → base.Ns mainGlobals mg → FnOk P w K mg base (L2.CX P w) k f fd ["script"] (spG K mg m)
theorem lawB_of {P : Program} {w : World} {K : PySem.W.Frag} {mg : Glob} {k : Nat} {x : Str} {m : CallF} {st : Stmt} (T : TG K mg x x st) (hb : ∀ (f : Addr) (fd : FuncData), Fun K x x st f fd → ∀ (s : Shared) (u : Value), BindsTo s fd ⟨[u], []⟩ [("script", u)])
    (F : ∀ (base : Heap) (f : Addr) (fd : FuncData), Fun K x x st f fd → FnOk P w K mg base (L2.CX P w) k f fd ["script"] (spG K mg m)) : LawB P w K mg k x m := by
  obtain ⟨f, fd, h1, h2, h3⟩ := T
  exact ⟨fd, f, h1, hb f fd h2, fun base _ _ => F base f fd h2⟩
theorem law_walk {l : PySem.W.OpenLaw} {k : Nat} {q : Program} {loose : List Str} {XP : (Str → Option Value) → Heap → Prop} {YP : World → Heap → Prop} {d : DefRec} {K : Params → PySem.W.Frag} {m : CallF} (hn : l.most = some 63) (hdf : d.params.defaults = []) (hr : Room k callerA)
    (hY : ∀ (w : World) (h : Heap), YP w h → (K w.params).In h) (hm : ∀ ns : List Int, ns.length ≤ 63 → m [.scr (ns.map D.int)] [] = .ok (.bl true) [])
    (B : ∀ (w : World) (mg : Glob) (h : Heap), (K w.params).In h → h.Ns mainGlobals mg → LawB l.prog w (K w.params) mg k d.name m) :
    PySem.W.WalkO q loose XP YP l.row.toRowW d [] (fun f vs => PySem.call f vs) := by
  refine L2.walk_of (n := 63) (k := k) (x := "script") (CX := fun w => L2.CX l.prog w) (sp := fun w => spLaw (K w.params)) hn (by decide) hdf hr hY (fun w mg fa h KX G hfa => ?_) (fun _ _ a ns hl _ hS => ⟨a, ns, rfl, hS, hl, fun _ => rfl⟩) ?_
  · obtain ⟨fd, f, h1, h2, h3⟩ := B w mg h KX G
    rw [h1] at hfa
    cases hfa
    exact ⟨fd, h2, fun base b1 b2 => (h3 base b1 b2).imp (law_sp hm)⟩
  · rintro w H s e s' ⟨_, _, _, _, _, _, _, _, _, _, _, _, z⟩
    exact z
/-! facts of classes -/
theorem the {K : PySem.W.Frag} {h : Heap} (_ : K.In h) (p : PySem.W.Frag → Prop) (t : p K) : p K := t
theorem insTy_mk {K : PySem.W.Frag} {mg : Glob} {h : Heap} {c : Str} {C : Addr} (X : K.In h) (G : h.Ns mainGlobals mg) (T : TC K mg c) (a : PySem.W.nsIn K mainGlobals c = some (some (.ref C))) (ha : PySem.W.findIn K (.ref C) "__class__" = some (some (.builtin "object.__class__")))
    (hn : PySem.W.specialIn K (.builtin "object.__class__") "__get__" = some (some (.builtin "getset_descriptor.__get__"))) (htk : PySem.W.takesIn K (.builtin "object.__class__") = some true) (hm : PySem.W.mroIn K C (.type "object") = some true) : mg c = some (.ref C) ∧ InsTy K C := by
  obtain ⟨C', h1, h2, _⟩ := T
  rw [PySem.W.mg_of X G a] at h1
  cases h1
  exact ⟨PySem.W.mg_of X G a, h2, ha, hn, htk, hm⟩
end Gh
/-! Gh16: isinstance, own truth and == by what the top has written; the def rule for okG, okM. -/
namespace Gh
open L2 PyProof.Rows PySem.Spec PySem
def gAddI : Op2 := gI (fun _ _ => true) fun i j => .int (i + j)
theorem sem_addI {K : PySem.W.Frag} {mg : Glob} : Sem2 kV K mg gAddI (rI0 fun i j => .int (i + j)) := sem_I0 fun F i j => rfl
/-- isinstance by the class c0 of the text -/
def TIs (K : PySem.W.Frag) (mg : Glob) (c0 : Str) (yes no : List Str) : Prop := ∃ C, mg c0 = some (.ref C) ∧ IsiOk K mg (fun t => PySem.W.kitOne K t (.ref C)) [] yes no
/-- .. by a built-in type, by two -/
def TIb (K : PySem.W.Frag) (mg : Glob) (n : String) (no : List Str) : Prop := IsiOk K mg (fun t => PySem.W.kitOne K t (.type n)) [n] [] no
def TIb2 (K : PySem.W.Frag) (mg : Glob) (n n2 : String) (no : List Str) : Prop := IsiOk K mg (fun t => PySem.W.kitAny K t [.type n, .type n2]) [n, n2] [] no
section
variable {X : Cx} {mg : Glob} {Γ : Ent} {W : WX} {a : Expr} {m : EDen} {pos p p2 p3 pt : Pos} {kk : Nat} {c0 x y : Str} {yes no : List Str} {n n2 : String} {kt : Nat}
theorem f_isiC (h : TIs X.K X.mg c0 yes no) (hm : X.mg "isinstance" = none) (ha : PE X a (teR X.K X.mg Γ W m)) (hg : Gl X "isinstance" := by rfl) (hg2 : Gl X c0 := by rfl) (hd : (c0 == ("__debug__" : Str)) = false := by decide)
    (he : starEach [a, .Name c0 p2] X.env = (false, eval a X.env) :: starEach [.Name c0 p2] X.env := by rfl) (hs2 : starEach [.Name c0 p2] X.env = (false, eval (.Name c0 p2) X.env) :: starEach [] X.env := by rfl) (hpl : (backTo pos (starEach [.Name c0 p2] X.env)).any (·.1) = false := by rfl) :
    PE X (.Call (.Name "isinstance" p) [a, .Name c0 p2] [] pos) (teV X.K X.mg Γ W (e1 (gIsi [] yes no) m)) := by
  obtain ⟨C, h1, h2⟩ := h
  exact g_isi rfl (.own C) h2 hm ha (pe_glob hg2 h1 rfl hd) hg he hs2 hpl
theorem f_isiB (h : TIb X.K X.mg n no) (hm : X.mg "isinstance" = none) (hx : X.mg x = none) (hv : bootBuiltins x = some (.type n)) (ha : PE X a (teR X.K X.mg Γ W m)) (hg : Gl X "isinstance" := by rfl) (hg2 : Gl X x := by rfl) (hn : x ≠ "__name__" := by decide) (hd : (x == ("__debug__" : Str)) = false := by decide)
    (he : starEach [a, .Name x p2] X.env = (false, eval a X.env) :: starEach [.Name x p2] X.env := by rfl) (hs2 : starEach [.Name x p2] X.env = (false, eval (.Name x p2) X.env) :: starEach [] X.env := by rfl) (hpl : (backTo pos (starEach [.Name x p2] X.env)).any (·.1) = false := by rfl) :
    PE X (.Call (.Name "isinstance" p) [a, .Name x p2] [] pos) (teV X.K X.mg Γ W (e1 (gIsi [n] [] no) m)) :=
  g_isi rfl (.ty n) h hm ha (pe_bltn hg2 hx hv rfl hn hd) hg he hs2 hpl
theorem f_isiB2 (h : TIb2 X.K X.mg n n2 no) (hm : X.mg "isinstance" = none) (hx : X.mg x = none) (hv : bootBuiltins x = some (.type n)) (hy : X.mg y = none) (hv2 : bootBuiltins y = some (.type n2)) (ha : PE X a (teR X.K X.mg Γ W m)) (hg : Gl X "isinstance" := by rfl) (hg2 : Gl X x := by rfl) (hn : x ≠ "__name__" := by decide) (hd : (x == ("__debug__" : Str)) = false := by decide)
    (hg3 : Gl X y := by rfl) (hn3 : y ≠ "__name__" := by decide) (hd3 : (y == ("__debug__" : Str)) = false := by decide)
    (he : starEach [a, .Tuple [.Name x p2, .Name y p3] kt pt] X.env = (false, eval a X.env) :: starEach [.Tuple [.Name x p2, .Name y p3] kt pt] X.env := by rfl) (hs2 : starEach [.Tuple [.Name x p2, .Name y p3] kt pt] X.env = (false, eval (.Tuple [.Name x p2, .Name y p3] kt pt) X.env) :: starEach [] X.env := by rfl)
    (hpl : (backTo pos (starEach [.Tuple [.Name x p2, .Name y p3] kt pt] X.env)).any (·.1) = false := by rfl) (hs3 : starEach [.Name x p2, .Name y p3] X.env = (false, eval (.Name x p2) X.env) :: starEach [.Name y p3] X.env := by rfl) (hs4 : starEach [.Name y p3] X.env = (false, eval (.Name y p3) X.env) :: starEach [] X.env := by rfl) :
    PE X (.Call (.Name "isinstance" p) [a, .Tuple [.Name x p2, .Name y p3] kt pt] [] pos) (teV X.K X.mg Γ W (e1 (gIsi [n, n2] [] no) m)) :=
  g_isi2 rfl (.ty n) (.ty n2) h hm ha (pe_bltn hg2 hx hv rfl hn hd) (pe_bltn hg3 hy hv2 rfl hn3 hd3) hg he hs2 hpl hs3 hs4
theorem f_trOwn {l : List (Str × CallF)} (A : OkMs X.prog X.w X.K X.mg X.base kk "__bool__" l) (hr : Room kk X.A) (h : PE X a (teV X.K X.mg Γ W m)) (he : ∀ whole, isTrue a X.env whole = (do let v ← whole; standAt a.pos; holding [v] (truthy v)) := by intro _; rfl) : PT X a (ttG X.K X.mg Γ W (tOwn (fun c => l.lookup c) m)) :=
  g_trOwn rfl A.own hr takesW h he
theorem f_boolOwn {l : List (Str × CallF)} (A : OkMs X.prog X.w X.K X.mg X.base kk "__bool__" l) (hr : Room (kk + 2) X.A) (hm : X.mg "bool" = none) (h : PE X a (teV X.K X.mg Γ W m)) (hg : Gl X "bool" := by rfl) (he : starEach [a] X.env = (false, eval a X.env) :: starEach [] X.env := by rfl) (hpl : (backTo pos (starEach [] X.env)).any (·.1) = false := by rfl) :
    PE X (.Call (.Name "bool" p) [a] [] pos) (teV X.K X.mg Γ W (eOwn (fun c => l.lookup c) m)) :=
  g_boolOwn rfl A.own hr takesW hm h hg he hpl
/-- no left class has a right one below it -/
def TNf (K : PySem.W.Frag) (mg : Glob) (ls rs : List Str) : Prop := ∀ c ∈ ls, ∀ C, mg c = some (.ref C) → ∀ c' ∈ rs, ∀ C', mg c' = some (.ref C') → PySem.W.notFirst K C (.ref C') = true
theorem f_eqI {b : Expr} {ma mb : EDen} {l : List (Str × CallF)} {cs : List Str} (A : OkMs X.prog X.w X.K X.mg X.base kk "__eq__" l) (N : TNf X.K X.mg (l.map (·.1)) cs) (hr : Room kk X.A) (ha : PE X a (teV X.K X.mg Γ W ma)) (hb : PE X b (teV X.K X.mg Γ W mb)) (hm : behindInMarks .Eq b = false := by rfl) :
    PE X (.Compare a [.Eq] [b] pos) (teV X.K X.mg Γ W (e2 (gEqI (fun c => l.lookup c) cs) ma mb)) := by
  refine g_eqI rfl A.own (fun c g C e hC c' hc' C' hC' => N c ?_ C hC c' hc' C' hC') hr takesW ha hb hm
  clear A N
  induction l with
  | nil => cases e
  | cons p t ih =>
    rw [List.lookup_cons] at e
    cases q : c == p.1 with
    | true => rw [beq_iff_eq] at q; simp [q]
    | false =>
      rw [q] at e
      exact List.mem_cons_of_mem _ (ih e)
end
theorem kit_ref {K : PySem.W.Frag} {t : Value} {C : Addr} {r : Bool} (ic : PySem.W.isClsIn K C = true) (tc : PySem.W.typeIn K (.ref C) = some (.type "type")) (s : PySem.W.subIn K t (.ref C) = some r) (h : (t == Value.ref C) = false) : PySem.W.kitOne K t (.ref C) = some r := by
  unfold PySem.W.kitOne
  rw [h, if_neg (by decide)]
  show (if ((PySem.W.clsIn K C).isSome && PySem.W.typeIn K (.ref C) == some (.type "type")) = true then PySem.W.subIn K t (.ref C) else none) = some r
  rw [show (PySem.W.clsIn K C).isSome = true from ic, tc, if_pos (by rfl)]
  exact s
theorem kit_self {K : PySem.W.Frag} {C : Addr} : PySem.W.kitOne K (.ref C) (.ref C) = some true := by
  unfold PySem.W.kitOne
  rw [if_pos (beq_self_eq_true _)]
theorem tis_mk {K : PySem.W.Frag} {mg : Glob} {h : Heap} {c0 : Str} {C : Addr} {yes no : List Str} (X : K.In h) (G : h.Ns mainGlobals mg) (a : PySem.W.nsIn K mainGlobals c0 = some (some (.ref C))) (ic : PySem.W.isClsIn K C = true) (tc : PySem.W.typeIn K (.ref C) = some (.type "type"))
    (k1 : PySem.W.subIn K (.type "NoneType") (.ref C) = some false) (k2 : PySem.W.subIn K (.type "bool") (.ref C) = some false) (k3 : PySem.W.subIn K (.type "int") (.ref C) = some false) (k4 : PySem.W.subIn K (.type "str") (.ref C) = some false)
    (k5 : PySem.W.subIn K (.type "tuple") (.ref C) = some false) (k6 : PySem.W.subIn K (.type "list") (.ref C) = some false) (k7 : PySem.W.subIn K (.type "dict") (.ref C) = some false)
    (hy : ∀ c ∈ yes, TI1 K mg (fun t => PySem.W.kitOne K t (.ref C)) c true) (hn : ∀ c ∈ no, TI1 K mg (fun t => PySem.W.kitOne K t (.ref C)) c false) : TIs K mg c0 yes no := by
  refine ⟨C, PySem.W.mg_of X G a, isiOk_mk (fun n h => ?_) hy hn⟩
  simp only [blts, List.mem_cons, List.not_mem_nil, or_false] at h
  rcases h with rfl | rfl | rfl | rfl | rfl | rfl | rfl
  · exact kit_ref ic tc k1 rfl
  · exact kit_ref ic tc k2 rfl
  · exact kit_ref ic tc k3 rfl
  · exact kit_ref ic tc k4 rfl
  · exact kit_ref ic tc k5 rfl
  · exact kit_ref ic tc k6 rfl
  · exact kit_ref ic tc k7 rfl
theorem ti1_mk {K : PySem.W.Frag} {mg : Glob} {c : Str} {C C0 : Addr} {r : Bool} (h : mg c = some (.ref C) ∧ InsTy K C) (k : PySem.W.kitOne K (.ref C) (.ref C0) = some r) : TI1 K mg (fun t => PySem.W.kitOne K t (.ref C0)) c r := ⟨C, h.1, h.2, k⟩
def TNf1 (K : PySem.W.Frag) (mg : Glob) (c c' : Str) : Prop := ∀ C, mg c = some (.ref C) → ∀ C', mg c' = some (.ref C') → PySem.W.notFirst K C (.ref C') = true
theorem nf1_mk {K : PySem.W.Frag} {mg : Glob} {h : Heap} {c c' : Str} {C C' : Addr} (X : K.In h) (G : h.Ns mainGlobals mg) (a : PySem.W.nsIn K mainGlobals c = some (some (.ref C))) (b : PySem.W.nsIn K mainGlobals c' = some (some (.ref C'))) (n : PySem.W.notFirst K C (.ref C') = true) : TNf1 K mg c c' := fun D h1 D' h2 => by
  rw [PySem.W.mg_of X G a] at h1
  rw [PySem.W.mg_of X G b] at h2
  cases h1
  cases h2
  exact n
theorem nf_mk {K : PySem.W.Frag} {mg : Glob} {ls rs : List Str} (h : ∀ c ∈ ls, ∀ c' ∈ rs, TNf1 K mg c c') : TNf K mg ls rs := fun c hc C hC c' hc' C' hC' => h c hc c' hc' C hC C' hC'
theorem isi_b {K : PySem.W.Frag} {n : String} (h : ∀ a ∈ blts, kitB a n = some (tyIs a [n])) : ∀ a ∈ blts, PySem.W.kitOne K (.type a) (.type n) = some (tyIs a [n]) := fun a ha => kit_ty (h a ha)
theorem tib_mk {K : PySem.W.Frag} {mg : Glob} {n : String} (h : ∀ a ∈ blts, kitB a n = some (tyIs a [n])) : TIb K mg n [] := isiOk_mk (isi_b h) (fun _ h => by cases h) (fun _ h => by cases h)
theorem kitAny2 {K : PySem.W.Frag} {t u v : Value} {r s : Bool} (h1 : PySem.W.kitOne K t u = some r) (h2 : PySem.W.kitOne K t v = some s) : PySem.W.kitAny K t [u, v] = some (r || s) := by
  refine kitAny_cons h1 (fun e => ?_) (fun e => by rw [e]; rfl)
  rw [e]
  exact kitAny_cons h2 (fun e => by rw [e]; exact kitAny_nil) (fun e => by rw [e]; rfl)
theorem tib2_mk {K : PySem.W.Frag} {mg : Glob} {n n2 : String} (h : ∀ a ∈ blts, kitB a n = some (tyIs a [n])) (h2 : ∀ a ∈ blts, kitB a n2 = some (tyIs a [n2])) (h3 : ∀ a ∈ blts, (tyIs a [n] || tyIs a [n2]) = tyIs a [n, n2]) : TIb2 K mg n n2 [] :=
  isiOk_mk (fun a ha => by rw [← h3 a ha]; exact kitAny2 (isi_b h a ha) (isi_b h2 a ha)) (fun _ h => by cases h) (fun _ h => by cases h)
/-! comparisons as tests -/
section
variable {X : Cx} {K : PySem.W.Frag} {mg : Glob} {Γ : Ent} {W : WX} {a b c : Expr} {m ma mb mc : EDen} {pos : Pos}
theorem tb_go {σ : St} {H : Hp} {Q : Bool → Hp → Prop} (h : ttG K mg Γ W (Gh.tB m) σ H Q) : teV K mg Γ W m σ H fun x H' => ∃ k, x = .bl k ∧ Q k H' := by
  obtain ⟨F, L, ρ, st, rl, q⟩ := h
  refine ⟨F, L, ρ, st, rl, q.bind.imp fun F1 L1 H1 st1 d s o q1 v kv => ?_⟩
  split at q1
  · exact ⟨_, kv.bl, q1.here o⟩
  · exact q1.elim
theorem g_tcmp {op : CmpOp} {r : R2} {g : Op2} (ho : OpR X (compareOp op) r) (hs : Sem2 kV K mg g r) (ha : PE X a (teR K mg Γ W ma)) (hb : PE X b (teR K mg Γ W mb)) (hm : behindInMarks op b = false) : PT X (.Compare a [op] [b] pos) (ttG K mg Γ W (Gh.tB (e2 g ma mb))) :=
  pt_imp (pt_cmpR ho ha hb hm) fun σ H Q h => t2_of (k := kV) kV_late hs σ H _ (tb_go h)
theorem pc_of {op : CmpOp} {r : R2} {ta tb : TE} (ho : OpR X (compareOp op) r) (ha : PE X a ta) (hb : PE X b tb) : PC X op a b (tOp r ta tb) := by
  refine ⟨fun pins s σ H Q I h => ?_⟩
  exact thn (ha.run pins s σ H _ I h) fun v s1 ⟨x, H1, I1, r1, q1⟩ => thn (hb.run pins s1 σ H1 _ I1 q1) fun u s2 ⟨y, H2, I2, r2, q2⟩ => ho pins s2 σ H2 x y v u Q I2 r1 r2 q2
theorem pc_or {op : CmpOp} {t t' : TE} (h : PC X op a b t) (h' : PC X op a b t') : PC X op a b (fun σ H Q => t σ H Q ∨ t' σ H Q) := ⟨fun pins s σ H Q I q => q.elim (h.run pins s σ H Q I) (h'.run pins s σ H Q I)⟩
theorem g_tin (hu : X.A.units + 64 < cLine) (ha : PE X a (teR X.K mg Γ W ma)) (hb : PE X b (teR X.K mg Γ W mb)) (hm : behindInMarks .In b = false := by rfl) : PT X (.Compare a [.In] [b] pos) (ttG X.K mg Γ W (Gh.tB (e2 gIn ma mb))) :=
  pt_imp (pt_cmp (pc_or (pc_of (op_inU hu) ha hb) (pc_din (by omega) ha hb)) hm) fun σ H Q h => in_go (tb_go h)
theorem g_tnotIn (hu : X.A.units + 64 < cLine) (ha : PE X a (teR X.K mg Γ W ma)) (hb : PE X b (teR X.K mg Γ W mb)) (hm : behindInMarks .NotIn b = false := by rfl) : PT X (.Compare a [.NotIn] [b] pos) (ttG X.K mg Γ W (Gh.tB (e2 gNotIn ma mb))) :=
  pt_imp (pt_cmp (pc_or (pc_of (op_notInU hu) ha hb) (pc_dnotin (by omega) ha hb)) hm) fun σ H Q h => notIn_go (tb_go h)
theorem chain_go {r r' : R2} {g g' : Op2} (hs : Sem2 kV K mg g r) (hs' : Sem2 kV K mg g' r') {σ : St} {H : Hp} {Q : VK} (h : teV K mg Γ W (eChain g g' ma mb mc) σ H Q) : tChain r r' (teR K mg Γ W ma) (teR K mg Γ W mb) (teR K mg Γ W mc) σ H Q := by
  obtain ⟨F, L, ρ, st, rl, p⟩ := h
  refine ⟨F, L, ρ, st, rl, p.bind.imp fun F1 L1 H1 st1 x s1 o1 p1 v kv => ?_⟩
  have rl1 := rl.step s1 o1
  refine ⟨F1, L1, ρ, st1, rl1, p1.bind.imp fun F2 L2 H2 st2 y s2 o2 p2 u ku => ?_⟩
  have rl2 := rl1.step s2 o2
  refine hs Γ W F2 L2 σ H2 ρ st2 x y v u _ rl2 (kR.step kv s2) ku (p2.bind.imp fun F3 L3 H3 st3 z s3 o3 p3 w kw => ?_)
  have rl3 := rl2.step s3 o3
  split at p3
  · obtain rfl := kw.bl
    refine ⟨true, rfl, ?_⟩
    rw [if_pos rfl]
    refine ⟨F3, L3, ρ, st3, rl3, p3.bind.imp fun F4 L4 H4 st4 u' s4 o4 p4 v' kv' => ?_⟩
    have rl4 := rl3.step s4 o4
    exact hs' Γ W F4 L4 σ H4 ρ st4 y u' u v' Q rl4 (kR.step (H0 := H2) (H := H3) (kR.step ku s3) s4) kv' p4
  · obtain rfl := kw.bl
    refine ⟨false, rfl, ?_⟩
    rw [if_neg (by decide)]
    exact p3.here o3 _ (.inr rfl)
  · exact p3.elim
theorem g_tchain {op op' : CmpOp} {r r' : R2} {g g' : Op2} (ho : OpR X (compareOp op) r) (ho' : OpR X (compareOp op') r') (hs : Sem2 kV K mg g r) (hs' : Sem2 kV K mg g' r') (ha : PE X a (teR K mg Γ W ma)) (hb : PE X b (teR K mg Γ W mb)) (hc : PE X c (teR K mg Γ W mc))
    (hm : lastMarks [op, op'] [b, c] = false := by with_unfolding_all rfl) : PT X (.Compare a [op, op'] [b, c] pos) (ttG K mg Γ W (Gh.tB (eChain g g' ma mb mc))) :=
  pt_imp (pt_chain ho ho' ha hb hc hm) fun σ H Q h => chain_go hs hs' (tb_go h)
end
end Gh
/-! Gh17: reckoning with denotations. -/
namespace Gh
open L2 PyProof.Rows PySem.Spec PySem
section
variable {ρ : REnv} {st : Store}
@[simp] theorem r_var (i : Nat) : eVar i ρ st = (match ρ[i]? with | some (Sl.val d) => .ok d st | _ => .bad) := rfl
@[simp] theorem r_peek (i : Nat) : ePeek i ρ st = (match ρ[i]? with | some (Sl.val d) => .ok d st | some (Sl.own d) => .ok d st | _ => .bad) := rfl
@[simp] theorem r_c (d : D) : eC d ρ st = .ok d st := rfl
@[simp] theorem r_e1 (g : Op1) (m : EDen) : e1 g m ρ st = (m ρ st).bind fun x st1 => g x st1 := rfl
@[simp] theorem r_e2 (g : Op2) (m n : EDen) : e2 g m n ρ st = (m ρ st).bind fun x st1 => (n ρ st1).bind fun y st2 => g x y st2 := rfl
@[simp] theorem r_eN (g : OpN) (m : ADen) : eN g m ρ st = (m ρ st).bind fun xs st1 => g xs st1 := rfl
@[simp] theorem r_aNil : aNil ρ st = .ok [] st := rfl
@[simp] theorem r_aCons (m : EDen) (r : ADen) : aCons m r ρ st = (m ρ st).bind fun d st1 => (r ρ st1).bind fun ds st2 => .ok (d :: ds) st2 := rfl
@[simp] theorem r_tup (m : ADen) : eTup m ρ st = (m ρ st).bind fun ds st1 => if flatL ds = true ∧ ds.length ≤ 1000 then .ok (.tup ds) st1 else .bad := rfl
@[simp] theorem r_lst (m : ADen) : eLst m ρ st = (m ρ st).bind fun ds st1 => if flatL ds = true ∧ ds.length ≤ 100000 then .ok (.lst ds) st1 else .bad := rfl
@[simp] theorem r_chain (g g' : Op2) (ma mb mc : EDen) : eChain g g' ma mb mc ρ st = (ma ρ st).bind fun x st1 => (mb ρ st1).bind fun y st2 => (g x y st2).bind fun z st3 => match z with
  | .bl true => (mc ρ st3).bind fun u st4 => g' y u st4
  | .bl false => .ok (.bl false) st3
  | _ => .bad := rfl
@[simp] theorem r_tB (m : EDen) : tB m ρ st = (m ρ st).bind fun d st1 => match d with
  | .bl b => .ok b st1
  | _ => .bad := rfl
@[simp] theorem r_tTr (m : EDen) : tTr m ρ st = (m ρ st).bind fun d st1 => match truth d with
  | some b => .ok b st1
  | none => .bad := rfl
@[simp] theorem r_tAnd (t u : TDen) : tAnd t u ρ st = (t ρ st).bind fun b st1 => if b then u ρ st1 else .ok false st1 := rfl
@[simp] theorem r_tOr (t u : TDen) : tOr t u ρ st = (t ρ st).bind fun b st1 => if b then .ok true st1 else u ρ st1 := rfl
@[simp] theorem r_tNot (t : TDen) : tNot t ρ st = (t ρ st).bind fun b st1 => .ok (!b) st1 := rfl
@[simp] theorem r_eOr (ma mb : EDen) : eOr ma mb ρ st = (ma ρ st).bind fun d st1 => match truth d with
  | some true => .ok d st1
  | some false => mb ρ st1
  | none => .bad := rfl
@[simp] theorem r_eAnd (ma mb : EDen) : eAnd ma mb ρ st = (ma ρ st).bind fun d st1 => match truth d with
  | some false => .ok d st1
  | some true => mb ρ st1
  | none => .bad := rfl
@[simp] theorem r_eNot (ma : EDen) : eNot ma ρ st = (ma ρ st).bind fun d st1 => match truth d with
  | some b => .ok (.bl (!b)) st1
  | none => .bad := rfl
@[simp] theorem r_eIf (t : TDen) (ma mb : EDen) : eIf t ma mb ρ st = (t ρ st).bind fun b st1 => if b then ma ρ st1 else mb ρ st1 := rfl
@[simp] theorem r_tYes : tYes ρ st = .ok true st := rfl
@[simp] theorem r_tOwn (cf : Str → Option CallF) (m : EDen) : tOwn cf m ρ st = (m ρ st).bind fun d st1 => askB cf [] d st1 := rfl
@[simp] theorem r_eOwn (cf : Str → Option CallF) (m : EDen) : eOwn cf m ρ st = (m ρ st).bind fun d st1 => (askB cf [] d st1).bind fun b st2 => .ok (.bl b) st2 := rfl
@[simp] theorem r_cutL (m : EDen) (lo hi : ODen) : eCutL m lo hi ρ st = (m ρ st).bind fun x st1 => (lo ρ st1).bind fun l st2 => (hi ρ st2).bind fun h st3 => gCutL x l h st3 := rfl
@[simp] theorem r_cut (m : EDen) (lo hi : ODen) : eCut m lo hi ρ st = (m ρ st).bind fun x st1 => (lo ρ st1).bind fun l st2 => (hi ρ st2).bind fun h st3 => gCut x l h st3 := rfl
@[simp] theorem r_oNone : oNone ρ st = .ok none st := rfl
@[simp] theorem r_oSome (m : EDen) : oSome m ρ st = (m ρ st).bind fun d st1 => match d with
  | .int i => .ok (some i) st1
  | _ => .bad := rfl
@[simp] theorem r_lSeq (m : EDen) : lSeq m ρ st = (m ρ st).bind fun d st1 => match seqOf d with
  | some ds => .ok ds st1
  | none => .bad := rfl
@[simp] theorem r_range1 (m : ADen) : lRange1 m ρ st = (m ρ st).bind fun ds st1 => match ds with
  | [.int n] => if -1000000000 ≤ n ∧ n ≤ 1000000000 then .ok (upto 0 n.toNat) st1 else .bad
  | _ => .bad := rfl
@[simp] theorem r_range2 (m : ADen) : lRange2 m ρ st = (m ρ st).bind fun ds st1 => match ds with
  | [.int i, .int j] => if -1000000000 ≤ i ∧ i ≤ 1000000000 ∧ -1000000000 ≤ j ∧ j ≤ 1000000000 then .ok (upto i (j - i).toNat) st1 else .bad
  | _ => .bad := rfl
theorem r_enum (m : ADen) : lEnumU m ρ st = (m ρ st).bind fun ds st1 => match ds with
  | [.lst xs] => .ok (numbered xs) st1
  | [.tup xs] => .ok (numbered xs) st1
  | _ => .bad := rfl
@[simp] theorem r_meth (l : List (Str × CallF)) (m : Str) (mo : EDen) (ms : ADen) : eMethU l m mo ms ρ st = (mo ρ st).bind fun d st1 => match instOf st1 d with
  | some (c, fs) => (match l.lookup c with
    | some f => if (fs.lookup m).isNone = true then (ms ρ st1).bind fun ds st2 => f (d :: ds) st2 else .bad
    | none => .bad)
  | none => .bad := rfl
@[simp] theorem r_mNil : mNil ρ st = .ok [] st := rfl
@[simp] theorem r_mVal (m : EDen) (ms : MDen) : mVal m ms ρ st = (m ρ st).bind fun d st1 => (ms ρ st1).bind fun ds st2 => .ok ((d, false) :: ds) st2 := rfl
@[simp] theorem r_mOwn (m : EDen) (ms : MDen) : mOwn m ms ρ st = (m ρ st).bind fun d st1 => (ms ρ st1).bind fun ds st2 => .ok ((d, true) :: ds) st2 := rfl
/-! statements -/
@[simp] theorem r_sNil : sNil ρ st = .nx ρ st := rfl
@[simp] theorem r_seq (a b : SDen) : sSeq a b ρ st = (match a ρ st with
  | .nx ρ' st' => b ρ' st'
  | r => r) := rfl
@[simp] theorem r_drop (m : EDen) : sDrop m ρ st = (m ρ st).s ρ fun _ st' => .nx ρ st' := rfl
@[simp] theorem r_ret (m : EDen) : sRet m ρ st = (m ρ st).s ρ fun d st' => .rt d st' := rfl
@[simp] theorem r_if (t : TDen) (a b : SDen) : sIf t a b ρ st = (t ρ st).s ρ fun c st' => if c then a ρ st' else b ρ st' := rfl
@[simp] theorem r_asg (i : Nat) (m : EDen) : sAsg i m ρ st = (m ρ st).s ρ fun d st' => .nx (ρ.set i (.val d)) st' := rfl
@[simp] theorem r_asgO (i : Nat) (m : EDen) : sAsgO i m ρ st = (m ρ st).s ρ fun d st' => .nx (ρ.set i (.own d)) st' := rfl
@[simp] theorem r_val (i : Nat) (s : SDen) : sVal i s ρ st = (match s ρ st with
  | .nx ρ' st' => .nx (frzE ρ' i) st'
  | r => r) := rfl
@[simp] theorem r_frz (is : List Nat) (s : SDen) : sFrz is s ρ st = s (is.foldl frzE ρ) st := rfl
@[simp] theorem r_par (is : List Nat) (m : MDen) : sPar is m ρ st = (m ρ st).s ρ fun ds st' => if ds.length = is.length then .nx (setR ρ is ds) st' else .bad := rfl
@[simp] theorem r_app (i : Nat) (m : EDen) : sApp i m ρ st = (match ρ[i]? with
  | some (.own (.lst ds)) => (m ρ st).s ρ fun d st1 => if ds.length < 100000 ∧ isLoc d = false then .nx (ρ.set i (.own (.lst (ds ++ [d])))) st1 else .bad
  | _ => .bad) := rfl
@[simp] theorem r_asgT (bd : BDen) (m : EDen) : sAsgT bd m ρ st = (m ρ st).s ρ fun d st' => if isLoc d = true then .bad else match bd d ρ with
  | some ρ' => .nx ρ' st'
  | none => .bad := rfl
@[simp] theorem r_for (mi : LDen) (bd : BDen) (b : SDen) : sFor mi bd b ρ st = (mi ρ st).s ρ fun ds st1 => forGo bd b ds ρ st1 := rfl
@[simp] theorem r_setR0 (is : List Nat) : setR ρ is [] = ρ := by cases is <;> rfl
@[simp] theorem r_setRv (i : Nat) (is : List Nat) (d : D) (ds : List (D × Bool)) : setR ρ (i :: is) ((d, false) :: ds) = setR (ρ.set i (.val d)) is ds := rfl
@[simp] theorem r_setRo (i : Nat) (is : List Nat) (d : D) (ds : List (D × Bool)) : setR ρ (i :: is) ((d, true) :: ds) = setR (ρ.set i (.own d)) is ds := rfl
@[simp] theorem r_bName (i : Nat) (d : D) : bName i d ρ = some (ρ.set i (.val d)) := rfl
@[simp] theorem r_bTup (n : Nat) (b : List D → REnv → Option REnv) (ds : List D) : bTup n b (.tup ds) ρ = if ds.length = n then b ds ρ else none := rfl
@[simp] theorem r_bNil : bNil [] ρ = some ρ := rfl
@[simp] theorem r_bCons (bd : BDen) (bds : List D → REnv → Option REnv) (d : D) (r : List D) : bCons bd bds (d :: r) ρ = (bd d ρ).bind (bds r) := rfl
@[simp] theorem r_frzE (i : Nat) : frzE ρ i = (match ρ[i]? with | some (.own d) => ρ.set i (.val d) | _ => ρ) := rfl
/-! operations -/
@[simp] theorem r_gAddI (i j : Int) : gAddI (.int i) (.int j) st = .ok (.int (i + j)) st := rfl
@[simp] theorem r_gSub (i j : Int) : gSub (.int i) (.int j) st = .ok (.int (i - j)) st := rfl
@[simp] theorem r_gMul (i j : Int) : gMul (.int i) (.int j) st = if (small64 i || small64 j) = true then .ok (.int (i * j)) st else .bad := rfl
@[simp] theorem r_gFdiv (i j : Int) : gFdiv (.int i) (.int j) st = if decide (0 < j ∧ j < 1073741824) = true then .ok (.int (i / j)) st else .bad := rfl
@[simp] theorem r_gMod (i j : Int) : gMod (.int i) (.int j) st = if decide (0 < j) = true then .ok (.int (i % j)) st else .bad := rfl
@[simp] theorem r_gLt (i j : Int) : gLt (.int i) (.int j) st = .ok (.bl (decide (i < j))) st := rfl
@[simp] theorem r_gLe (i j : Int) : gLe (.int i) (.int j) st = .ok (.bl (decide (i ≤ j))) st := rfl
@[simp] theorem r_gGt (i j : Int) : gGt (.int i) (.int j) st = .ok (.bl (decide (j < i))) st := rfl
@[simp] theorem r_gGe (i j : Int) : gGe (.int i) (.int j) st = .ok (.bl (decide (j ≤ i))) st := rfl
@[simp] theorem r_gNeg (i : Int) : gNeg (.int i) st = .ok (.int (-i)) st := rfl
@[simp] theorem r_gIs (d : D) : gIs d .non st = .ok (.bl (isNon d)) st := rfl
@[simp] theorem r_gIsNot (d : D) : gIsNot d .non st = .ok (.bl (!isNon d)) st := rfl
@[simp] theorem r_truthB (b : Bool) : truth (.bl b) = some b := rfl
@[simp] theorem r_truthI (i : Int) : truth (.int i) = some (i != 0) := rfl
@[simp] theorem r_truthN : truth .non = some false := rfl
@[simp] theorem r_truthL (ds : List D) : truth (.lst ds) = some (!ds.isEmpty) := rfl
@[simp] theorem r_truthT (ds : List D) : truth (.tup ds) = some (!ds.isEmpty) := rfl
@[simp] theorem r_seqL (ds : List D) : seqOf (.lst ds) = some ds := rfl
@[simp] theorem r_seqT (ds : List D) : seqOf (.tup ds) = some ds := rfl
end
/-! calls -/
theorem seq_nx {a b : SDen} {ρ ρ' : REnv} {st st' : Store} (h : a ρ st = .nx ρ' st') : sSeq a b ρ st = b ρ' st' := by
  unfold sSeq
  rw [h]
theorem seq_P {a b : SDen} {ρ ρ' : REnv} {st st' : Store} (P : SR → Prop) (h : a ρ st = .nx ρ' st') (k : P (b ρ' st')) : P (sSeq a b ρ st) := by
  rw [seq_nx h]
  exact k
theorem seq_rt {a b : SDen} {ρ : REnv} {st st' : Store} {d : D} (h : a ρ st = .rt d st') : sSeq a b ρ st = .rt d st' := by
  unfold sSeq
  rw [h]
theorem finD_flat {n : Nat} {d : D} {st : Store} (h : isLoc d = false) : finD n d st = .ok d (st.take n) := by
  cases d with
  | loc k => cases h
  | _ => rfl
theorem callD_rt {np nl : Nat} {body : SDen} {ds : List D} {st st' : Store} {d : D} (hl : ds.length = np) (h : body (ds.map Sl.val ++ List.replicate (nl - np) Sl.un) st = .rt d st') (hd : isLoc d = false) : callD np nl body ds st = .ok d (st'.take st.length) := by
  unfold callD
  rw [if_pos hl, h]
  exact finD_flat hd
theorem callD_nx {np nl : Nat} {body : SDen} {ds : List D} {st st' : Store} {ρ' : REnv} (hl : ds.length = np) (h : body (ds.map Sl.val ++ List.replicate (nl - np) Sl.un) st = .nx ρ' st') : callD np nl body ds st = .ok .non (st'.take st.length) := by
  unfold callD
  rw [if_pos hl, h]
  rfl
theorem callD_rt0 {np nl : Nat} {body : SDen} {ds : List D} {st : Store} {d : D} (hl : ds.length = np) (h : body (ds.map Sl.val ++ List.replicate (nl - np) Sl.un) st = .rt d st) (hd : isLoc d = false) : callD np nl body ds st = .ok d st := by
  rw [callD_rt hl h hd, List.take_length]
theorem callD_nx0 {np nl : Nat} {body : SDen} {ds : List D} {st : Store} {ρ' : REnv} (hl : ds.length = np) (h : body (ds.map Sl.val ++ List.replicate (nl - np) Sl.un) st = .nx ρ' st) : callD np nl body ds st = .ok .non st := by
  rw [callD_nx hl h, List.take_length]
/-! loops, comprehensions -/
theorem compGo_map {α : Type} {bd : BDen} {t : TDen} {me : EDen} {ρ : REnv} {st : Store} (emb f : α → D) (q : α → Bool) : ∀ ds : List α, (∀ a ∈ ds, ∃ ρ1, bd (emb a) ρ = some ρ1 ∧ t ρ1 st = .ok (q a) st ∧ (q a = true → me ρ1 st = .ok (f a) st ∧ isLoc (f a) = false)) →
    compGo bd t me ρ (ds.map emb) st = .ok ((ds.filter q).map f) st
  | [], _ => rfl
  | a :: ds, h => by
    obtain ⟨ρ1, h1, h2, h3⟩ := h a List.mem_cons_self
    have ih := compGo_map emb f q ds fun b hb => h b (List.mem_cons_of_mem _ hb)
    rw [List.map_cons]
    unfold compGo
    rw [h1]
    dsimp only
    rw [h2, RC.bind_ok]
    cases hq : q a with
    | true =>
      obtain ⟨h4, h5⟩ := h3 hq
      rw [if_pos rfl, h4, RC.bind_ok, h5, if_neg (by decide), ih, List.filter_cons, hq]
      rfl
    | false =>
      rw [if_neg (by decide), ih, List.filter_cons, hq]
      rfl
theorem eComp_map {α : Type} {mi : LDen} {bd : BDen} {t : TDen} {me : EDen} {vs : List Nat} {ρ : REnv} {st : Store} (emb f : α → D) (q : α → Bool) (ds : List α) (hi : mi ρ st = .ok (ds.map emb) st) (hl : ds.length < 100000)
    (h : ∀ a ∈ ds, ∃ ρ1, bd (emb a) (wipeR ρ vs) = some ρ1 ∧ t ρ1 st = .ok (q a) st ∧ (q a = true → me ρ1 st = .ok (f a) st ∧ isLoc (f a) = false)) : eComp mi bd t me vs ρ st = .ok (.lst ((ds.filter q).map f)) st := by
  unfold eComp
  rw [hi, RC.bind_ok, List.length_map, if_pos hl, compGo_map emb f q ds h]
  rfl
theorem forGo_inv {α : Type} {bd : BDen} {b : SDen} (emb : α → D) (I : REnv → Store → Prop) : ∀ (ds : List α), (∀ a ∈ ds, ∀ ρ st, I ρ st → ∃ ρ1, bd (emb a) ρ = some ρ1 ∧ ∃ ρ2 st2, b ρ1 st = .nx ρ2 st2 ∧ I ρ2 st2) → ∀ ρ st, I ρ st → ∃ ρ2 st2, forGo bd b (ds.map emb) ρ st = .nx ρ2 st2 ∧ I ρ2 st2
  | [], _, ρ, st, i => ⟨ρ, st, rfl, i⟩
  | a :: ds, h, ρ, st, i => by
    obtain ⟨ρ1, h1, ρ2, st2, h2, i2⟩ := h a List.mem_cons_self ρ st i
    obtain ⟨ρ3, st3, h3, i3⟩ := forGo_inv emb I ds (fun x hx => h x (List.mem_cons_of_mem _ hx)) ρ2 st2 i2
    refine ⟨ρ3, st3, ?_, i3⟩
    rw [List.map_cons]
    unfold forGo
    rw [h1]
    dsimp only
    rw [h2]
    exact h3
theorem forGo_find {α : Type} {bd : BDen} {b : SDen} {st : Store} (emb ret : α → D) (p : α → Bool) (Iv : REnv → Prop) : ∀ (ds : List α), (∀ a ∈ ds, ∀ ρ, Iv ρ → ∃ ρ1, bd (emb a) ρ = some ρ1 ∧ (p a = true → b ρ1 st = .rt (ret a) st) ∧ (p a = false → ∃ ρ2, b ρ1 st = .nx ρ2 st ∧ Iv ρ2)) →
    ∀ ρ, Iv ρ → (∃ a, ds.find? p = some a ∧ forGo bd b (ds.map emb) ρ st = .rt (ret a) st) ∨ (ds.find? p = none ∧ ∃ ρ2, forGo bd b (ds.map emb) ρ st = .nx ρ2 st ∧ Iv ρ2)
  | [], _, ρ, i => .inr ⟨rfl, ρ, rfl, i⟩
  | a :: ds, h, ρ, i => by
    obtain ⟨ρ1, h1, h2, h3⟩ := h a List.mem_cons_self ρ i
    rw [List.map_cons]
    unfold forGo
    rw [h1]
    dsimp only
    cases hp : p a with
    | true =>
      refine .inl ⟨a, by rw [List.find?_cons, hp], ?_⟩
      rw [h2 hp]
    | false =>
      obtain ⟨ρ2, h4, i2⟩ := h3 hp
      rw [h4, List.find?_cons, hp]
      exact forGo_find emb ret p Iv ds (fun x hx => h x (List.mem_cons_of_mem _ hx)) ρ2 i2
/-- a list's items with their places, from k on -/
def numF (k : Nat) : List D → List D
  | [] => []
  | d :: r => .tup [.int k, d] :: numF (k + 1) r
theorem numF_get : ∀ (ds : List D) (k i : Nat), (numF k ds)[i]? = (ds[i]?).map fun d => D.tup [.int ((k + i : Nat) : Int), d]
  | [], k, i => by simp [numF]
  | d :: r, k, 0 => by simp [numF]
  | d :: r, k, i + 1 => by
    have := numF_get r (k + 1) i
    simp only [numF, List.getElem?_cons_succ, this]
    rw [show k + 1 + i = k + (i + 1) by omega]
theorem numbered_F (ds : List D) : numbered ds = numF 0 ds := by
  apply List.ext_getElem?
  intro i
  rw [numF_get]
  unfold numbered
  rw [List.getElem?_map]
  by_cases h : i < ds.length
  · simp [h, List.getElem?_eq_getElem h, List.getD]
  · have h' : ds.length ≤ i := by omega
    simp [List.getElem?_eq_none h', h]
end Gh
/-! Gh18: != by an own __eq__; own == and != as tests. -/
namespace Gh
open L2 PyProof.Rows PySem.Spec PySem
theorem ne_bind (self : Value) : bindSpecial (.builtin "object.__ne__") self = pure (.builtin "object.__ne__", [self]) :=
  (Slot.of (T := "object") (name := "__ne__") (owner := "object") (n := "__ne__") (by rw [typeLookup_type, builtinLookup_eq_fast]; kernel_rfl) (by decide +kernel) (by decide +kernel) (by decide +kernel)
    (.inl (by decide +kernel)) (by rw [isSubtype_type]; kernel_rfl)).bind self
section
variable {prog : Program} {w : World} {A : Around} {E : Value → Shared → Prop} {s : Shared} {K : PySem.W.Frag} {x C L f : Addr} {h₀ : Heap} {m : Str → Option Value} {ox : Obj} {od : Option Obj} {b tb : Value}
theorem ne_K {Q : Value → Shared → Prop} (hu : A.units + 1 < cLine) (F : Fr h₀ L s.heap m) (X₀ : K.In h₀) (I : PySem.W.InstAt s.heap x ox C od) (hb : PySem.W.Looks (model prog w) s.heap (typeOf b) tb) (hn : PySem.W.notFirst K C tb = true)
    (hne : PySem.W.findIn K (.ref C) "__ne__" = some (some (.builtin "object.__ne__"))) (ho : PySem.W.mroIn K C (.type "object") = some true) (hs : PySem.W.findIn K (.ref C) "__eq__" = some (some (.ref f))) (hf : PySem.W.isFn K (.ref f) = true)
    (h : wpAny (model prog w) A.in1 (call (.ref f) [.ref x, b]) (fun r s' => ∃ c, r = .bool c ∧ Q (.bool (!c)) s') E s) : wpAny (model prog w) A (richCompare .NotEq (.ref x) b) Q E s := by
  have X := X₀.keeps F.keep
  have body : wpAny (model prog w) A.in1 (Builtin.«object.__ne__» ⟨[.ref x, b], []⟩) (fun fin s' => ∃ v, fin = .done (.ret v) ∧ (∃ c, v = .bool c ∧ Q v s')) E s := by
    unfold Builtin.«object.__ne__»
    refine wpAny_bind (m := slotArgs "__ne__" 1 _) (wpAny_of_eq (a := (Value.ref x, [b])) (by first | rfl | kernel_rfl) ?_)
    dsimp only
    refine wpAny_bind (wpAny_cRoomFor hu ?_)
    refine wpAny_bind (PySem.W.ifBound_K X I hs hf (wpAny_mono h (fun r s' hr => ?_) fun _ _ e => e))
    obtain ⟨c, rfl, hq⟩ := hr
    refine wpAny_bind (wpAny_truthy_bool ?_)
    exact wpAny_pure ⟨_, rfl, _, rfl, hq⟩
  have run : wpAny (model prog w) A (call (.builtin "object.__ne__") [.ref x, b]) (fun v s' => ∃ c, v = .bool c ∧ Q v s') E s := by
    refine wpAny_call (codeAny_call_builtin (by decide +kernel) PySem.F.cmpEntry_ne (PySem.W.check_slot PySem.F.cmpKind_ne PySem.F.cmpSplit_ne ?_ (PySem.F.cmpArgs_ne _ _) ?_))
    · exact I.type.andThen (PySem.W.looks_subIn X (show PySem.W.subIn K (.ref C) (.type "object") = some true from ho))
    · refine wpAny_mono body (fun fin s' z => ?_) fun _ _ e => e
      obtain ⟨v, rfl, c, rfl, q⟩ := z
      exact ⟨c, rfl, q⟩
  have one : wpAny (model prog w) A (tryCompare (.ref x) "__ne__" b) (fun r s' => ∃ v, r = some v ∧ Q v s') E s := by
    unfold tryCompare
    refine wpAny_bind ?_
    simp only [callSpecialIfBound?, bindSpecialIfBound?]
    refine wpAny_holding (wpAny_bind (wpAny_bind (wpAny_bind (I.type.here ((PySem.W.looks_findIn X hne).here ?_)))))
    refine wpAny_bind (wpAny_askSetting (wpAny_ite ?_))
    have fin : wpAny (model prog w) A (call (.builtin "object.__ne__") ([.ref x] ++ [b]) >>= fun v => pure (some v)) (fun r s' => ∃ c, r = some (.bool c) ∧ Q (.bool c) s') E s := by
      refine wpAny_bind (wpAny_mono run (fun v s' z => ?_) fun _ _ e => e)
      obtain ⟨c, rfl, q⟩ := z
      exact wpAny_pure ⟨c, rfl, q⟩
    have fin2 : wpAny (model prog w) A (call (.builtin "object.__ne__") ([.ref x] ++ [b]) >>= fun v => pure (some v)) (fun r s' => wpAny (model prog w) A (match r with | some .notImplemented | none => pure none | some v => pure (some v)) (fun r s' => ∃ v, r = some v ∧ Q v s') E s') E s := by
      refine wpAny_mono fin (fun r s' z => ?_) fun _ _ e => e
      obtain ⟨c, rfl, q⟩ := z
      exact wpAny_pure ⟨_, rfl, q⟩
    split
    · exact wpAny_bind (wpAny_of_eq (ne_bind _) (wpAny_pure (by exact fin2)))
    · exact wpAny_tryCatch (wpAny_bind (wpAny_of_eq (ne_bind _) (wpAny_pure (by exact fin2))))
  unfold richCompare
  simp only [oneThing_ref]
  refine wpAny_holding (wpAny_bind (wpAny_cRoomFor (by omega) ?_))
  refine wpAny_bind (I.type.here (wpAny_bind (hb.here ?_)))
  split
  · rename_i q
    have e : PySem.W.subIn K tb (.ref C) = some false := by
      rcases Bool.or_eq_true_iff.mp hn with e | e
      · rw [beq_iff_eq.mp e] at q; simp at q
      · exact beq_iff_eq.mp e
    refine wpAny_bind ((PySem.W.looks_subIn X e).here ?_)
    simp only [Bool.false_eq_true, if_false]
    refine wpAny_bind (wpAny_mono one (fun r s' z => ?_) fun _ _ e => e)
    obtain ⟨v, rfl, hq⟩ := z
    exact wpAny_pure hq
  · refine wpAny_bind (wpAny_pure ?_)
    simp only [Bool.false_eq_true, if_false]
    refine wpAny_bind (wpAny_mono one (fun r s' z => ?_) fun _ _ e => e)
    obtain ⟨v, rfl, hq⟩ := z
    exact wpAny_pure hq
end
/-- the class takes its != from object -/
def TNe (K : PySem.W.Frag) (mg : Glob) (c : Str) : Prop := ∃ C, mg c = some (.ref C) ∧ PySem.W.findIn K (.ref C) "__ne__" = some (some (.builtin "object.__ne__")) ∧ PySem.W.mroIn K C (.type "object") = some true
theorem tne_mk {K : PySem.W.Frag} {mg : Glob} {h : Heap} {c : Str} {C : Addr} (X : K.In h) (G : h.Ns mainGlobals mg) (a : PySem.W.nsIn K mainGlobals c = some (some (.ref C))) (n : PySem.W.findIn K (.ref C) "__ne__" = some (some (.builtin "object.__ne__"))) (o : PySem.W.mroIn K C (.type "object") = some true) : TNe K mg c :=
  ⟨C, PySem.W.mg_of X G a, n, o⟩
section
variable {X : Cx} {K : PySem.W.Frag} {mg : Glob} {Γ : Ent} {W : WX} {a b : Expr} {ma mb : EDen} {pos p : Pos} {kk : Nat} {cf : Str → Option CallF} {cs : List Str} {l : List (Str × CallF)}
def gNeI (cf : Str → Option CallF) (cs : List Str) : Op2 := fun x y st => if insIn cs st y = true then (askB cf [y] x st).bind fun b st2 => .ok (.bl (!b)) st2 else .bad
def rNeI (X : Cx) (kk : Nat) : R2 := fun x y H Q => rAsk X kk "__eq__" [y] x H (fun b H' => Q (.bl (!b)) H') ∧ ∃ a b C dx fs C' dx' fs', x = .ref a ∧ y = .ref b ∧ H a = some (.ins C dx fs) ∧ H b = some (.ins C' dx' fs') ∧ PySem.W.notFirst X.K C (.ref C') = true ∧
  PySem.W.findIn X.K (.ref C) "__ne__" = some (some (.builtin "object.__ne__")) ∧ PySem.W.mroIn X.K C (.type "object") = some true
theorem op_neI (hr : Room (kk + 1) X.A) (tk : Takes X W0) : OpR X (compareOp .NotEq) (rNeI X kk) := by
  rintro pins s σ H x y v u Q I rx ry ⟨⟨a, C, dx, fs, f, fd, ps, sp, rfl, ha, hf, hi, F, hb, q⟩, a', b', C2, dx2, fs2, C3, dx3, fs3, e1, rfl, hA, hB, nf, hne, ho⟩
  cases e1
  rw [ha] at hA; cases hA
  cases rx
  cases ry
  obtain ⟨mA, J, _⟩ := ins_get I.hok ha
  obtain ⟨mB, J', _⟩ := ins_get I.hok hB
  obtain ⟨od, J, _⟩ := J.look
  obtain ⟨od', J', _⟩ := J'.look
  obtain ⟨m, hF⟩ := I.fr
  refine ne_K (tb := .ref C3) (hu_of hr) hF I.ok.mod.kin J J'.type nf hne ho hf hi (wpAny_mono (run_at (us := [.ref a, .ref b']) (vs := [.ref a, .ref b']) F hr.in1 hb (no_pass (σ := σ) tk) I.env0.in1 I (.cons rfl (.cons rfl .nil)) q) (fun r s' z => ?_) fun _ _ y => y)
  obtain ⟨v, H', I', rz, c, rfl, q'⟩ := z
  cases rz
  exact ⟨c, rfl, .bl (!c), H', I', rfl, q'⟩
/-- what gEqI, gNeI have of the classes -/
theorem two_go {F H : Hp} {L : List Addr} {σ : St} {st : Store} {x y : D} {v u : V} {Q : Bool → Hp → Prop} (hK : X.K = K) (A : OwnM X mg kk "__eq__" cf) (o : Sto K mg F L H st) (kx : VRep K mg L F x v) (ky : VRep K mg L F y u) (hin : insIn cs st y = true)
    (h : Post K mg W σ F L H (askB cf [y] x st) fun F' L' H' _ b => Q b H') : rAsk X kk "__eq__" [u] v H Q ∧ ∃ a b C dx fs C' dx' fs' c c', v = .ref a ∧ u = .ref b ∧ H a = some (.ins C dx fs) ∧ H b = some (.ins C' dx' fs') ∧ mg c = some (.ref C) ∧ mg c' = some (.ref C') ∧ (cf c).isSome = true ∧ c' ∈ cs := by
  refine ⟨ask_go (ds := [y]) (vs := [u]) hK A o kx ⟨u, [], rfl, ky, rfl⟩ h, ?_⟩
  unfold insIn at hin
  split at hin
  · rename_i c' fs' ey
    obtain ⟨b, C', dx', fv', rfl, g1, g2, g3⟩ := inst_at o ky (instOf_at ey)
    unfold askB at h
    split at h
    · rename_i c1 fs1 e1
      split at h
      · rename_i g hg
        obtain ⟨a, C, dx, fv, rfl, h1, h2, h3⟩ := inst_at o kx (instOf_at e1)
        exact ⟨a, b, C, dx, fv, C', dx', fv', c1, c', rfl, rfl, h2, g2, h1, g1, by rw [hg]; rfl, by simpa using hin⟩
      · exact h.elim
    · exact h.elim
  · cases hin
theorem neI_go (hK : X.K = K) (A : OwnM X mg kk "__eq__" cf) (N : ∀ c, (cf c).isSome = true → ∀ C, mg c = some (.ref C) → (∀ c' ∈ cs, ∀ C', mg c' = some (.ref C') → PySem.W.notFirst X.K C (.ref C') = true) ∧ PySem.W.findIn X.K (.ref C) "__ne__" = some (some (.builtin "object.__ne__")) ∧ PySem.W.mroIn X.K C (.type "object") = some true)
    {σ : St} {H : Hp} {Q : VK} (h : teV K mg Γ W (e2 (gNeI cf cs) ma mb) σ H Q) : tOp (rNeI X kk) (teV K mg Γ W ma) (teV K mg Γ W mb) σ H Q := by
  obtain ⟨F, L, ρ, st, rl, q⟩ := h
  refine ⟨F, L, ρ, st, rl, q.bind.imp fun F1 L1 H1 st1 d s o q1 v kv => ⟨F1, L1, ρ, st1, rl.step s o, q1.bind.imp fun F2 L2 H2 st2 y s2 o2 q2 u ku => ?_⟩⟩
  unfold gNeI at q2
  split at q2
  · rename_i hin
    have q3 : Post K mg W σ F2 L2 H2 (askB cf [y] d st2) (fun F' L' H' _ b => Q (.bl (!b)) H') := Post.imp (Post.bind (f := fun b st2 => RC.ok (D.bl (!b)) st2) q2) fun F' L' H' st' r s3 o3 z => z.here o3 _ (.inr rfl)
    obtain ⟨z1, a, b, C, dx, fs, C', dx', fs', c, c', e1, e2, h1, h2, h3, h4, h5, h6⟩ := two_go (cs := cs) hK A o2 (s2.vrep kv) ku hin q3
    obtain ⟨n1, n2, n3⟩ := N c h5 C h3
    exact ⟨z1, a, b, C, dx, fs, C', dx', fs', e1, e2, h1, h2, n1 c' h6 C' h4, n2, n3⟩
  · exact q2.elim
theorem eqI_go (hK : X.K = K) (A : OwnM X mg kk "__eq__" cf) (N : ∀ c, (cf c).isSome = true → ∀ C, mg c = some (.ref C) → ∀ c' ∈ cs, ∀ C', mg c' = some (.ref C') → PySem.W.notFirst X.K C (.ref C') = true)
    {σ : St} {H : Hp} {Q : VK} (h : teV K mg Γ W (e2 (gEqI cf cs) ma mb) σ H Q) : tOp (rEqI X kk) (teV K mg Γ W ma) (teV K mg Γ W mb) σ H Q := by
  obtain ⟨F, L, ρ, st, rl, q⟩ := h
  refine ⟨F, L, ρ, st, rl, q.bind.imp fun F1 L1 H1 st1 d s o q1 v kv => ⟨F1, L1, ρ, st1, rl.step s o, q1.bind.imp fun F2 L2 H2 st2 y s2 o2 q2 u ku => ?_⟩⟩
  unfold gEqI at q2
  split at q2
  · rename_i hin
    have q3 : Post K mg W σ F2 L2 H2 (askB cf [y] d st2) (fun F' L' H' _ b => Q (.bl b) H') := Post.imp (Post.bind (f := fun b st2 => RC.ok (D.bl b) st2) q2) fun F' L' H' st' r s3 o3 z => z.here o3 _ (.inr rfl)
    obtain ⟨z1, a, b, C, dx, fs, C', dx', fs', c, c', e1, e2, h1, h2, h3, h4, h5, h6⟩ := two_go (cs := cs) hK A o2 (s2.vrep kv) ku hin q3
    exact ⟨z1, a, b, C, dx, fs, C', dx', fs', e1, e2, h1, h2, N c h5 C h3 c' h6 C' h4⟩
  · exact q2.elim
theorem look_mem : ∀ (l : List (Str × CallF)) (c : Str), (l.lookup c).isSome = true → c ∈ l.map (·.1)
  | [], c, h => by cases h
  | p :: t, c, h => by
    rw [List.lookup_cons] at h
    cases q : c == p.1 with
    | true => rw [beq_iff_eq] at q; simp [q]
    | false =>
      rw [q] at h
      exact List.mem_cons_of_mem _ (look_mem t c h)
theorem f_teqI (A : OkMs X.prog X.w X.K X.mg X.base kk "__eq__" l) (N : TNf X.K X.mg (l.map (·.1)) cs) (hr : Room kk X.A) (ha : PE X a (teV X.K X.mg Γ W ma)) (hb : PE X b (teV X.K X.mg Γ W mb)) (hm : behindInMarks .Eq b = false := by rfl) :
    PT X (.Compare a [.Eq] [b] pos) (ttG X.K X.mg Γ W (Gh.tB (e2 (gEqI (fun c => l.lookup c) cs) ma mb))) :=
  pt_imp (pt_cmpR (op_eqI hr takesW) ha hb hm) fun σ H Q h => eqI_go rfl A.own (fun c hc C hC c' hc' C' hC' => N c (look_mem l c hc) C hC c' hc' C' hC') (tb_go h)
theorem ne_facts (N : TNf X.K X.mg (l.map (·.1)) cs) (M : ∀ c ∈ l.map (·.1), TNe X.K X.mg c) : ∀ c, (l.lookup c).isSome = true → ∀ C, X.mg c = some (.ref C) → (∀ c' ∈ cs, ∀ C', X.mg c' = some (.ref C') → PySem.W.notFirst X.K C (.ref C') = true) ∧ PySem.W.findIn X.K (.ref C) "__ne__" = some (some (.builtin "object.__ne__")) ∧ PySem.W.mroIn X.K C (.type "object") = some true := fun c hc C hC => by
  obtain ⟨C', h1, h2, h3⟩ := M c (look_mem l c hc)
  rw [h1] at hC; cases hC
  exact ⟨fun c' hc' C'' hC'' => N c (look_mem l c hc) _ h1 c' hc' C'' hC'', h2, h3⟩
theorem f_neI (A : OkMs X.prog X.w X.K X.mg X.base kk "__eq__" l) (N : TNf X.K X.mg (l.map (·.1)) cs) (M : ∀ c ∈ l.map (·.1), TNe X.K X.mg c) (hr : Room (kk + 1) X.A) (ha : PE X a (teV X.K X.mg Γ W ma)) (hb : PE X b (teV X.K X.mg Γ W mb)) (hm : behindInMarks .NotEq b = false := by rfl) :
    PE X (.Compare a [.NotEq] [b] pos) (teV X.K X.mg Γ W (e2 (gNeI (fun c => l.lookup c) cs) ma mb)) :=
  pe_imp (pe_cmpR (op_neI hr takesW) ha hb hm) fun σ H Q h => neI_go rfl A.own (ne_facts N M) h
theorem f_tneI (A : OkMs X.prog X.w X.K X.mg X.base kk "__eq__" l) (N : TNf X.K X.mg (l.map (·.1)) cs) (M : ∀ c ∈ l.map (·.1), TNe X.K X.mg c) (hr : Room (kk + 1) X.A) (ha : PE X a (teV X.K X.mg Γ W ma)) (hb : PE X b (teV X.K X.mg Γ W mb)) (hm : behindInMarks .NotEq b = false := by rfl) :
    PT X (.Compare a [.NotEq] [b] pos) (ttG X.K X.mg Γ W (Gh.tB (e2 (gNeI (fun c => l.lookup c) cs) ma mb))) :=
  pt_imp (pt_cmpR (op_neI hr takesW) ha hb hm) fun σ H Q h => neI_go rfl A.own (ne_facts N M) (tb_go h)
end
end Gh
/-! Gh19: dicts: displays, get. -/
namespace Gh
open L2 PyProof.Rows PySem.Spec PySem
section
variable {X : Cx} {K : PySem.W.Frag} {mg : Glob} {Γ : Ent} {W : WX} {o e f : Expr} {mo me mf : EDen} {pos apos cpos : Pos}
/-- d.get(k, x) -/
def eGet2 (mo me mf : EDen) : EDen := fun ρ st => (mo ρ st).bind fun x st1 => match x with
  | .dct kvs => (me ρ st1).bind fun y st2 => (mf ρ st2).bind fun z st3 => match keyOf y with
    | some k => .ok ((valD kvs k).getD z) st3
    | none => .bad
  | _ => .bad
/-- a dict that is read -/
theorem kR.isD {F H H0 : Hp} {L : List Addr} {σ : St} {ρ : REnv} {st : Store} {kvs : List (Key × D)} {v : V} (rl : Rl K mg Γ F L σ H ρ st) (kv : kR K mg σ H0 ρ F L H (.dct kvs) v) : ∃ a, v = .ref a ∧ IsD H a := by
  obtain ⟨a, vs, rfl, h1, _⟩ := kv.dct rl
  exact ⟨a, rfl, .inl ⟨vs, h1⟩⟩
theorem g_get2 (hK : X.K = K) (hu : X.A.units + 1 < cLine) (ho : PE X o (teR K mg Γ W mo)) (he : PE X e (teR K mg Γ W me)) (hf : PE X f (teV K mg Γ W mf)) (m : M2 X o "get" apos e f cpos) : PE X (.Call (.Attribute o "get" apos) [e, f] [] cpos) (teV K mg Γ W (eGet2 mo me mf)) := by
  refine pe_imp (pe_dget2 hu ho he hf m) fun σ H Q ⟨F, L, ρ, st, rl, q⟩ => ⟨F, L, ρ, st, rl, q.bind.imp fun F1 L1 H1 st1 x s1 o1 q1 v kv => ?_⟩
  have rl1 := rl.step s1 o1
  cases x with
  | dct kvs =>
    obtain ⟨a, rfl, hd⟩ := kR.isD rl1 kv
    refine ⟨a, rfl, hd, F1, L1, ρ, st1, rl1, q1.bind.imp fun F2 L2 H2 st2 y s2 o2 q2 u ku => ?_⟩
    have rl2 := rl1.step s2 o2
    refine ⟨F2, L2, ρ, st2, rl2, q2.bind.imp fun F3 L3 H3 st3 z s3 o3 q3 w kw => ?_⟩
    have rl3 := rl2.step s3 o3
    split at q3
    · rename_i k hk
      have kv3 : kR K mg σ H3 ρ F3 L3 H3 (.dct kvs) (.ref a) := kR.step (H0 := H3) (kR.step (H0 := H) (H0' := H3) (H3 := H3) kv s2) s3
      obtain ⟨a', vs, e1, h1, h2⟩ := kv3.dct rl3
      cases e1
      have ku3 : kR K mg σ H3 ρ F3 L3 H3 y u := kR.step ku s3
      cases key_at rl3 ku3 hk
      refine ⟨valV vs k, .inl ⟨vs, k, h1, rfl, rfl⟩, q3.here o3 _ ?_⟩
      rcases h2.val k with ⟨z1, z2⟩ | ⟨d, w', z1, z2, z3⟩
      · rw [z1, z2]; exact kw
      · rw [z1, z2]; exact .inr z3
    · exact q3.elim
  | _ => exact q1.elim
/-! ### displays -/
abbrev PDen := REnv → Store → RC (List (Key × D))
def pNil : PDen := fun _ st => .ok [] st
def pCons (mk mv : EDen) (r : PDen) : PDen := fun ρ st => (mk ρ st).bind fun x st1 => (mv ρ st1).bind fun y st2 => (r ρ st2).bind fun kvs st3 => match keyOf x with
  | some k => if isLoc y = false then .ok ((k, y) :: kvs) st3 else .bad
  | none => .bad
/-- the pairs of a display -/
def PrG (K : PySem.W.Frag) (mg : Glob) (Γ : Ent) (W : WX) (trs : List (TE × TE)) (m : PDen) : Prop := ∀ (σ : St) (H : Hp) (Q : List (V × V) → Hp → Prop), (∃ F L ρ st, Rl K mg Γ F L σ H ρ st ∧
  Post K mg W σ F L H (m ρ st) fun F' L' H' _ kvs => ∀ vs, RepK K mg F' kvs vs → Q (vs.map fun kv => (L2.kV kv.1, kv.2)) H') → tPairs trs σ H Q
theorem p_nil : PrG K mg Γ W [] pNil := fun σ H Q ⟨F, L, ρ, st, rl, q⟩ => q.here rl.sto [] rfl
theorem p_cons {mk mv : EDen} {r : PDen} {trs : List (TE × TE)} (h : PrG K mg Γ W trs r) : PrG K mg Γ W ((teV K mg Γ W mk, teV K mg Γ W mv) :: trs) (pCons mk mv r) := fun σ H Q ⟨F, L, ρ, st, rl, q⟩ => by
  refine ⟨F, L, ρ, st, rl, q.bind.imp fun F1 L1 H1 st1 x s1 o1 q1 v kv => ?_⟩
  have rl1 := rl.step s1 o1
  refine ⟨F1, L1, ρ, st1, rl1, q1.bind.imp fun F2 L2 H2 st2 y s2 o2 q2 u ku => ?_⟩
  have rl2 := rl1.step s2 o2
  refine h σ H2 _ ⟨F2, L2, ρ, st2, rl2, q2.bind.imp fun F3 L3 H3 st3 kvs s3 o3 q3 vs kvs' => ?_⟩
  split at q3
  · rename_i k hk
    split at q3
    · rename_i hl
      have e := keyOf_v hk kv
      subst e
      have := q3.here o3 ((k, u) :: vs) ⟨u, vs, rfl, VRep.flat (s3.vrep ku) hl, kvs'⟩
      simpa using this
    · exact q3.elim
  · exact q3.elim
/-- {k: v, ..}: a new dict -/
def eDict (m : PDen) : EDen := fun ρ st => (m ρ st).bind fun kvs st1 => if kvs.length ≤ 15 then .ok (.dct (mergeD [] kvs)) st1 else .bad
theorem g_dict0 : PE X (.Dict [] [] pos) (teO K mg Γ W (eDict pNil)) := by
  refine pe_imp pe_dnewK fun σ H Q ⟨F, L, ρ, st, rl, q⟩ p hp => ?_
  exact q F L (upd H p (.dK [])) (Stp.fresh hp) (rl.sto.fresh hp) _ ⟨p, rfl, hp, rl.newF hp, rl.newL hp, [], upd_same, rfl⟩
theorem Sto.updN {F H : Hp} {L : List Addr} {st : Store} {p : Addr} {u : HO} (x : Sto K mg F L H st) (nF : F p = none) (nL : p ∉ L) : Sto K mg F L (upd H p u) st := by
  refine ⟨fun b w q => ?_, x.nd, x.len, fun n b d h1 h2 => ?_⟩
  · have hb : b ≠ p := fun z => by rw [z, nF] at q; cases q
    rw [upd_ne hb]
    exact x.ex b w q
  · obtain ⟨g1, g2⟩ := x.at_ n b d h1 h2
    have hb : b ≠ p := fun z => nL (z ▸ List.mem_of_getElem? h1)
    exact ⟨g1, g2.mono (Ex.refl F) fun w z => by rw [upd_ne hb]; exact z⟩
theorem g_dict {keys : List (Option Expr)} {values : List Expr} {trs : List (TE × TE)} {m : PDen} (h : PPs X pos keys values trs) (hp : PrG K mg Γ W trs m) (hall : keys.all (·.isSome) = true := by rfl) (hl : keys.length = values.length := by rfl) (h0 : keys ≠ [] := by exact fun z => by cases z)
    (h15 : keys.length ≤ 15 := by decide) : PE X (.Dict keys values pos) (teO K mg Γ W (eDict m)) := by
  refine pe_imp (pe_disp h hall hl h0 h15) fun σ H Q ⟨F, L, ρ, st, rl, q⟩ p np => ?_
  have s0 : Stp F L H F L (upd H p (.dK [])) := Stp.fresh np
  have o0 := rl.sto.fresh (o := .dK []) np
  refine hp σ _ _ ⟨F, L, ρ, st, rl.step s0 o0, ?_⟩
  unfold eDict at q
  cases hm : m ρ st with
  | bad => rw [hm] at q; exact q.elim
  | exc c fs st' =>
    rw [hm] at q
    exact Post.step q s0
  | ok kvs st1 =>
    rw [hm] at q
    dsimp only [RC.bind_ok] at q
    intro F1 L1 H1 s o vs kvs'
    split at q
    · rename_i h15
      obtain ⟨g1, g2, g3⟩ := s.kp p _ upd_same (rl.newL np)
      have nF : F1 p = none := g2.trans (rl.newF np)
      refine ⟨g1, vs, rfl, by rw [← kvs'.length]; exact h15, ?_⟩
      have s2 : Stp F L H F1 L1 (upd H1 p (.dK (mergeK [] vs))) := by
        refine ⟨s.ex, s.pre, fun b u hb nb => ?_⟩
        have hne : b ≠ p := ne_of_none hb np
        obtain ⟨k1, k2, k3⟩ := s.kp b u (by rw [upd_ne hne]; exact hb) nb
        exact ⟨by rw [upd_ne hne]; exact k1, k2, k3⟩
      exact q F1 L1 _ s2 (o.updN nF g3) _ ⟨p, rfl, np, nF, g3, _, upd_same, RepK.merge kvs' rfl⟩
    · exact q.elim
end
end Gh
/-! Gh20: the module's constants. -/
namespace Gh
open L2 PyProof.Rows PySem.Spec PySem
/-- a text, a number of the module -/
def TS (mg : Glob) (x s : Str) : Prop := ∃ t, mg x = some (.str s t)
def TN (mg : Glob) (x : Str) (i : Int) : Prop := ∃ t, mg x = some (.int i t)
section
variable {X : Cx} {Γ : Ent} {W : WX} {pos : Pos} {x s : Str} {i : Int}
theorem f_gs (h : TS X.mg x s) (hg : Gl X x := by rfl) (hd : (x == ("__debug__" : Str)) = false := by decide) : PE X (.Name x pos) (teV X.K X.mg Γ W (eC (.str s))) := by
  obtain ⟨t, h⟩ := h
  exact g_glob (v := .str s) h ⟨t, rfl⟩ (fun F => rfl) hg hd
theorem f_gn (h : TN X.mg x i) (hg : Gl X x := by rfl) (hd : (x == ("__debug__" : Str)) = false := by decide) : PE X (.Name x pos) (teV X.K X.mg Γ W (eC (.int i))) := by
  obtain ⟨t, h⟩ := h
  exact g_glob (v := .int i) h ⟨t, rfl⟩ (fun F => rfl) hg hd
end
theorem ts_mk {K : PySem.W.Frag} {mg : Glob} {h : Heap} {x s : Str} {t : Tok} (X : K.In h) (G : h.Ns mainGlobals mg) (a : PySem.W.nsIn K mainGlobals x = some (some (.str s t))) : TS mg x s := ⟨t, PySem.W.mg_of X G a⟩
theorem tn_mk {K : PySem.W.Frag} {mg : Glob} {h : Heap} {x : Str} {i : Int} {t : Tok} (X : K.In h) (G : h.Ns mainGlobals mg) (a : PySem.W.nsIn K mainGlobals x = some (some (.int i t))) : TN mg x i := ⟨t, PySem.W.mg_of X G a⟩
end Gh
/-! Gh21: list.index; sorted. -/
namespace Gh
open L2 PyProof.Rows PySem.Spec PySem
section
variable {X : Cx} {K : PySem.W.Frag} {mg : Glob} {Γ : Ent} {W : WX} {o e : Expr} {mo me : EDen} {pos apos cpos : Pos}
/-- the first place of x among items -/
def idxD (x : D) (ds : List D) : Option Nat := ds.findIdx? fun y => D.eqv y x
def eIndex (mo me : EDen) : EDen := fun ρ st => (mo ρ st).bind fun x st1 => match x with
  | .lst ds => (me ρ st1).bind fun y st2 => if flatD y = true ∧ ds.all flatD = true then (match idxD y ds with
    | some i => .ok (.int (i : Int)) st2
    | none => .bad) else .bad
  | _ => .bad
theorem repl_flat {F : Hp} {L : List Addr} {y : D} {u : V} (hy : flatD y = true) (ry : VRep K mg L F y u) : ∀ {ds : List D} {vs : List V}, ds.all flatD = true → RepL K mg F ds vs → vs.all flatV = true ∧ ∀ (m : Nat) (z : D) (w : V), ds[m]? = some z → vs[m]? = some w → eqV w u = D.eqv z y
  | [], vs, _, h => by
    have h : vs = [] := h
    subst h
    exact ⟨rfl, fun m z w e => by simp at e⟩
  | d :: ds, vs, ha, h => by
    obtain ⟨v, r, rfl, h2, h3⟩ := h
    simp only [List.all_cons, Bool.and_eq_true] at ha
    obtain ⟨i1, i2⟩ := repl_flat hy ry ha.2 h3
    obtain ⟨f1, f2⟩ := flat_of (K := K) (mg := mg) (F := F) (H := F) (L := L) ha.1 (.inr h2)
    refine ⟨by simp [f1, i1], fun m z w e1 e2 => ?_⟩
    cases m with
    | zero =>
      have e1 : d = z := by simpa using e1
      have e2 : v = w := by simpa using e2
      subst e1 e2
      exact f2 y u hy ry
    | succ m => exact i2 m z w (by simpa using e1) (by simpa using e2)
theorem g_index (hK : X.K = K) (ho : PE X o (teR K mg Γ W mo)) (he : PE X e (teV K mg Γ W me)) (hbase : attributeBase o "index" X.env (eval o X.env) = eval o X.env := by rfl)
    (hfew : ((backTo cpos (starEach [e] X.env)).all (fun x => !x.1) && (backToKw cpos (keywordEach [] X.env)).all (fun x => x.1.isSome)
      && decide (([e] : List Expr).length + ([] : List Keyword).length + (if ([] : List Keyword).isEmpty then 0 else 1) < 30)) = true := by rfl)
    (hline : (apos.endLine == cpos.line) = true := by rfl) (hs : starEach [e] X.env = (false, eval e X.env) :: starEach [] X.env := by rfl) (hplain : (backTo cpos (starEach [] X.env)).any (·.1) = false := by rfl) :
    PE X (.Call (.Attribute o "index" apos) [e] [] cpos) (teV K mg Γ W (eIndex mo me)) := by
  subst hK
  refine pe_imp (pe_bm PySem.F.plainAttrs_list PySem.F.slot_list_index PySem.F.type_list_index mt_index ho (pa_cons he pa_nil hs) hbase hfew hline hs hplain) fun σ H Q ⟨F, L, ρ, st, rl, q⟩ => ⟨F, L, ρ, st, rl, q.bind.imp fun F1 L1 H1 st1 x s1 o1 q1 v kv => ?_⟩
  have rl1 := rl.step s1 o1
  cases x with
  | lst ds =>
    obtain ⟨a, vs, rfl, h1, h2⟩ := kv.lst rl1
    refine ⟨.inl ⟨rfl, vs, .inl (.inl h1)⟩, F1, L1, ρ, st1, rl1, q1.bind.imp fun F2 L2 H2 st2 y s2 o2 q2 u ku => ?_⟩
    have rl2 := rl1.step s2 o2
    split at q2
    · rename_i hf
      split at q2
      · rename_i i hi
        have kv2 : kR X.K mg σ H2 ρ F2 L2 H2 (.lst ds) (.ref a) := kR.step kv s2
        obtain ⟨a', ws, e1, g1, g2⟩ := kv2.lst rl2
        cases e1
        obtain ⟨f1, f2⟩ := repl_flat hf.1 ku hf.2 g2
        unfold idxD at hi
        rw [List.findIdx?_eq_some_iff_getElem] at hi
        obtain ⟨hlt, z1, z2⟩ := hi
        obtain ⟨w, hw, rw'⟩ := g2.get (List.getElem?_eq_getElem hlt)
        refine ⟨a, ws, u, i, w, rfl, rfl, .inl (.inl g1), (flat_of (H := H2) hf.1 ku).1, f1, hw, ?_, fun m z' hm hz => ?_, q2.here o2 _ (.inr rfl)⟩
        · rw [f2 i _ w (List.getElem?_eq_getElem hlt) hw]
          exact z1
        · have hml : m < ds.length := by omega
          rw [f2 m _ z' (List.getElem?_eq_getElem hml) hz]
          have := z2 m hm
          simpa using this
      · exact q2.elim
    · exact q2.elim
  | _ => exact q1.elim
end
end Gh
/-! Gh22: sorted of ints. -/
namespace Gh
open L2 PyProof.Rows PySem.Spec PySem
def sortI (ns : List Int) : List Int := ns.mergeSort fun a b => decide (a ≤ b)
theorem sortI_perm (ns : List Int) : (sortI ns).Perm ns := List.mergeSort_perm ns _
theorem sortI_le (ns : List Int) : (sortI ns).Pairwise (· ≤ ·) := by
  have h := List.pairwise_mergeSort (le := fun (a b : Int) => decide (a ≤ b)) (fun a b c h1 h2 => by simp at *; omega) (fun a b => by simp; omega) ns
  exact h.imp fun h => by simpa using h
theorem sortI_is {ns ms : List Int} (p : ms.Perm ns) (h : ms.Pairwise (· ≤ ·)) : ms = sortI ns := by
  refine List.Perm.eq_of_pairwise (le := (· ≤ ·)) (fun a b _ _ h1 h2 => by omega) h (sortI_le ns) (p.trans (sortI_perm ns).symm)
def gSorted : OpN := fun ds st => match ds with
  | [.lst es] => (match asInts es with
    | some ns => .ok (.lst ((sortI ns).map D.int)) st
    | none => .bad)
  | _ => .bad
section
variable {X : Cx} {K : PySem.W.Frag} {mg : Glob}
theorem repl_I {F : Hp} : ∀ ns : List Int, RepL K mg F (ns.map D.int) (ns.map V.int)
  | [] => rfl
  | n :: ns => ⟨_, _, rfl, rfl, repl_I ns⟩
theorem sem_sorted : SemN kO K mg gSorted (rSortedI K) := by
  intro Γ W F L σ H ρ st ds vs Q rl kvs q
  unfold gSorted at q
  split at q
  · rename_i es
    obtain ⟨v, rfl, kv⟩ := kvs.one (Γ := Γ)
    split at q
    · rename_i ns hb
      obtain ⟨a, us, rfl, h1, h2⟩ := list_at rl kv
      cases asInts_rep h2 hb
      refine ⟨a, ns, rfl, h1, fun ms p hp hs np => ?_⟩
      rw [sortI_is hp hs]
      exact q F L (upd H p (.lst ((sortI ns).map V.int))) (Stp.fresh np) (rl.sto.fresh np) _ ⟨p, rfl, np, rl.newF np, rl.newL np, _, upd_same, repl_I _⟩
    · exact q.elim
  · exact q.elim
end
end Gh
/-! Gh23: sorted of texts. -/
namespace Gh
open L2 PyProof.Rows PySem.Spec PySem
def leS (a b : Str) : Bool := !decide (b.cps.toList < a.cps.toList)
theorem leS_iff (a b : Str) : leS a b = true ↔ a.cps.toList ≤ b.cps.toList := by
  unfold leS
  simp only [Bool.not_eq_true', decide_eq_false_iff_not]
  exact List.not_lt
theorem leS_trans (a b c : Str) (h : leS a b = true) (h2 : leS b c = true) : leS a c = true := by
  rw [leS_iff] at h h2 ⊢
  exact List.le_trans h h2
theorem leS_total (a b : Str) : (leS a b || leS b a) = true := by
  rcases List.le_total a.cps.toList b.cps.toList with h | h
  · rw [(leS_iff a b).mpr h]
    rfl
  · rw [(leS_iff b a).mpr h, Bool.or_true]
theorem leS_anti (a b : Str) (h : leS a b = true) (h2 : leS b a = true) : a = b := by
  rw [leS_iff] at h h2
  have e := List.le_antisymm h h2
  cases a with
  | mk x =>
    cases b with
    | mk y =>
      congr 1
      exact Array.ext' e
def sortS (xs : List Str) : List Str := xs.mergeSort leS
theorem sortS_perm (xs : List Str) : (sortS xs).Perm xs := List.mergeSort_perm xs _
theorem sortS_le (xs : List Str) : (sortS xs).Pairwise (fun a b => leS a b = true) := List.pairwise_mergeSort leS_trans leS_total xs
theorem rising_pw : ∀ (l : List Str) (p : Str), risingS p l = true → (p :: l).Pairwise (fun a b => leS a b = true)
  | [], p, _ => by simp
  | x :: r, p, h => by
    have h : (!ltCps x.cps.toList p.cps.toList && risingS x r) = true := h
    simp only [Bool.and_eq_true] at h
    have ih := rising_pw r x h.2
    have hp : leS p x = true := by
      unfold leS
      rw [← ltCps_eq]
      exact h.1
    refine List.pairwise_cons.mpr ⟨fun z hz => ?_, ih⟩
    rcases List.mem_cons.mp hz with rfl | hz
    · exact hp
    · exact leS_trans _ _ _ hp ((List.pairwise_cons.mp ih).1 z hz)
theorem sortedS_pw (l : List Str) (h : sortedS l = true) : l.Pairwise (fun a b => leS a b = true) := by
  cases l with
  | nil => exact List.Pairwise.nil
  | cons x r => exact rising_pw r x h
theorem sortS_is {xs ys : List Str} (p : ys.Perm xs) (h : sortedS ys = true) : ys = sortS xs :=
  List.Perm.eq_of_pairwise (le := fun a b => leS a b = true) (fun a b _ _ h1 h2 => leS_anti a b h1 h2) (sortedS_pw ys h) (sortS_le xs) (p.trans (sortS_perm xs).symm)
def asStrs : List D → Option (List Str)
  | [] => some []
  | .str i :: r => (asStrs r).map (i :: ·)
  | _ => none
section
variable {X : Cx} {K : PySem.W.Frag} {mg : Glob}
theorem asStrs_rep {F : Hp} : ∀ {ds : List D} {vs : List V} {ns : List Str}, RepL K mg F ds vs → asStrs ds = some ns → vs = ns.map V.str
  | [], vs, ns, h, e => by
    have h : vs = [] := h
    cases e
    exact h
  | .str i :: ds, vs, ns, h, e => by
    obtain ⟨v, r, rfl, h2, h3⟩ := h
    have e : (asStrs ds).map (i :: ·) = some ns := e
    cases hq : asStrs ds with
    | none => rw [hq] at e; cases e
    | some ms =>
      rw [hq] at e
      cases e
      rw [asStrs_rep h3 hq, show v = V.str i from h2]
      rfl
  | .non :: ds, vs, ns, h, e => by cases e
  | .bl _ :: ds, vs, ns, h, e => by cases e
  | .int _ :: ds, vs, ns, h, e => by cases e
  | .tup _ :: ds, vs, ns, h, e => by cases e
  | .lst _ :: ds, vs, ns, h, e => by cases e
  | .scr _ :: ds, vs, ns, h, e => by cases e
  | .dct _ :: ds, vs, ns, h, e => by cases e
  | .ins _ _ :: ds, vs, ns, h, e => by cases e
  | .loc _ :: ds, vs, ns, h, e => by cases e
theorem repl_S {F : Hp} : ∀ ns : List Str, RepL K mg F (ns.map D.str) (ns.map V.str)
  | [] => rfl
  | n :: ns => ⟨_, _, rfl, rfl, repl_S ns⟩
def gSortedS : OpN := fun ds st => match ds with
  | [.lst es] => (match asStrs es with
    | some ns => if ns.length < 64 then .ok (.lst ((sortS ns).map D.str)) st else .bad
    | none => .bad)
  | _ => .bad
theorem sem_sortedS : SemN kO K mg gSortedS (rSortedS K) := by
  intro Γ W F L σ H ρ st ds vs Q rl kvs q
  unfold gSortedS at q
  split at q
  · rename_i es
    obtain ⟨v, rfl, kv⟩ := kvs.one (Γ := Γ)
    split at q
    · rename_i ns hb
      split at q
      · rename_i hl
        obtain ⟨a, us, rfl, h1, h2⟩ := list_at rl kv
        cases asStrs_rep h2 hb
        refine ⟨a, ns, rfl, h1, hl, fun ms p hp hs np => ?_⟩
        rw [sortS_is hp hs]
        exact q F L (upd H p (.lst ((sortS ns).map V.str))) (Stp.fresh np) (rl.sto.fresh np) _ ⟨p, rfl, np, rl.newF np, rl.newL np, _, upd_same, repl_S _⟩
      · exact q.elim
    · exact q.elim
  · exact q.elim
end
end Gh
/-! Gh24: own exceptions by what the top has written: raise, try. -/
namespace Gh
open L2 PyProof.Rows PySem.Spec PySem
/-- an exception class whose own __init__ keeps the fields fs -/
def TX (K : PySem.W.Frag) (mg : Glob) (c qual : Str) (fs : List Str) (st : Stmt) : Prop := ∃ C fI fd, mg c = some (.ref C) ∧ OexC K C ∧ XfC K C ∧ (∀ f ∈ fs, PySem.W.findIn K (.ref C) f = some none) ∧
  PySem.W.findIn K (.ref C) "__init__" = some (some (.ref fI)) ∧ PySem.W.typeIn K (.ref fI) = some (.type "function") ∧ Fun K "__init__" qual st fI fd
def NoF (K : PySem.W.Frag) (mg : Glob) (c f : Str) : Prop := ∃ C, mg c = some (.ref C) ∧ PySem.W.findIn K (.ref C) f = some none
section
variable {K : PySem.W.Frag} {mg : Glob}
theorem nof_mk {h : Heap} {c f : Str} {C : Addr} (X : K.In h) (G : h.Ns mainGlobals mg) (a : PySem.W.nsIn K mainGlobals c = some (some (.ref C))) (n : PySem.W.findIn K (.ref C) f = some none) : NoF K mg c f := ⟨C, PySem.W.mg_of X G a, n⟩
theorem nof_nil {c : Str} : ∀ f ∈ ([] : List Str), NoF K mg c f := fun f h => by cases h
theorem nof_cons {c f : Str} {fs : List Str} (h : NoF K mg c f) (t : ∀ g ∈ fs, NoF K mg c g) : ∀ g ∈ f :: fs, NoF K mg c g := fun g hg => by
  rcases List.mem_cons.mp hg with rfl | hg
  · exact h
  · exact t g hg
/-- the class's object, its parts as k_is finds them -/
def XLook (K : PySem.W.Frag) (C : Addr) : Prop := ∃ nm q N bs bm sn sub ab col dd k0 k1 k2 k3 k5, K.lookup C = some (excClassObj nm q C N bs bm true sn sub ab col dd k0 k1 k2 k3 k5 "ValueError.__new__") ∧ PySem.HandSPX.refsVE bm = true
theorem xlook_mk {C N : Addr} {nm q : Str} {bs bm : List Value} {sn : List Str} {sub : List Value} {ab : Bool} {col : Option Bool} {dd : Option Addr} {k0 k1 k2 k3 k5 : Option Value}
    (l : K.lookup C = some (excClassObj nm q C N bs bm true sn sub ab col dd k0 k1 k2 k3 k5 "ValueError.__new__")) (b : PySem.HandSPX.refsVE bm = true) : XLook K C := ⟨nm, q, N, bs, bm, sn, sub, ab, col, dd, k0, k1, k2, k3, k5, l, b⟩
theorem tx_mk {h : Heap} {c qual : Str} {fs : List Str} {st : Stmt} {C fI : Addr} {oc : Value} {od an : Option Addr} {osl : Array (Option Value)} {kV doc pm cdv ct : Value} (X : K.In h) (G : h.Ns mainGlobals mg) (a : PySem.W.nsIn K mainGlobals c = some (some (.ref C))) (x : XLook K C)
    (sa : PySem.W.findIn K (.ref C) "__setattr__" = some (some (.builtin "object.__setattr__"))) (ex : PySem.W.subIn K (.ref C) (.type "BaseException") = some true) (ty : PySem.W.typeIn K (.ref C) = some (.type "type")) (kc : PySem.W.keepIn K (.ref C) = true)
    (ga : PySem.W.findIn K (.ref C) "__getattribute__" = some (some (.builtin "BaseException.__getattribute__"))) (gg : PySem.W.findIn K (.ref C) "__getattr__" = some none) (hd : PySem.W.hasDictIn K C = true)
    (i : PySem.W.findIn K (.ref C) "__init__" = some (some (.ref fI))) (ti : PySem.W.typeIn K (.ref fI) = some (.type "function")) (l : K.lookup fI = some ⟨oc, od, .func (PySem.W.fnOf "__init__" qual (defArgs st) (defBody st) (defScope st) .none kV doc pm an cdv ct), osl⟩) (d : PySem.W.codeIn K cdv qual = true) (kf : PySem.W.keepIn K (.ref fI) = true)
    (nf : ∀ f ∈ fs, NoF K mg c f) : TX K mg c qual fs st := by
  have hC := PySem.W.mg_of X G a
  refine ⟨C, fI, _, hC, ⟨x, sa, ex, ty, kc⟩, ⟨ga, gg, ex, hd⟩, fun f hf => ?_, i, ti, fun_mk l d kf⟩
  obtain ⟨C', h1, h2⟩ := nf f hf
  rw [hC] at h1; cases h1
  exact h2
/-- what a clause that names x makes of each of the classes -/
def TEm (K : PySem.W.Frag) (mg : Glob) (x : Str) (all cs : List Str) : Prop := ∃ C, mg x = some (.ref C) ∧ ExcAll K mg (.ref C) all cs
def Em1 (K : PySem.W.Frag) (mg : Glob) (x c : Str) (b : Bool) : Prop := ∃ C D, mg x = some (.ref C) ∧ mg c = some (.ref D) ∧ PySem.W.exmOne K (.ref D) (.ref C) = some b
theorem em1_mk {h : Heap} {x c : Str} {C D : Addr} {b : Bool} (X : K.In h) (G : h.Ns mainGlobals mg) (a : PySem.W.nsIn K mainGlobals x = some (some (.ref C))) (a2 : PySem.W.nsIn K mainGlobals c = some (some (.ref D))) (h1 : PySem.W.subIn K (.ref C) (.type "BaseException") = some true) (h2 : PySem.W.isClsIn K C = true)
    (h3 : PySem.W.typeIn K (.ref C) = some (.type "type")) (h4 : PySem.W.subIn K (.ref D) (.ref C) = some b) : Em1 K mg x c b := by
  refine ⟨C, D, PySem.W.mg_of X G a, PySem.W.mg_of X G a2, ?_⟩
  have h2' : (PySem.W.clsIn K C).isSome = true := h2
  unfold PySem.W.exmOne PySem.W.kitCls
  simp [h1, h2', h3, h4]
theorem tem_mk {h : Heap} {x : Str} {all cs : List Str} {C : Addr} (X : K.In h) (G : h.Ns mainGlobals mg) (a : PySem.W.nsIn K mainGlobals x = some (some (.ref C))) (em : ∀ c ∈ all, Em1 K mg x c (decide (c ∈ cs))) : TEm K mg x all cs := by
  refine ⟨C, PySem.W.mg_of X G a, fun c hc D hD => ?_⟩
  obtain ⟨C', D', h1, h2, h3⟩ := em c hc
  rw [PySem.W.mg_of X G a] at h1; cases h1
  rw [hD] at h2; cases h2
  exact h3
end
section
variable {P : Program} {w : World} {K : PySem.W.Frag} {mg : Glob} {base : Heap}
def spX (K : PySem.W.Frag) : List Str → Sp
  | [f1] => spInit1 K f1
  | [f1, f2] => spInit2 K f1 f2
  | _ => fun _ _ _ _ => False
def OkX (P : Program) (w : World) (K : PySem.W.Frag) (mg : Glob) (base : Heap) (kk : Nat) (c : Str) (fs : List Str) : Prop := ∃ C fI fd ps, mg c = some (.ref C) ∧ OexC K C ∧ XfC K C ∧ (∀ f ∈ fs, PySem.W.findIn K (.ref C) f = some none) ∧
  PySem.W.findIn K (.ref C) "__init__" = some (some (.ref fI)) ∧ PySem.W.typeIn K (.ref fI) = some (.type "function") ∧ FnOk P w K mg base (L2.CX P w) kk fI fd ps (spX K fs) ∧ Binds K fd ps []
theorem okX2_of {c qual f1 f2 x y z : Str} {st : Stmt} (T : TX K mg c qual [f1, f2] st) (S : FnScope [x, y, z] [x, y, z] (defScope st)) (hb : ∀ f fd, Fun K "__init__" qual st f fd → Binds K fd [x, y, z] [])
    (hbody : ∀ (f : Addr) (cdv : Value) (A : Around) (outer : List Env) (s : Shared) (H : Hp) (E : XK), PSs (cxOf (L2.CX P w) P w K mg base [x, y, z] qual (defScope st) f cdv A outer s H E) (defBody st) (tSeq (tOst K f1 (tVar 0) (tVar 1)) (tOst K f2 (tVar 0) (tVar 2)))) :
    OkX P w K mg base 1 c [f1, f2] := by
  obtain ⟨C, fI, fd, h1, h2, h3, h4, h5, h6, F⟩ := T
  refine ⟨C, fI, fd, [x, y, z], h1, h2, h3, h4, h5, h6, ?_, hb fI fd F⟩
  refine F.okX (k := 0) S (fun vs H Q E h => ?_) fun cdv A outer s H vs Q E hr h => ⟨_, hbody fI cdv A outer s H E, read2 (E := E) h⟩
  obtain ⟨a, C, u, v, rfl, _⟩ := h
  rfl
theorem okX1_of {c qual f1 x y : Str} {st : Stmt} (T : TX K mg c qual [f1] st) (S : FnScope [x, y] [x, y] (defScope st)) (hb : ∀ f fd, Fun K "__init__" qual st f fd → Binds K fd [x, y] [])
    (hbody : ∀ (f : Addr) (cdv : Value) (A : Around) (outer : List Env) (s : Shared) (H : Hp) (E : XK), PSs (cxOf (L2.CX P w) P w K mg base [x, y] qual (defScope st) f cdv A outer s H E) (defBody st) (tOst K f1 (tVar 0) (tVar 1))) :
    OkX P w K mg base 1 c [f1] := by
  obtain ⟨C, fI, fd, h1, h2, h3, h4, h5, h6, F⟩ := T
  refine ⟨C, fI, fd, [x, y], h1, h2, h3, h4, h5, h6, ?_, hb fI fd F⟩
  refine F.okX (k := 0) S (fun vs H Q E h => ?_) fun cdv A outer s H vs Q E hr h => ⟨_, hbody fI cdv A outer s H E, read1 (E := E) h⟩
  obtain ⟨a, C, u, rfl, _⟩ := h
  rfl
theorem OkX.mono {j k : Nat} {c : Str} {fs : List Str} (h : OkX P w K mg base j c fs) (e : j ≤ k) : OkX P w K mg base k c fs := by
  obtain ⟨C, fI, fd, ps, h1, h2, h3, h4, h5, h6, h7, h8⟩ := h
  exact ⟨C, fI, fd, ps, h1, h2, h3, h4, h5, h6, h7.mono e, h8⟩
end
section
variable {X : Cx} {Γ : Ent} {W : WX} {e e2 : Expr} {pos pos2 pos' p np : Pos} {ms : ADen} {kk : Nat} {c f1 f2 x n : Str} {all cs : List Str} {mb mh : SDen} {i : Nat} {body suite : List Stmt} {b₀ : Stmt}
theorem f_raise2 (h : OkX X.prog X.w X.K X.mg X.base kk c [f1, f2]) (hr : Room (kk + 1) X.A) (hcalm : X.calm = true) (tk : Takes X W) (ha : PA X [e, e2] (taG X.K X.mg Γ W ms))
    (hg : Gl X c := by rfl) (hdb : (c == ("__debug__" : Str)) = false := by decide) (he : starEach (e :: [e2]) X.env = (false, eval e X.env) :: starEach [e2] X.env := by rfl) (hpl : (backTo pos (starEach [e2] X.env)).any (·.1) = false := by rfl) :
    PS X (.Raise (some (.Call (.Name c p) [e, e2] [] pos)) none pos2) (tsG X.K X.mg Γ W (sRaise c [f1, f2] ms)) := by
  obtain ⟨C, fI, fd, ps, h1, h2, h3, h4, h5, h6, h7, h8⟩ := h
  exact s_raise2 rfl hcalm tk h2 (h4 _ List.mem_cons_self) (h4 _ (List.mem_cons_of_mem _ List.mem_cons_self)) h5 h6 h7 hr h8 h1 h1 ha hg hdb he hpl
theorem f_raise1 (h : OkX X.prog X.w X.K X.mg X.base kk c [f1]) (hr : Room (kk + 1) X.A) (hcalm : X.calm = true) (tk : Takes X W) (ha : PA X [e] (taG X.K X.mg Γ W ms))
    (hg : Gl X c := by rfl) (hdb : (c == ("__debug__" : Str)) = false := by decide) (he : starEach (e :: []) X.env = (false, eval e X.env) :: starEach [] X.env := by rfl) (hpl : (backTo pos (starEach [] X.env)).any (·.1) = false := by rfl) :
    PS X (.Raise (some (.Call (.Name c p) [e] [] pos)) none pos2) (tsG X.K X.mg Γ W (sRaise c [f1] ms)) := by
  obtain ⟨C, fI, fd, ps, h1, h2, h3, h4, h5, h6, h7, h8⟩ := h
  exact s_raise1 rfl hcalm tk h2 (h4 _ List.mem_cons_self) h5 h6 h7 hr h8 h1 h1 ha hg hdb he hpl
theorem f_tryAs (T : TEm X.K X.mg x all cs) (hx0 : Γ.x = none) (hN : X.N.Nodup) (tk : Takes X W)
    (hb : ∀ (W : WX) (pn : List (Addr × Obj)) (xe : Value → Shared → Prop), Takes (X.tr pn xe) W → PassesOwn (model X.prog X.w) X.A X.env xe → PSs (X.tr pn xe) body (tsG X.K X.mg Γ W mb))
    (hsu : ∀ (a : Addr) (oe : Obj) (cls : Value) (d : Option Addr) (pn : List (Addr × Obj)), Zc cls d oe → (∃ vs, oe.data = .fields vs) → PSs (X.suite a ((a, oe) :: pn)) (b₀ :: suite) (tsG X.K X.mg { Γ with x := some (i, a, cls, d) } W0 mh))
    (hs : X.stack = X.env :: X.outer := by rfl) (hf : X.env.frame = some X.env.locals := by rfl) (hg : Gl X x := by rfl) (hdb : (x == ("__debug__" : Str)) = false := by decide)
    (hi : X.N[i]? = some n := by rfl) (hln : X.env.kindOf n = some .local := by rfl) :
    PS X (.Try body [.ExceptHandler (some (.Name x np)) (some n) (b₀ :: suite) pos'] [] [] pos) (tsG X.K X.mg Γ W (sTryAs i all cs mb mh)) := by
  obtain ⟨C, h1, h2⟩ := T
  exact s_tryAs rfl hx0 hs hf hN ⟨hg, hdb, .inl h1⟩ h2 tk hb hsu hi hln
theorem f_try (T : TEm X.K X.mg x all cs) (tk : Takes X W)
    (hb : ∀ (W : WX) (pn : List (Addr × Obj)) (xe : Value → Shared → Prop), Takes (X.tr pn xe) W → PassesOwn (model X.prog X.w) X.A X.env xe → PSs (X.tr pn xe) body (tsG X.K X.mg Γ W mb))
    (hsu : ∀ (a : Addr) (oe : Obj) (cls : Value) (d : Option Addr) (pn : List (Addr × Obj)), Zc cls d oe → (∃ vs, oe.data = .fields vs) → PSs (X.suite a ((a, oe) :: pn)) (b₀ :: suite) (tsG X.K X.mg Γ W0 mh))
    (hs : X.stack = X.env :: X.outer := by rfl) (hf : X.env.frame = some X.env.locals := by rfl) (hg : Gl X x := by rfl) (hdb : (x == ("__debug__" : Str)) = false := by decide) :
    PS X (.Try body [.ExceptHandler (some (.Name x np)) none (b₀ :: suite) pos'] [] [] pos) (tsG X.K X.mg Γ W (sTry all cs mb mh)) := by
  obtain ⟨C, h1, h2⟩ := T
  exact s_try rfl hs hf ⟨hg, hdb, .inl h1⟩ h2 tk hb hsu
theorem f_xf {a : Addr} {oe : Obj} {cls : Value} {d : Option Addr} {pn : List (Addr × Obj)} {qual : Str} {fs : List Str} {st : Stmt} (T : TX X.K X.mg c qual fs st) (hn : n ∈ fs) (hz : Zc cls d oe) (hf : ∃ vs, oe.data = .fields vs)
    (hN : X.N[i]? = some x := by rfl) (hv : Vis X.env.scope x := by first | exact Or.inl rfl | exact Or.inr (Or.inl rfl) | exact Or.inr (Or.inr rfl)) (hd : (x == ("__debug__" : Str)) = false := by decide) (hcd : (x == ("__classdict__" : Str)) = false := by decide)
    (hb : attributeBase (.Name x p) n X.env (eval (.Name x p) X.env) = eval (.Name x p) X.env := by rfl) :
    PE (X.suite a ((a, oe) :: pn)) (.Attribute (.Name x p) n pos) (teV X.K X.mg { Γ with x := some (i, a, cls, d) } W (eXf i [c] n)) := by
  obtain ⟨C, fI, fd, h1, h2, h3, h4, _⟩ := T
  exact g_xf rfl h3 (h4 n hn) h1 hz hf hN hv hd hcd hb
end
end Gh
/-! Gh25: dict displays with one star ahead: {**d, k: v}; o.f += e. -/
namespace Gh
open L2 PyProof.Rows PySem.Spec PySem
section
variable {prog : Program} {w : World} {A : Around} {E : Value → Shared → Prop} {s : Shared}
/-- one entry is put -/
theorem put_one {d : Addr} {kvs : List (Key × Value)} {k : Key} {key v : Value} {Q : Unit → Shared → Prop} (hkey : (mixKind prog w).is k key = true) (hm : s.heap.DictOf (mixKind prog w) d kvs) (hz : kvs.length ≤ sizeLine)
    (q : ∀ h', h'.DictOf (mixKind prog w) d (stored kvs k v) → Heap.SameBut d s.heap h' → Q () { s with heap := h' }) : wpAny (model prog w) A (dictPut d ((mixKind prog w).hash k) key v) Q E s := by
  obtain ⟨o, es, ep, ho, hc, hd, hk, hp, hn⟩ := hm
  have ez : es.size ≤ sizeLine := by
    have := hp.length
    rw [Array.length_toList] at this
    omega
  have same : (es.findIdx? fun e => (mixKind prog w).is k e.key) = kvs.findIdx? fun kv => decide (kv.1 = k) := by
    rw [← hp.findIdx k]
    obtain ⟨l⟩ := es
    simp
  unfold dictPut
  refine wpAny_bind (wpAny_dictFind_of hkey ho hd hk ?_)
  cases at_ : es.findIdx? fun e => (mixKind prog w).is k e.key with
  | some i =>
    have yes := any_of_findIdx_some (same ▸ at_)
    refine wpAny_updateDict ho hd (q _ ⟨_, _, ep, Heap.get?_update_self _ ho (Obj.isFreed_of_dict (Obj.data_mapDict hd _)), hc.mapDict _, Obj.data_mapDict hd _, hk.modify _ _, ?_, ?_⟩ (Heap.SameBut.update ..))
    · rw [stored, if_pos yes]
      have at2 : (es.toList.findIdx? fun e => (mixKind prog w).is k e.key) = some i := by
        rw [← at_]
        obtain ⟨l⟩ := es
        simp
      have md := hp.modify hn at2 v
      obtain ⟨l⟩ := es
      simpa using md
    · rw [stored, if_pos yes, keys_map_store]
      exact hn
  | none =>
    have out : k ∉ kvs.map (·.1) := not_mem_of_findIdx_none (same ▸ at_)
    have no : ¬ (kvs.any fun kv => decide (kv.1 = k)) = true := fun z => by
      obtain ⟨kv, h1, h2⟩ := List.any_eq_true.mp z
      exact out (List.mem_map.mpr ⟨kv, h1, of_decide_eq_true h2⟩)
    refine wpAny_updateDictKeys (hz := ez) ho hd (q _ ⟨_, _, ep + 1, Heap.get?_update_self _ ho (Obj.isFreed_of_dict (Obj.data_mapDictKeys hd _)), hc.mapDictKeys _, Obj.data_mapDictKeys hd _, hk.push hkey _, ?_, ?_⟩ (Heap.SameBut.update ..))
    · rw [stored, if_neg no]
      have ap := hp.append hkey ((mixKind prog w).hash k) v
      obtain ⟨l⟩ := es
      simpa using ap
    · rw [stored, if_neg no, List.map_append, List.nodup_append]
      refine ⟨hn, by simp, fun a ha b hb => ?_⟩
      have : b = k := by simpa using hb
      subst this
      exact fun z => out (z ▸ ha)
/-- all entries of o go to d -/
theorem merge_at {d o : Addr} {kvs more : List (Key × Value)} {Q : Unit → Shared → Prop} (hdo : d ≠ o) (hoS : (o == sysModules) = false) (hd : s.heap.DictOf (mixKind prog w) d kvs) (ho : s.heap.DictOf (mixKind prog w) o more) (hz : kvs.length + more.length ≤ sizeLine)
    (q : ∀ h', h'.DictOf (mixKind prog w) d (merged kvs more) → Heap.SameBut d s.heap h' → Q () { s with heap := h' }) : wpAny (model prog w) A (mergeMapping d (.ref o) false) Q E s := by
  obtain ⟨oo, eo, epo, hoo, hco, hdo', hko, hpo, hno⟩ := id ho
  obtain ⟨od, ed, epd, hod, hcd, hdd, hkd, hpd, hnd⟩ := id hd
  have hT := ho.typeIs
  have hlen : more.length = eo.size := by
    rw [← hpo.length]
    simp
  have noref : ∀ e ∈ eo.toList, ∀ a, e.key ≠ .ref a := fun e he a z => by
    obtain ⟨k, h1, _⟩ := hko e (by simpa using he)
    have h1 : keyIs k e.key = true := h1
    rcases keyIs_shape h1 with ⟨i, t, rfl, e1⟩ | ⟨x, t, rfl, e1⟩ <;> (rw [e1] at z; cases z)
  have loop : wpAny (model prog w) A (do
      let size := (← dictEntries o).size
      let epoch ← dictEpoch o
      for i in List.range size do
        let some e := (← dictEntries o)[i]? | unsupported "dict.changed-during-merge"
        holding [e.key, e.val] do
          if false = true then
            if (← dictFind d e.key e.hash).isSome then rule "dict.merge.duplicate-key"; raiseNew (← newExc (.type "KeyError") [e.key])
          dictPut d e.hash e.key e.val
        if (← dictEpoch o) != epoch then unsupported "dict.changed-during-merge") Q E s := by
    refine wpAny_bind (wpAny_dictEntries hoo hdo' ?_)
    refine wpAny_bind (wpAny_dictEpoch hoo hdo' ?_)
    refine wpAny_bind ?_
    refine wpAny_forIn_list _ (fun rest _ s' => ∃ h' i, s' = { s with heap := h' } ∧ rest = (List.range eo.size).drop i ∧ i ≤ eo.size ∧ h'.DictOf (mixKind prog w) d (merged kvs (more.take i)) ∧ h'.get? o = some oo ∧ Heap.SameBut d s.heap h') _ ?_ ?_ _ _ ⟨s.heap, 0, rfl, rfl, Nat.zero_le _, hd, hoo, Heap.SameBut.refl _ _⟩
    · rintro x rest b s' ⟨h', i, rfl, hr, hi, hd', hoo', hs'⟩
      have hlt : i < eo.size := by
        rcases Nat.lt_or_ge i eo.size with h | h
        · exact h
        · rw [List.drop_eq_nil_of_le (by simpa using h)] at hr
          cases hr
      have hx : x = i ∧ rest = (List.range eo.size).drop (i + 1) := by
        rw [List.drop_eq_getElem_cons (by simpa using hlt)] at hr
        injection hr with h1 h2
        exact ⟨by simpa using h1, h2⟩
      obtain ⟨rfl, hrest⟩ := hx
      refine wpAny_bind (wpAny_dictEntries hoo' hdo' ?_)
      rw [Array.getElem?_eq_getElem hlt]
      obtain ⟨⟨k, v⟩, hkv⟩ : ∃ kv, more[x]? = some kv := ⟨more[x]'(by omega), List.getElem?_eq_getElem _⟩
      obtain ⟨hkey, hval⟩ := hpo.get? (e := eo[x]) (by simp [hlt]) hkv
      obtain ⟨k', hkey', hhash⟩ := hko eo[x] (Array.getElem_mem hlt)
      obtain rfl : k' = k := (mixKind prog w).inj _ _ _ hkey' hkey
      have hmx : (merged kvs (more.take x)).length ≤ sizeLine := by
        have e1 := merged_length_le kvs (more.take x)
        have e2 : (more.take x).length ≤ more.length := by rw [List.length_take]; omega
        omega
      refine wpAny_bind (wpAny_holding ?_)
      rw [if_neg Bool.false_ne_true]
      rw [hhash]
      refine put_one hkey hd' hmx fun h'' hd'' hs'' => ?_
      have hoo'' : h''.get? o = some oo := (hs''.2 o (Ne.symm hdo)).trans hoo'
      refine wpAny_bind (wpAny_dictEpoch hoo'' hdo' ?_)
      rw [if_neg (by simp)]
      refine wpAny_pure ⟨h'', x + 1, rfl, hrest, hlt, ?_, hoo'', hs'.trans hs''⟩
      rw [merged_take_succ kvs more x (k', v) hkv, ← hval]
      exact hd''
    · rintro b s' ⟨h', i, rfl, hr, hi, hd', hoo', hs'⟩
      have hin : i = eo.size := by
        rcases Nat.lt_or_ge i eo.size with h | h
        · rw [List.drop_eq_getElem_cons (by simpa using h)] at hr
          cases hr
        · omega
      refine wpAny_pure (q h' ?_ hs')
      rw [hin, ← hlen, List.take_length] at hd'
      exact hd'
  unfold mergeMapping
  refine wpAny_bind (m := isInstance (.ref o) (.type "dict")) (wpAny_isInstance (b := true) hT PySem.F.sub_dict_dict ?_)
  rw [if_pos rfl]
  refine wpAny_bind (wpAny_specialOf hT PySem.F.slot_dict_iter.lookup (wpAny_bind (wpAny_pure ?_)))
  rw [show (some (Value.builtin "dict.__iter__") == some (Value.builtin "dict.__iter__")) = true by simp]
  dsimp only
  rw [if_neg (by rw [hoS]; exact Bool.false_ne_true)]
  refine wpAny_bind (wpAny_dictEntries hod hdd ?_)
  split
  · refine wpAny_bind (wpAny_dictEntries hoo hdo' ?_)
    refine wpAny_bind ?_
    rw [← Array.forIn_toList]
    refine wpAny_forIn_list _ (fun rest _ s' => s' = s ∧ ∀ e ∈ rest, ∀ a, e.key ≠ .ref a) _ ?_ ?_ _ _ ⟨rfl, noref⟩
    · rintro x rest b s' ⟨rfl, hx⟩
      have hk := hx x List.mem_cons_self
      split
      · rename_i a e
        exact absurd e (hk a)
      · exact wpAny_pure ⟨rfl, fun e he => hx e (List.mem_cons_of_mem _ he)⟩
    · rintro b s' ⟨rfl, _⟩
      exact loop
  · exact loop
end
/-! ### over the abstract heap -/
section
variable {X : Cx} {A : Around} {E : Value → Shared → Prop} {pins : List (Addr × Obj)} {σ : L2.St} {H : Hp} {s : Shared}
theorem d_merge {D a : Addr} {ks ls : List (Key × V)} {Q : Unit → Shared → Prop} (I : Inv X pins σ H s) (hD : H D = some (.dK ks)) (ha : Rd H a (.dK ls)) (ne : D ≠ a) (hz : ks.length + ls.length ≤ sizeLine)
    (h : ∀ s', Inv X pins σ (upd H D (.dK (mergeK ks ls))) s' → Q () s') : wpAny (model X.prog X.w) A (mergeMapping D (.ref a) false) Q E s := by
  obtain ⟨z, hd, vs, rel, dd⟩ := dk_of I.hok hD
  obtain ⟨z2, hd2, vs2, rel2, dd2⟩ := dk_rd I.hok ha
  refine merge_at ne hd2 dd dd2 (by rw [← rel.length, ← rel2.length]; exact hz) fun h' dd' hs => h _ ?_
  have he : ∃ q, h'.get? D = some q := let ⟨q, _, _, hq, _⟩ := dd'; ⟨q, hq⟩
  exact d_write I (by rw [hD]; exact True.intro) hs he (dk_new (by have := length_mergeK ls ks; omega) hd (rel2.merge rel) dd')
end
section
variable {X : Cx} {d k v : Expr} {pos : Pos} {td tk tv : TE}
/-- {**d, k: v} -/
def tDStar (td tk tv : TE) : TE := fun σ H Q => ∀ D, H D = none → td σ (upd H D (.dK [])) fun x H1 => ∃ a ls, x = .ref a ∧ Rd H1 a (.dK ls) ∧ D ≠ a ∧ H1 D = some (.dK []) ∧ ls.length < 1000000 ∧
  ∀ S, H1 S = none → S ≠ D → tk σ (upd (upd H1 D (.dK (mergeK [] ls))) S (.dK [])) fun y H2 => tv σ H2 fun z H3 => ∃ kk, y = L2.kV kk ∧ H3 S = some (.dK []) ∧ H3 D = some (.dK (mergeK [] ls)) ∧
    Q (.ref D) (upd (upd H3 S (.dK [(kk, z)])) D (.dK (mergeK (mergeK [] ls) [(kk, z)])))
theorem pe_dstar (hd : PE X d td) (hk : PE X k tk) (hv : PE X v tv) : PE X (.Dict [none, some k] [d, v] pos) (tDStar td tk tv) := by
  refine ⟨fun pins s σ H Q I h => ?_⟩
  rw [arm_eval_Dict]
  refine wpAny_bind (wpAny_standAt ?_)
  show wpAny _ _ (dictDisplay [(none, do let x ← eval d X.env; standAt pos; pure x), (some (eval k X.env), do let x ← eval v X.env; standAt pos; pure x)]) _ _ _
  unfold dictDisplay
  simp only [List.forIn_cons, List.forIn_nil, pure_bind, bind_assoc]
  have hn := I.hok.fresh (Nat.le_refl s.heap.objs.size)
  have I1 := I.laid (a := s.heap.objs.size) (o := .dK []) (h' := s.heap.push { cls := .type "dict", data := .dict #[] }) (t' := s.toks) (fun _ _ q => Heap.get?_push_of_some _ q) (Nat.le_refl _) (dk_empty s.heap I.big)
  refine wpAny_bind (wpAny_pure ?_)
  refine wpAny_bind ?_
  show wpAny _ _ (alloc _ >>= _) _ _ _
  refine wpAny_bind (wpAny_alloc ?_)
  refine wpAny_bind (wpAny_holding ?_)
  refine wpAny_bind (thn (hd.run pins _ σ _ _ I1 (h _ hn)) fun u s2 ⟨x, H1, I2, rx, a, ls, ex, ha, ne, hD, hl, q⟩ => wpAny_bind (wpAny_standAt (wpAny_pure ?_)))
  subst ex
  obtain rfl : u = Value.ref a := rx
  have hlz : ls.length ≤ sizeLine := by rw [sizeLine_eq]; omega
  refine wpAny_bind (wpAny_onRaise (wpAny_tryCatch (wpAny_onRaise (wpAny_holding (d_merge I2 hD ha ne (by simpa using hlz) fun s3 I3 => ?_)))))
  refine wpAny_pure ?_
  simp only [List.nil_append, List.length_cons, List.length_nil, pure_bind, List.isEmpty_cons, Bool.false_eq_true, if_false, bind_assoc, show ((0 + 1 == 17) = true) = False from by decide]
  refine wpAny_bind (wpAny_holding ?_)
  have hn2 := I3.hok.fresh (Nat.le_refl s3.heap.objs.size)
  have hn1 : H1 s3.heap.objs.size = none := by
    by_cases z : s3.heap.objs.size = s.heap.objs.size
    · rw [z, upd_same] at hn2
      cases hn2
    · rwa [upd_ne z] at hn2
  have hSD : s3.heap.objs.size ≠ s.heap.objs.size := fun z => by
    rw [z, upd_same] at hn2
    cases hn2
  have I4 := I3.laid (a := s3.heap.objs.size) (o := .dK []) (h' := s3.heap.push { cls := .type "dict", data := .dict #[] }) (t' := s3.toks) (fun _ _ q => Heap.get?_push_of_some _ q) (Nat.le_refl _) (dk_empty s3.heap I3.big)
  refine wpAny_subDict (knd := mixKind X.prog X.w) (Nat.le_of_ble_eq_true rfl) (evalPairs_cons (thn (hk.run pins _ σ _ _ I4 (q _ hn1 hSD)) fun u5 s5 ⟨y, H5, I5, ry, q5⟩ => wpAny_bind (thn (hv.run pins _ σ _ _ I5 q5) fun u6 s6 ⟨z, H6, I6, rz, kk, ey, hS, hD6, q6⟩ => wpAny_bind (wpAny_standAt (wpAny_pure (evalPairs_nil ?_))))))
  subst ey
  obtain ⟨zS, hSm, vs0, r0, dd⟩ := dk_of I6.hok hS
  cases r0
  refine ⟨[(kk, u6)], ⟨kV_is ry, rfl, trivial⟩, dd, fun h' dd' hs => ?_⟩
  have he : ∃ q, h'.get? s3.heap.objs.size = some q := let ⟨q, _, _, hq, _⟩ := dd'; ⟨q, hq⟩
  have I7 : Inv X pins σ (upd H6 s3.heap.objs.size (.dK [(kk, z)])) { s6 with heap := h', toks := s6.toks + [(u5, u6)].length } := d_write I6 (by rw [hS]; exact True.intro) hs he (dk_new (by rw [sizeLine_eq]; exact Nat.le_of_ble_eq_true rfl) hSm (.cons ⟨rfl, rz⟩ .nil) dd')
  refine wpAny_bind (wpAny_onRaise (wpAny_holding (d_merge (ks := mergeK [] ls) (ls := [(kk, z)]) I7 (by rw [upd_ne (Ne.symm hSD)]; exact hD6) (.inl upd_same) (Ne.symm hSD) ?_ fun s8 I8 => wpAny_pure ⟨.ref s.heap.objs.size, _, I8, rfl, q6⟩)))
  have := length_mergeK ls []
  rw [sizeLine_eq]
  simp only [List.length_nil, List.length_cons] at this ⊢
  omega
end
section
variable {X : Cx} {K : PySem.W.Frag} {mg : Glob} {Γ : Ent} {W : WX} {d k v o e : Expr} {pos : Pos} {md mk mv mo : EDen}
def eDStar (md mk mv : EDen) : EDen := fun ρ st => (md ρ st).bind fun x st1 => match x with
  | .dct ls => if ls.length < 1000000 then (mk ρ st1).bind fun y st2 => (mv ρ st2).bind fun z st3 => match keyOf y with
    | some kk => if isLoc z = false then .ok (.dct (putD (mergeD [] ls) kk z)) st3 else .bad
    | none => .bad else .bad
  | _ => .bad
/-- from H to H' though what stands at new places is changed -/
theorem Stp.hop {F F1 H H0 H1 H1' : Hp} {L L1 : List Addr} (s : Stp F L H0 F1 L1 H1) (h0 : ∀ a u, H a = some u → H0 a = some u) (h1 : ∀ a u, H a = some u → H1 a = some u → H1' a = some u) : Stp F L H F1 L1 H1' :=
  ⟨s.ex, s.pre, fun a u h n => by
    obtain ⟨g1, g2, g3⟩ := s.kp a u (h0 a u h) n
    exact ⟨h1 a u h g1, g2, g3⟩⟩
theorem mergeK_one (ks : List (Key × V)) (kk : Key) (z : V) : mergeK ks [(kk, z)] = putK ks kk z := rfl
theorem g_dstar (hd : PE X d (teR K mg Γ W md)) (hk : PE X k (teV K mg Γ W mk)) (hv : PE X v (teV K mg Γ W mv)) : PE X (.Dict [none, some k] [d, v] pos) (teO K mg Γ W (eDStar md mk mv)) := by
  refine pe_imp (pe_dstar hd hk hv) fun σ H Q ⟨F, L, ρ, st, rl, q⟩ D nD => ?_
  have s0 : Stp F L H F L (upd H D (.dK [])) := Stp.fresh nD
  have o0 := rl.sto.fresh (o := .dK []) nD
  have rl0 := rl.step s0 o0
  have h0 : ∀ a u, H a = some u → upd H D (.dK []) a = some u := fun a u h => by
    rw [upd_ne (ne_of_none h nD)]
    exact h
  refine ⟨F, L, ρ, st, rl0, ?_⟩
  unfold eDStar at q
  cases hm : md ρ st with
  | bad => rw [hm] at q; exact q.elim
  | exc c fs st' => rw [hm] at q; exact Post.step q s0
  | ok x st1 =>
    rw [hm] at q
    dsimp only [RC.bind_ok] at q
    intro F1 L1 H1 s1 o1 w kw
    split at q
    · rename_i ls
      split at q
      · rename_i hlen
        have rl1 := rl0.step s1 o1
        obtain ⟨hD1, nF1, nL1⟩ := s1.kp D _ upd_same (rl.newL nD)
        have nF1 : F1 D = none := nF1.trans (rl.newF nD)
        obtain ⟨a, vs, rfl, ha, hr⟩ := kR.dct rl1 kw
        have ne : D ≠ a := by
          rintro rfl
          rcases kw with kw | ⟨i, h1, h2⟩
          · rcases kw with ⟨_, _, z, _⟩ | ⟨a', vs', z, g1, _⟩
            · cases z
            · cases z
              rcases g1 with g1 | ⟨_, g1⟩ <;> (rw [nF1] at g1; cases g1)
          · obtain ⟨a', g1, _, _, _, g5⟩ := rl.so i _ h1
            rw [h2] at g1
            cases g1
            obtain ⟨u, hu⟩ := g5.there
            rw [nD] at hu
            cases hu
        refine ⟨a, vs, rfl, ha, ne, hD1, by rw [← hr.length]; exact hlen, fun S nS hSD => ?_⟩
        have sA : Stp F L H F1 L1 (upd (upd H1 D (.dK (mergeK [] vs))) S (.dK [])) := s1.hop h0 fun b u hb h1 => by
          rw [upd_ne (ne_of_none h1 nS), upd_ne (ne_of_none hb nD)]
          exact h1
        have nFS : F1 S = none := o1.ex.free nS
        have nLS : S ∉ L1 := rl1.newL nS
        have oA : Sto K mg F1 L1 (upd (upd H1 D (.dK (mergeK [] vs))) S (.dK [])) st1 := (o1.updN nF1 nL1).updN nFS nLS
        have rlA := rl.step sA oA
        refine ⟨F1, L1, ρ, st1, rlA, ?_⟩
        cases hm2 : mk ρ st1 with
        | bad => rw [hm2] at q; exact q.elim
        | exc c fs st' => rw [hm2] at q; exact Post.step q sA
        | ok y st2 =>
          rw [hm2] at q
          dsimp only [RC.bind_ok] at q
          intro F2 L2 H2 s2 o2 wy ky
          have sB := sA.trans s2
          have rl2 := rlA.step s2 o2
          refine ⟨F2, L2, ρ, st2, rl2, ?_⟩
          cases hm3 : mv ρ st2 with
          | bad => rw [hm3] at q; exact q.elim
          | exc c fs st' => rw [hm3] at q; exact Post.step q sB
          | ok z st3 =>
            rw [hm3] at q
            dsimp only [RC.bind_ok] at q
            intro F3 L3 H3 s3 o3 wz kz
            have sC := s2.trans s3
            have sD := sB.trans s3
            split at q
            · rename_i kk hkk
              split at q
              · rename_i hl
                obtain ⟨a1, a2, a3⟩ := sC.kp S _ upd_same nLS
                obtain ⟨b1, b2, b3⟩ := sC.kp D (.dK (mergeK [] vs)) (by rw [upd_ne (Ne.symm hSD), upd_same]) nL1
                have nF3 : F3 D = none := b2.trans nF1
                have nF3S : F3 S = none := a2.trans nFS
                refine ⟨kk, keyOf_v hkk ky, a1, b1, ?_⟩
                have sE : Stp F L H F3 L3 (upd (upd H3 S (.dK [(kk, wz)])) D (.dK (mergeK (mergeK [] vs) [(kk, wz)]))) := sD.hop (fun _ _ h => h) fun b u hb h1 => by
                  have hbS : b ≠ S := fun z => by
                    subst z
                    have : H1 b = some u := (s1.kp b u (h0 b u hb) (fun hm => by
                      obtain ⟨n, hn, e⟩ := List.getElem_of_mem hm
                      exact nLS (s1.mem hm))).1
                    rw [nS] at this
                    cases this
                  rw [upd_ne (ne_of_none hb nD), upd_ne hbS]
                  exact h1
                refine q F3 L3 _ sE ((o3.updN nF3S a3).updN nF3 b3) _ ⟨D, rfl, nD, nF3, b3, _, upd_same, ?_⟩
                rw [mergeK_one]
                exact RepK.put (RepK.merge (kvs := []) (vs := []) (RepK.mono (s2.ex.trans s3.ex) _ hr) rfl) kk (VRep.flat kz hl)
              · exact q.elim
            · exact q.elim
      · exact q.elim
    · exact q.elim
/-- o.f op= e, o an object of the store -/
def sAttAug (f : Str) (cs : List Str) (mo : EDen) (g : Op2) (mv : EDen) : SDen := fun ρ st => (mo ρ st).s ρ fun y st1 => match y with
  | .loc n => (match st1[n]? with
    | some (.ins c fs) => if c ∈ cs then (match fs.lookup f with
      | some x => (mv ρ st1).s ρ fun z st2 => (g x z st2).s ρ fun r st3 => (match st3[n]? with
        | some (.ins c' fs') => if c' = c ∧ isLoc r = false ∧ fs'.length < 999 then .nx ρ (st3.set n (.ins c (putFD f r fs'))) else .bad
        | _ => .bad)
      | none => .bad) else .bad
    | _ => .bad)
  | _ => .bad
theorem putF_len (f : Str) (v : V) : ∀ fs : List (Str × V), (putF f v fs).length ≤ fs.length + 1
  | [] => by simp [putF]
  | (g, x) :: r => by
    unfold putF
    split
    · simp
    · have := putF_len f v r
      simp only [List.length_cons]
      omega
theorem s_attAug {fn : Str} {cs : List Str} {pos' : Pos} {op : Operator} {r : R2} {g : Op2} (hK : X.K = K) (A : AttOk K mg fn cs) (hop : OpR X (inplaceOp op) r) (hsem : Sem2 kV K mg g r) (ho : PE X o (teV K mg Γ W mo)) (hv : PE X e (teV K mg Γ W mv)) :
    PS X (.AugAssign (.Attribute o fn pos') op e pos) (tsG K mg Γ W (sAttAug fn cs mo g mv)) := by
  refine ps_imp (ps_fldaug ho hv (fun pins s σ H x y u v Q I rx ry h => hop pins s σ H x y u v Q I rx ry h)) fun D' σ H ⟨F, L, ρ, st, rl, q⟩ => ⟨F, L, ρ, st, rl, (SPost.s q rl).imp fun F1 L1 H1 st1 y s1 o1 q1 u ku => ?_⟩
  have rl1 := rl.step s1 o1
  split at q1
  · rename_i n
    split at q1
    · rename_i c fs e1
      split at q1
      · rename_i hc
        split at q1
        · rename_i x hx
          obtain ⟨a, h1, rfl⟩ := ku.loc
          obtain ⟨nF, C, dx, fv, h2, h3, h4⟩ := o1.at_ n a _ h1 e1
          obtain ⟨cl, na⟩ := A c hc C h2
          obtain ⟨vx, lx, rx⟩ := h4.look hx
          refine ⟨a, C, dx, fv, vx, rfl, h3, by rw [hK]; exact cl, by rw [hK]; exact na, lx, F1, L1, ρ, st1, rl1, (SPost.s q1 rl1).imp fun F2 L2 H2 st2 z s2 o2 q2 w kw => ?_⟩
          have rl2 := rl1.step s2 o2
          refine hsem Γ W F2 L2 σ H2 ρ st2 x z vx w _ rl2 (.inl (.inr (Rep.mono s2.ex _ rx))) (.inl kw) ((SPost.s q2 rl2).imp fun F3 L3 H3 st3 b s3 o3 q3 wz kz => ?_)
          have rl3 := rl2.step s3 o3
          split at q3
          · rename_i c' fs' e3
            split at q3
            · rename_i hh
              obtain ⟨rfl, hb, hlen⟩ := hh
              have h1' : L3[n]? = some a := by
                obtain ⟨M, eM⟩ := (s2.trans s3).pre
                rw [eM, List.getElem?_append_left (List.getElem?_eq_some_iff.mp h1).1]
                exact h1
              obtain ⟨nF3, C3, dx3, fv3, g2, g3, g4⟩ := o3.at_ n a _ h1' e3
              rw [h2] at g2
              cases g2
              have ru : Rep K mg F3 b wz := VRep.flat kz hb
              refine ⟨dx3, fv3, g3, by rw [← g4.length]; omega, ?_⟩
              have o4 := o3.put (d := .ins c' (putFD fn b fs')) (u := .ins C dx3 (putF fn wz fv3)) h1' fun H' h => ⟨C, dx3, _, h2, h, g4.put ru fn⟩
              exact q3 F3 L3 σ _ (rl3.step (Stp.put (List.mem_of_getElem? h1')) o4)
            · exact q3.elim
          · exact q3.elim
        · exact q1.elim
      · exact q1.elim
    · exact q1.elim
  · exact q1.elim
end
end Gh
/-! Gh26: walks over dicts that stand still. -/
namespace Gh
open L2 PyProof.Rows PySem.Spec PySem
/-- what stands at d is held: in the still part u, in the heap h -/
abbrev Ent.pin (Γ : Ent) (d : Addr) (u h : HO) : Ent := { Γ with F0 := upd Γ.F0 d u, H0 := upd Γ.H0 d h }
/-- u in the still part, h in the heap: the same, or a locked dict -/
def Hd (u h : HO) : Prop := h = u ∨ ∃ ob kv, u = .dK kv ∧ h = .frz ob u
section
variable {K : PySem.W.Frag} {mg : Glob} {Γ : Ent} {F F' H H' : Hp} {L L' : List Addr} {σ σ' : St} {ρ ρ' : REnv} {st st' : Store} {d : Addr} {u h h0 : HO}
theorem Rl.notL (r : Rl K mg Γ F L σ H ρ st) (hF : F d = some u) : d ∉ L := fun hm => by
  have := (r.sto.mem hm).1
  rw [hF] at this
  cases this
theorem Rl.notL0 (r : Rl K mg Γ F L σ H ρ st) (hF : F d = some u) : d ∉ Γ.L0 := fun hm => r.notL hF (r.stp.mem hm)
theorem Rl.pin (r : Rl K mg Γ F L σ H ρ st) (hF : F d = some u) (hh : Hd u h) : Rl K mg (Γ.pin d u h) F L σ (upd H d h) ρ st := by
  have nL := r.notL hF
  refine ⟨⟨fun b o q => ?_, r.sto.nd, r.sto.len, fun n b x h1 h2 => ?_⟩, ⟨fun b o q => ?_, r.stp.pre, fun b o q n => ?_⟩, r.sl, fun i x e => ?_, r.sd, r.sx, r.len⟩
  · by_cases hb : b = d
    · subst hb
      rw [hF] at q
      cases q
      rw [upd_same]
      rcases hh with rfl | ⟨ob, kv, e1, e2⟩
      · exact .inl rfl
      · exact .inr ⟨ob, kv, e1, by rw [e2]⟩
    · rw [upd_ne hb]
      exact r.sto.ex b o q
  · obtain ⟨g1, g2⟩ := r.sto.at_ n b x h1 h2
    have hb : b ≠ d := fun z => nL (z ▸ List.mem_of_getElem? h1)
    exact ⟨g1, g2.mono (Ex.refl F) fun w z => by rw [upd_ne hb]; exact z⟩
  · by_cases hb : b = d
    · subst hb
      have q : upd Γ.F0 b u b = some o := q
      rw [upd_same] at q
      rw [hF, q]
    · have q : upd Γ.F0 d u b = some o := q
      rw [upd_ne hb] at q
      exact r.stp.ex b o q
  · by_cases hb : b = d
    · subst hb
      have q : upd Γ.H0 b h b = some o := q
      rw [upd_same] at q
      refine ⟨by rw [upd_same, q], ?_, nL⟩
      show F b = upd Γ.F0 b u b
      rw [upd_same, hF]
    · have q : upd Γ.H0 d h b = some o := q
      rw [upd_ne hb] at q
      obtain ⟨g1, g2, g3⟩ := r.stp.kp b o q n
      refine ⟨by rw [upd_ne hb]; exact g1, ?_, g3⟩
      show F b = upd Γ.F0 d u b
      rw [upd_ne hb]
      exact g2
  · obtain ⟨a, h1, h2, h3, h4, h5⟩ := r.so i x e
    have hb : a ≠ d := fun z => by rw [z, hF] at h2; cases h2
    refine ⟨a, h1, h2, h3, ?_, h5.mono (Ex.refl F) fun w z => by rw [upd_ne hb]; exact z⟩
    show upd Γ.H0 d h a = none
    rw [upd_ne hb]
    exact h4
/-- what is held stays -/
theorem Rl.held (r0 : d ∉ Γ.L0) (r : Rl K mg (Γ.pin d u h) F' L' σ' H' ρ' st') : H' d = some h ∧ F' d = some u ∧ d ∉ L' := by
  have z : (Γ.pin d u h).H0 d = some h := upd_same
  obtain ⟨g1, g2, g3⟩ := r.stp.kp d h z r0
  refine ⟨g1, ?_, g3⟩
  rw [g2]
  exact upd_same
/-- back again: at d stands h0, as it did -/
theorem Rl.unpin (r0 : Rl K mg Γ F L σ H ρ st) (hF : F d = some u) (hH : H d = some h0) (hh : Hd u h0) (r : Rl K mg (Γ.pin d u h) F' L' σ' H' ρ' st') : Rl K mg Γ F' L' σ' (upd H' d h0) ρ' st' := by
  obtain ⟨g1, g2, g3⟩ := Rl.held (r0.notL0 hF) r
  refine ⟨⟨fun b o q => ?_, r.sto.nd, r.sto.len, fun n b x h1 h2 => ?_⟩, ⟨fun b o q => ?_, r.stp.pre, fun b o q n => ?_⟩, r.sl, fun i x e => ?_, r.sd, r.sx, r.len⟩
  · by_cases hb : b = d
    · subst hb
      rw [g2] at q
      cases q
      rw [upd_same]
      rcases hh with rfl | ⟨ob, kv, e1, e2⟩
      · exact .inl rfl
      · exact .inr ⟨ob, kv, e1, by rw [e2]⟩
    · rw [upd_ne hb]
      exact r.sto.ex b o q
  · obtain ⟨k1, k2⟩ := r.sto.at_ n b x h1 h2
    have hb : b ≠ d := fun z => g3 (z ▸ List.mem_of_getElem? h1)
    exact ⟨k1, k2.mono (Ex.refl F') fun w z => by rw [upd_ne hb]; exact z⟩
  · by_cases hb : b = d
    · subst hb
      have := r0.stp.ex b o q
      rw [hF] at this
      rw [g2, this]
    · refine r.stp.ex b o ?_
      show upd Γ.F0 d u b = some o
      rw [upd_ne hb]
      exact q
  · by_cases hb : b = d
    · subst hb
      obtain ⟨k1, k2, _⟩ := r0.stp.kp b o q n
      rw [hH] at k1
      refine ⟨by rw [upd_same, k1], ?_, g3⟩
      rw [g2, ← k2, hF]
    · obtain ⟨k1, k2, k3⟩ := r.stp.kp b o (show upd Γ.H0 d h b = some o by rw [upd_ne hb]; exact q) n
      refine ⟨by rw [upd_ne hb]; exact k1, ?_, k3⟩
      rw [k2]
      show upd Γ.F0 d u b = Γ.F0 b
      rw [upd_ne hb]
  · obtain ⟨a, h1, h2, h3, h4, h5⟩ := r.so i x e
    have hb : a ≠ d := fun z => by rw [z, g2] at h2; cases h2
    have h4 : upd Γ.H0 d h a = none := h4
    rw [upd_ne hb] at h4
    exact ⟨a, h1, h2, h3, h4, h5.mono (Ex.refl F') fun w z => by rw [upd_ne hb]; exact z⟩
/-- the same for steps -/
theorem Stp.unpin (o : Sto K mg F L H st) (hF : F d = some u) (hH : H d = some h0) (hh : Hd u h0) (s : Stp F L (upd H d h) F' L' H') (o' : Sto K mg F' L' H' st') : H' d = some h ∧ Stp F L H F' L' (upd H' d h0) ∧ Sto K mg F' L' (upd H' d h0) st' := by
  have nL : d ∉ L := fun hm => by
    have := (o.mem hm).1
    rw [hF] at this
    cases this
  obtain ⟨g1, g2, g3⟩ := s.kp d h upd_same nL
  rw [hF] at g2
  refine ⟨g1, ⟨s.ex, s.pre, fun b w q n => ?_⟩, fun b w q => ?_, o'.nd, o'.len, fun n b x h1 h2 => ?_⟩
  · by_cases hb : b = d
    · subst hb
      rw [hH] at q
      cases q
      exact ⟨upd_same, by rw [g2, hF], g3⟩
    · obtain ⟨k1, k2, k3⟩ := s.kp b w (by rw [upd_ne hb]; exact q) n
      exact ⟨by rw [upd_ne hb]; exact k1, k2, k3⟩
  · by_cases hb : b = d
    · subst hb
      rw [g2] at q
      cases q
      rw [upd_same]
      rcases hh with rfl | ⟨ob, kv, e1, e2⟩
      · exact .inl rfl
      · exact .inr ⟨ob, kv, e1, by rw [e2]⟩
    · rw [upd_ne hb]
      exact o'.ex b w q
  · obtain ⟨k1, k2⟩ := o'.at_ n b x h1 h2
    have hb : b ≠ d := fun z => g3 (z ▸ List.mem_of_getElem? h1)
    exact ⟨k1, k2.mono (Ex.refl F') fun w z => by rw [upd_ne hb]; exact z⟩
end
/-! ### known expressions: what they yield is told ahead -/
abbrev KnR := St → Hp → V → Prop
structure Kn (X : Cx) (K : PySem.W.Frag) (mg : Glob) (e : Expr) (m : EDen) (r : KnR) : Prop where
  pe : PE X e (fun σ H Q => ∃ v, r σ H v ∧ Q v H)
  at_ : ∀ {Γ : Ent} {F H : Hp} {L : List Addr} {σ : St} {ρ : REnv} {st st' : Store} {d : D}, Rl K mg Γ F L σ H ρ st → m ρ st = .ok d st' → st' = st ∧ ∃ v, r σ H v ∧ VRep K mg L F d v
  lock : ∀ {σ : St} {H : Hp} {v : V} {a : Addr} {kv : List (Key × V)} {o : Obj}, r σ H v → H a = some (.dK kv) → r σ (upd H a (.frz o (.dK kv))) v
section
variable {X : Cx} {K : PySem.W.Frag} {mg : Glob} {Γ : Ent} {W : WX} {e o tg iter : Expr} {mo m : EDen} {pos apos cpos : Pos} {r : KnR}
theorem kn_var (i : Nat) {x : Str} (hN : X.N[i]? = some x := by rfl) (hv : Vis X.env.scope x := by first | exact Or.inl rfl | exact Or.inr (Or.inl rfl) | exact Or.inr (Or.inr rfl)) (hd : (x == ("__debug__" : Str)) = false := by decide)
    (hcd : (x == ("__classdict__" : Str)) = false := by decide) : Kn X K mg (.Name x pos) (eVar i) (fun σ _ v => σ[i]? = some (some v)) := by
  refine ⟨pe_imp (pe_var hN hv hd hcd) fun σ H Q ⟨v, h1, h2⟩ => ⟨v, h1, h2⟩, fun rl hm => ?_, fun h _ => h⟩
  unfold eVar at hm
  split at hm
  · rename_i d' e'
    cases hm
    exact ⟨rfl, rl.sl i _ e'⟩
  · cases hm
theorem kn_att {f : Str} {cs : List Str} (hK : X.K = K) (A : AttOk K mg f cs) (k : Kn X K mg o mo r) (hb : attributeBase o f X.env (eval o X.env) = eval o X.env := by rfl) :
    Kn X K mg (.Attribute o f pos) (e1 (eAttC f cs) mo) (fun σ H v => ∃ a C dx fs, r σ H (.ref a) ∧ H a = some (.ins C dx fs) ∧ Cls K C ∧ NoAttr K C f ∧ fs.lookup f = some v) := by
  refine ⟨pe_imp (pe_fld k.pe hb) fun σ H Q ⟨v, ⟨a, C, dx, fs, h1, h2, h3, h4, h5⟩, q⟩ => ⟨_, h1, a, C, dx, fs, v, rfl, h2, by rw [hK]; exact h3, by rw [hK]; exact h4, h5, q⟩, fun {Γ F H L σ ρ st st' d} rl hm => ?_, ?_⟩
  · unfold e1 at hm
    cases hmo : mo ρ st with
    | bad => rw [hmo] at hm; cases hm
    | exc c fs st2 => rw [hmo] at hm; cases hm
    | ok x st2 =>
      rw [hmo] at hm
      obtain ⟨rfl, v, hr, kv⟩ := k.at_ rl hmo
      have hm : eAttC f cs x st2 = .ok d st' := hm
      unfold eAttC at hm
      split at hm
      · rename_i c fs e
        split at hm
        · rename_i hc
          split at hm
          · rename_i y ey
            cases hm
            obtain ⟨a, C, dx, fv, rfl, h1, h2, h3⟩ := inst_at rl.sto kv (instOf_at e)
            obtain ⟨w, hw, rw'⟩ := h3.look ey
            obtain ⟨cl, na⟩ := A c hc C h1
            exact ⟨rfl, w, ⟨a, C, dx, fv, hr, h2, cl, na, hw⟩, .inr rw'⟩
          · cases hm
        · cases hm
      · cases hm
  · rintro σ H v b kv ob ⟨a, C, dx, fs, h1, h2, h3, h4, h5⟩ hb
    refine ⟨a, C, dx, fs, k.lock h1 hb, ?_, h3, h4, h5⟩
    rw [upd_ne (fun z => by rw [z, hb] at h2; cases h2)]
    exact h2
/-! ### walks over a dict -/
def keyD : Key → D
  | .inl i => .int i
  | .inr s => .str s
theorem rep_key {F : Hp} (k : Key) : Rep K mg F (keyD k) (L2.kV k) := by cases k <;> rfl
theorem RepK.get {F : Hp} : ∀ {ds : List (Key × D)} {vs : List (Key × V)} {i : Nat} {k : Key} {d : D}, RepK K mg F ds vs → ds[i]? = some (k, d) → ∃ v, vs[i]? = some (k, v) ∧ Rep K mg F d v
  | [], vs, i, k, d, h, e => by simp at e
  | (j, x) :: ds, vs, 0, k, d, h, e => by
    obtain ⟨v, r, rfl, h2, h3⟩ := h
    have e : (j, x) = (k, d) := by simpa using e
    cases e
    exact ⟨v, rfl, h2⟩
  | (j, x) :: ds, vs, i + 1, k, d, h, e => by
    obtain ⟨v, r, rfl, h2, h3⟩ := h
    obtain ⟨w, e1, e2⟩ := RepK.get (i := i) h3 (by simpa using e)
    exact ⟨w, by simpa using e1, e2⟩
/-- the turns of J yield f of the pairs, as long as the dict at d is locked -/
def DTurns (K : PySem.W.Frag) (mg : Glob) (J : It) (d : Addr) (o : Obj) (kv : List (Key × V)) (f : Key × D → D) : Prop := ∀ {F H : Hp} {L : List Addr} {st : Store} {kvs : List (Key × D)}, Sto K mg F L H st → RepK K mg F kvs kv → H d = some (.frz o (.dK kv)) →
  J.stop kvs.length H ∧ ∀ (i : Nat) (p : Key × D), kvs[i]? = some p → J.go i H ∧ ∀ x H2, J.yld i H x H2 → ∃ F2, Stp F L H F2 L H2 ∧ Sto K mg F2 L H2 st ∧ Rep K mg F2 (f p) x
structure DWk (X : Cx) (K : PySem.W.Frag) (mg : Glob) (tg iter : Expr) (r : KnR) (f : Key × D → D) : Prop where
  ex : ∃ (wi : TI) (J : Addr → Obj → List (Key × V) → It), PI X tg iter wi ∧ (∀ σ H (R : It → Hp → Prop) d o kv, r σ H (.ref d) → H d = some (.frz o (.dK kv)) → R (J d o kv) H → wi σ H R) ∧ ∀ d o kv, DTurns K mg (J d o kv) d o kv f
theorem dw_keys (k : Kn X K mg e m r) : DWk X K mg tg e r (fun p => keyD p.1) := by
  refine ⟨_, Itk, pi_keys k.pe, fun σ H R d o kv h1 h2 h3 => ⟨_, h1, d, o, rfl, .inl ⟨kv, h2, h3⟩⟩, fun d o kv => ?_⟩
  intro F H L st kvs os rk hd
  refine ⟨⟨hd, by rw [rk.length]; exact Nat.le_refl _⟩, fun i p e => ⟨⟨hd, ?_⟩, ?_⟩⟩
  · rw [← rk.length]
    exact (List.getElem?_eq_some_iff.mp e).1
  · rintro x H2 ⟨rfl, k', v, h1, rfl⟩
    obtain ⟨kk, y⟩ := p
    obtain ⟨w, e1, e2⟩ := rk.get e
    rw [h1] at e1
    cases e1
    exact ⟨F, Stp.refl, os, rep_key _⟩
theorem dw_keysM (k : Kn X K mg e m r) (hbase : attributeBase e "keys" X.env (eval e X.env) = eval e X.env := by rfl) (hline : (apos.endLine == cpos.line) = true := by rfl) : DWk X K mg tg (.Call (.Attribute e "keys" apos) [] [] cpos) r (fun p => keyD p.1) := by
  refine ⟨_, Itk, pi_keysM k.pe hbase hline, fun σ H R d o kv h1 h2 h3 => ⟨_, h1, d, o, kv, rfl, h2, h3⟩, fun d o kv => ?_⟩
  obtain ⟨_, _, _, _, h⟩ := (dw_keys (tg := tg) k).ex
  intro F H L st kvs os rk hd
  refine ⟨⟨hd, by rw [rk.length]; exact Nat.le_refl _⟩, fun i p e => ⟨⟨hd, ?_⟩, ?_⟩⟩
  · rw [← rk.length]
    exact (List.getElem?_eq_some_iff.mp e).1
  · rintro x H2 ⟨rfl, k', v, h1, rfl⟩
    obtain ⟨kk, y⟩ := p
    obtain ⟨w, e1, e2⟩ := rk.get e
    rw [h1] at e1
    cases e1
    exact ⟨F, Stp.refl, os, rep_key _⟩
theorem dw_vals (k : Kn X K mg e m r) (hbase : attributeBase e "values" X.env (eval e X.env) = eval e X.env := by rfl) (hline : (apos.endLine == cpos.line) = true := by rfl) : DWk X K mg tg (.Call (.Attribute e "values" apos) [] [] cpos) r (fun p => p.2) := by
  refine ⟨_, Itd, pi_values k.pe hbase hline, fun σ H R d o kv h1 h2 h3 => ⟨_, h1, d, o, kv, rfl, h2, h3⟩, fun d o kv => ?_⟩
  intro F H L st kvs os rk hd
  refine ⟨⟨hd, by rw [rk.length]; exact Nat.le_refl _⟩, fun i p e => ⟨⟨hd, ?_⟩, ?_⟩⟩
  · rw [← rk.length]
    exact (List.getElem?_eq_some_iff.mp e).1
  · rintro x H2 ⟨rfl, k', h1⟩
    obtain ⟨kk, y⟩ := p
    obtain ⟨w, e1, e2⟩ := rk.get e
    rw [h1] at e1
    cases e1
    exact ⟨F, Stp.refl, os, e2⟩
theorem dw_items {elts : List Expr} {kk : Nat} {tpos : Pos} (k : Kn X K mg e m r) (hbase : attributeBase e "items" X.env (eval e X.env) = eval e X.env := by rfl) (hline : (apos.endLine == cpos.line) = true := by rfl) :
    DWk X K mg (.Tuple elts kk tpos) (.Call (.Attribute e "items" apos) [] [] cpos) r (fun p => .tup [keyD p.1, p.2]) := by
  refine ⟨_, Iti, pi_items k.pe hbase hline, fun σ H R d o kv h1 h2 h3 => ⟨_, h1, d, o, kv, rfl, h2, h3⟩, fun d o kv => ?_⟩
  intro F H L st kvs os rk hd
  refine ⟨⟨hd, by rw [rk.length]; exact Nat.le_refl _⟩, fun i p e => ⟨⟨hd, ?_⟩, ?_⟩⟩
  · rw [← rk.length]
    exact (List.getElem?_eq_some_iff.mp e).1
  · rintro x H2 ⟨T, k', v, h1, rfl, nT, rfl⟩
    obtain ⟨kq, y⟩ := p
    obtain ⟨w, e1, e2⟩ := rk.get e
    rw [h1] at e1
    cases e1
    obtain ⟨s2, o2⟩ := os.lay (o := .tup [L2.kV k', v]) nT
    exact ⟨_, s2, o2, T, _, rfl, .inl (.inl upd_same), _, _, rfl, rep_key _, _, _, rfl, Rep.mono s2.ex _ e2, rfl⟩
/-- a dict that stands still, and a walk over it -/
structure DWp (X : Cx) (K : PySem.W.Frag) (mg : Glob) (tg iter : Expr) (m : EDen) (r : KnR) (f : Key × D → D) : Prop where
  kn : ∃ e, Kn X K mg e m r
  dw : DWk X K mg tg iter r f
theorem wp_keys (k : Kn X K mg e m r) : DWp X K mg tg e m r (fun p => keyD p.1) := ⟨⟨e, k⟩, dw_keys k⟩
theorem wp_keysM (k : Kn X K mg e m r) (hbase : attributeBase e "keys" X.env (eval e X.env) = eval e X.env := by rfl) (hline : (apos.endLine == cpos.line) = true := by rfl) : DWp X K mg tg (.Call (.Attribute e "keys" apos) [] [] cpos) m r (fun p => keyD p.1) := ⟨⟨e, k⟩, dw_keysM k hbase hline⟩
theorem wp_vals (k : Kn X K mg e m r) (hbase : attributeBase e "values" X.env (eval e X.env) = eval e X.env := by rfl) (hline : (apos.endLine == cpos.line) = true := by rfl) : DWp X K mg tg (.Call (.Attribute e "values" apos) [] [] cpos) m r (fun p => p.2) := ⟨⟨e, k⟩, dw_vals k hbase hline⟩
theorem wp_items {elts : List Expr} {kk : Nat} {tpos : Pos} (k : Kn X K mg e m r) (hbase : attributeBase e "items" X.env (eval e X.env) = eval e X.env := by rfl) (hline : (apos.endLine == cpos.line) = true := by rfl) :
    DWp X K mg (.Tuple elts kk tpos) (.Call (.Attribute e "items" apos) [] [] cpos) m r (fun p => .tup [keyD p.1, p.2]) := ⟨⟨e, k⟩, dw_items k hbase hline⟩
/-- where the dict stands, and how -/
theorem dct_at {F H : Hp} {L : List Addr} {σ : St} {ρ : REnv} {st : Store} {kvs : List (Key × D)} {v : V} (rl : Rl K mg Γ F L σ H ρ st) (kv : VRep K mg L F (.dct kvs) v) :
    ∃ d vs u h0, v = .ref d ∧ RepK K mg F kvs vs ∧ F d = some u ∧ H d = some h0 ∧ Hd u h0 ∧ ((u = .dK vs ∧ h0 = .dK vs) ∨ ∃ o, h0 = .frz o (.dK vs)) := by
  rcases kv with ⟨_, _, e, _⟩ | ⟨d, vs, rfl, h1, h2⟩
  · cases e
  · rcases h1 with h1 | ⟨o, h1⟩
    · rcases rl.sto.ex d _ h1 with h | ⟨ob, kv, e, h⟩
      · exact ⟨d, vs, _, _, rfl, h2, h1, h, .inl rfl, .inl ⟨rfl, rfl⟩⟩
      · cases e
        exact ⟨d, vs, _, _, rfl, h2, h1, h, .inr ⟨ob, vs, rfl, rfl⟩, .inr ⟨ob, rfl⟩⟩
    · rcases rl.sto.ex d _ h1 with h | ⟨ob, kv, e, h⟩
      · exact ⟨d, vs, _, _, rfl, h2, h1, h, .inl rfl, .inr ⟨o, rfl⟩⟩
      · cases e
theorem upd_id {H : Hp} {d : Addr} {h : HO} (e : H d = some h) : upd H d h = H := by
  funext b
  by_cases hb : b = d
  · rw [hb, upd_same, e]
  · rw [upd_ne hb]
def lD (m : EDen) (f : Key × D → D) : LDen := fun ρ st => match m ρ st with
  | .ok (.dct kvs) st1 => .ok (kvs.map f) st1
  | _ => .bad
variable {elt kx vx : Expr} {ifs : List Expr} {scope : Scope} {own : List (Str × Nat)} {ws : List Nat} {bd : BDen} {t : TDen} {me mk mv : EDen} {f : Key × D → D} {stmts : List Stmt} {mb : SDen}
/-- the turns behind any steps -/
theorem dt_itC {F H : Hp} {L : List Addr} {st : Store} {J : It} {d : Addr} {ob : Obj} {kv : List (Key × V)} {kvs : List (Key × D)} (T : DTurns K mg J d ob kv f) (rk : RepK K mg F kvs kv) (hd : H d = some (.frz ob (.dK kv))) (nL : d ∉ L) : ItC K mg J (kvs.map f) F L H := by
  intro F1 L1 H1 st1 s o1
  obtain ⟨h1, h2⟩ := T o1 (RepK.mono s.ex _ rk) (s.kp d _ hd nL).1
  rw [List.length_map]
  refine ⟨h1, fun i x e => ?_⟩
  rw [List.getElem?_map] at e
  cases hp : kvs[i]? with
  | none => rw [hp] at e; cases e
  | some p =>
    rw [hp] at e
    cases e
    exact h2 i p hp
/-- readings of a comprehension, from part to part -/
theorem tLc_map {g g' : L2.TG} {tt tt' : TT} {te te' : TE} {vs : List Nat} {σ : St} {Q Q' : VK} {J : It} {H1 : Hp} (hg : ∀ x σ H Q Q', (∀ σ H, Q σ H → Q' σ H) → g x σ H Q → g' x σ H Q') (ht : ∀ σ H (Q Q' : Bool → Hp → Prop), (∀ b H, Q b H → Q' b H) → tt σ H Q → tt' σ H Q') (he : ∀ σ H (Q Q' : VK), (∀ v H, Q v H → Q' v H) → te σ H Q → te' σ H Q') (hq : ∀ v H, Q v H → Q' v H)
    (h : ∀ Dl, H1 Dl = none → ∃ Wi : Nat → Nat → Hp → Prop, (∃ m, Wi 0 m (upd H1 Dl (.lst []))) ∧ ∀ i m H, Wi i m H →
      (J.stop i H ∧ Q (.ref Dl) H) ∨ (J.go i H ∧ ∃ Nx : Hp → Prop, (∀ H', Nx H' → ∃ m', m' < m ∧ Wi (i + 1) m' H') ∧ ∀ x H', J.yld i H x H' → g x (L2.wipe σ vs) H' fun σ2 H2 => L2.wipe σ2 vs = L2.wipe σ vs ∧ tt σ2 H2 fun b H3 =>
        if b = true then te σ2 H3 fun y H4 => ∃ acc, H4 Dl = some (.lst acc) ∧ acc.length < sizeLine ∧ Nx (upd H4 Dl (.lst (acc ++ [y]))) else Nx H3)) :
    ∀ Dl, H1 Dl = none → ∃ Wi : Nat → Nat → Hp → Prop, (∃ m, Wi 0 m (upd H1 Dl (.lst []))) ∧ ∀ i m H, Wi i m H →
      (J.stop i H ∧ Q' (.ref Dl) H) ∨ (J.go i H ∧ ∃ Nx : Hp → Prop, (∀ H', Nx H' → ∃ m', m' < m ∧ Wi (i + 1) m' H') ∧ ∀ x H', J.yld i H x H' → g' x (L2.wipe σ vs) H' fun σ2 H2 => L2.wipe σ2 vs = L2.wipe σ vs ∧ tt' σ2 H2 fun b H3 =>
        if b = true then te' σ2 H3 fun y H4 => ∃ acc, H4 Dl = some (.lst acc) ∧ acc.length < sizeLine ∧ Nx (upd H4 Dl (.lst (acc ++ [y]))) else Nx H3) := by
  intro Dl nD
  obtain ⟨Wi, h0, hs⟩ := h Dl nD
  refine ⟨Wi, h0, fun i m H hw => ?_⟩
  rcases hs i m H hw with ⟨h1, h2⟩ | ⟨h1, Nx, h2, h3⟩
  · exact .inl ⟨h1, hq _ _ h2⟩
  · refine .inr ⟨h1, Nx, h2, fun x H' y => hg _ _ _ _ _ ?_ (h3 x H' y)⟩
    rintro σ2 H2 ⟨e, q⟩
    refine ⟨e, ht _ _ _ _ ?_ q⟩
    intro b H3 q
    cases b with
    | false => exact iteF ((if_neg Bool.false_ne_true).mp q)
    | true => exact iteT (he _ _ _ _ (fun v H z => z) ((if_pos rfl).mp q))
/-- readings at some entry -/
abbrev tgE (K : PySem.W.Frag) (mg : Glob) (ws : List Nat) (bd : BDen) : L2.TG := fun v σ H Q => ∃ Γ : Ent, tgG K mg Γ ws bd v σ H Q
abbrev ttE (K : PySem.W.Frag) (mg : Glob) (W : WX) (t : TDen) : TT := fun σ H Q => ∃ Γ : Ent, ttG K mg Γ W t σ H Q
abbrev teE (K : PySem.W.Frag) (mg : Glob) (W : WX) (m : EDen) : TE := fun σ H Q => ∃ Γ : Ent, teV K mg Γ W m σ H Q
theorem tg_up {x : V} {σ : St} {H : Hp} {Q Q' : St → Hp → Prop} (k : ∀ σ H, Q σ H → Q' σ H) (h : tgG K mg Γ ws bd x σ H Q) : tgE K mg ws bd x σ H Q' := by
  obtain ⟨F, L, ρ, st, d, ρ', h1, h2, h3, h4⟩ := h
  exact ⟨Γ, F, L, ρ, st, d, ρ', h1, h2, h3, fun σ' a b => k _ _ (h4 σ' a b)⟩
theorem tt_up {σ : St} {H : Hp} {Q Q' : Bool → Hp → Prop} (k : ∀ b H, Q b H → Q' b H) (h : ttG K mg Γ W t σ H Q) : ttE K mg W t σ H Q' := by
  obtain ⟨F, L, ρ, st, h1, h2⟩ := h
  exact ⟨Γ, F, L, ρ, st, h1, h2.imp fun _ _ _ _ _ _ _ q => k _ _ q⟩
theorem te_up {σ : St} {H : Hp} {Q Q' : VK} (k : ∀ v H, Q v H → Q' v H) (h : teV K mg Γ W m σ H Q) : teE K mg W m σ H Q' := by
  obtain ⟨F, L, ρ, st, h1, h2⟩ := h
  exact ⟨Γ, F, L, ρ, st, h1, h2.imp fun _ _ _ _ _ _ _ q v kv => k _ _ (q v kv)⟩
/-- what the outcome says of the comprehension's own reading, its dict locked or held already -/
theorem lcD_go {wi : TI} {J : Addr → Obj → List (Key × V) → It} {vs0 : List Nat} {σ : St} {H : Hp} {Q : VK} (k : Kn X K mg e m r) (hwi : ∀ σ H (R : It → Hp → Prop) d o kv, r σ H (.ref d) → H d = some (.frz o (.dK kv)) → R (J d o kv) H → wi σ H R) (turns : ∀ d o kv, DTurns K mg (J d o kv) d o kv f) (hw : ∀ j ∈ ws, j ∈ vs0)
    (h : teO K mg Γ W (eComp (lD m f) bd t me vs0) σ H Q) : tLockE (tLc wi (tgE K mg ws bd) (ttE K mg W0 t) (teE K mg W0 me) vs0) σ H Q ∨ tLc wi (tgE K mg ws bd) (ttE K mg W0 t) (teE K mg W0 me) vs0 σ H Q := by
  obtain ⟨F, L, ρ, st, rl, q⟩ := h
  unfold eComp lD at q
  cases hm : m ρ st with
  | bad => rw [hm] at q; exact q.elim
  | exc c fs st' => rw [hm] at q; exact q.elim
  | ok x st1 =>
    rw [hm] at q
    obtain ⟨rfl, v, hr, kv⟩ := k.at_ rl hm
    cases x with
    | dct kvs =>
      dsimp only [RC.bind_ok] at q
      split at q
      · rename_i hlen
        obtain ⟨d, vs, u, h0, rfl, rk, hF, hH, hh, hcase⟩ := dct_at rl kv
        have q2 := q.bind
        -- the comprehension, the dict held
        have core : ∀ (h : HO) (ob : Obj) (Qn : VK), h = .frz ob (.dK vs) → Hd u h → r σ (upd H d h) (.ref d) → (∀ w H', H' d = some h → Q w (upd H' d h0) → Qn w H') → wi σ (upd H d h) fun J H1 => ∀ Dl, H1 Dl = none → ∃ Wi : Nat → Nat → Hp → Prop, (∃ m, Wi 0 m (upd H1 Dl (.lst []))) ∧ ∀ i m H, Wi i m H →
            (J.stop i H ∧ Qn (.ref Dl) H) ∨ (J.go i H ∧ ∃ Nx : Hp → Prop, (∀ H', Nx H' → ∃ m', m' < m ∧ Wi (i + 1) m' H') ∧ ∀ x H', J.yld i H x H' → tgE K mg ws bd x (L2.wipe σ (vs0)) H' fun σ2 H2 => L2.wipe σ2 (vs0) = L2.wipe σ (vs0) ∧ ttE K mg W0 t σ2 H2 fun b H3 =>
              if b = true then teE K mg W0 me σ2 H3 fun y H4 => ∃ acc, H4 Dl = some (.lst acc) ∧ acc.length < sizeLine ∧ Nx (upd H4 Dl (.lst (acc ++ [y]))) else Nx H3) := by
          rintro h ob Qn rfl hd' hr' hQ
          have rl1 := rl.pin hF hd'
          refine hwi σ _ _ d ob vs hr' upd_same ?_
          have itc := dt_itC (turns d ob vs) rk (H := upd H d (.frz ob (.dK vs))) (st := st1) upd_same (rl.notL hF)
          have z := comp_core (Q := Qn) (W := W) (t := t) (me := me) (bd := bd) hw rl1 (by rw [List.length_map]; simpa using hlen) itc ?_
          · exact tLc_map (Q := Qn) (g := tgG K mg (Γ.pin d u (.frz ob (.dK vs))) ws bd) (tt := ttG K mg (Γ.pin d u (.frz ob (.dK vs))) W0 t) (te := teV K mg (Γ.pin d u (.frz ob (.dK vs))) W0 me) (fun _ _ _ _ _ a b => tg_up a b) (fun _ _ _ _ a b => tt_up a b) (fun _ _ _ _ a b => te_up a b) (fun _ _ a => a) z
          · cases hgo : noX (compGo bd t me (wipeR ρ (vs0)) (kvs.map f) st1) with
            | bad => rw [hgo] at q2; exact q2.elim
            | exc c fs st' =>
              cases hgo2 : compGo bd t me (wipeR ρ (vs0)) (kvs.map f) st1 with
              | bad => rw [hgo2] at hgo; cases hgo
              | exc c fs st' => rw [hgo2] at hgo; cases hgo
              | ok _ _ => rw [hgo2] at hgo; cases hgo
            | ok ys st2 =>
              rw [hgo] at q2
              intro F' L' H' s' o' w kw
              obtain ⟨e1, s2, o2⟩ := Stp.unpin rl.sto hF hH hh s' o'
              refine hQ _ _ e1 ?_
              obtain ⟨Dl, rfl, n1, n2, n3, acc, a1, a2⟩ := kw
              have hne : Dl ≠ d := fun z => by rw [z, upd_same] at n1; cases n1
              refine (q2 F' L' _ s2 o2).here o2 _ ⟨Dl, rfl, ?_, n2, n3, acc, by rw [upd_ne hne]; exact a1, a2⟩
              rwa [upd_ne hne] at n1
        rcases hcase with ⟨rfl, rfl⟩ | ⟨ob, rfl⟩
        · refine .inl ⟨d, .dK vs, hH, True.intro, fun od => ?_⟩
          exact core (.frz od (.dK vs)) od (fun w H' => H' d = some (.frz od (.dK vs)) ∧ Q w (upd H' d (.dK vs))) rfl (.inr ⟨od, vs, rfl, rfl⟩) (k.lock hr hH) fun w H' a b => ⟨a, b⟩
        · refine .inr ?_
          have z := core (.frz ob (.dK vs)) ob Q rfl hh (by rw [upd_id hH]; exact hr) fun w H' a b => by
            rw [upd_id a] at b
            exact b
          rw [upd_id hH] at z
          exact z
      · exact q.elim
    | _ => exact q.elim
theorem tgE_up (hg : ∀ (Γ : Ent) (s : Shared) (H : Hp) (C : Addr) (cl : List (Str × Addr)) (fp : List Addr), PG (X.blk s H scope (compEnvC scope cl C X.env) fp) tg (tgG K mg Γ ws bd)) (s : Shared) (H : Hp) (C : Addr) (cl : List (Str × Addr)) (fp : List Addr) : PG (X.blk s H scope (compEnvC scope cl C X.env) fp) tg (tgE K mg ws bd) :=
  ⟨fun pins s' σ H' v u Q I q ⟨Γ, h⟩ => (hg Γ s H C cl fp).run pins s' σ H' v u Q I q h⟩
theorem ttE_up (ht : ∀ (Γ : Ent) (s : Shared) (H : Hp) (C : Addr) (cl : List (Str × Addr)) (fp : List Addr), PTs (X.blk s H scope (compEnvC scope cl C X.env) fp) ifs (ttG K mg Γ W0 t)) (s : Shared) (H : Hp) (C : Addr) (cl : List (Str × Addr)) (fp : List Addr) : PTs (X.blk s H scope (compEnvC scope cl C X.env) fp) ifs (ttE K mg W0 t) :=
  ⟨fun pins s' σ H' Q I ⟨Γ, h⟩ => (ht Γ s H C cl fp).run pins s' σ H' Q I h⟩
theorem teE_up (he : ∀ (Γ : Ent) (s : Shared) (H : Hp) (C : Addr) (cl : List (Str × Addr)) (fp : List Addr), PE (X.blk s H scope (compEnvC scope cl C X.env) fp) elt (teV K mg Γ W0 me)) (s : Shared) (H : Hp) (C : Addr) (cl : List (Str × Addr)) (fp : List Addr) : PE (X.blk s H scope (compEnvC scope cl C X.env) fp) elt (teE K mg W0 me) :=
  ⟨fun pins s' σ H' Q I ⟨Γ, h⟩ => (he Γ s H C cl fp).run pins s' σ H' Q I h⟩
theorem g_lcD (hc : X.calm = true) (hN : X.N.Nodup) (wp : DWp X K mg tg iter m r f) (ok : BlkOk X.N X.env.scope scope own)
    (hg : ∀ (Γ : Ent) (s : Shared) (H : Hp) (C : Addr) (cl : List (Str × Addr)) (fp : List Addr), PG (X.blk s H scope (compEnvC scope cl C X.env) fp) tg (tgG K mg Γ ws bd))
    (ht : ∀ (Γ : Ent) (s : Shared) (H : Hp) (C : Addr) (cl : List (Str × Addr)) (fp : List Addr), PTs (X.blk s H scope (compEnvC scope cl C X.env) fp) ifs (ttG K mg Γ W0 t))
    (he : ∀ (Γ : Ent) (s : Shared) (H : Hp) (C : Addr) (cl : List (Str × Addr)) (fp : List Addr), PE (X.blk s H scope (compEnvC scope cl C X.env) fp) elt (teV K mg Γ W0 me)) (hw : ∀ j ∈ ws, j ∈ own.map (·.2) := by decide) (hs : ∀ x, foldedSetIterable iter X.env x = pure x := by intro _; rfl) :
    PE X (.ListComp elt [⟨tg, iter, ifs, 0⟩] scope pos) (teO K mg Γ W (eComp (lD m f) bd t me (own.map (·.2)))) := by
  obtain ⟨⟨e, k⟩, w⟩ := wp
  obtain ⟨wi, J, hi, hwi, turns⟩ := w.ex
  have P := pe_lc (pos := pos) hc hN hi ok (tgE_up hg) (ttE_up ht) (teE_up he) hs
  exact pe_imp (pe_or' (pe_lock P) P) fun σ H Q h => lcD_go k hwi turns hw h
theorem ps_or {st0 : Stmt} {t1 t2 : L2.TS} (h : PS X st0 t1) (h' : PS X st0 t2) : PS X st0 (fun D σ H => t1 D σ H ∨ t2 D σ H) := ⟨fun pins s σ H D I q => q.elim (h.run pins s σ H D I) (h'.run pins s σ H D I)⟩
theorem s_asgLcD {i : Nat} {y : Str} {py spos : Pos} (hc : X.calm = true) (hN : X.N.Nodup) (hsw : swapsWith (.ListComp elt [⟨tg, iter, ifs, 0⟩] scope pos) (some (.Name y py)) spos.line X.env = pure true) (wp : DWp X K mg tg iter m r f) (ok : BlkOk X.N X.env.scope scope own)
    (hg : ∀ (Γ : Ent) (s : Shared) (H : Hp) (C : Addr) (cl : List (Str × Addr)) (fp : List Addr), PG (X.blk s H scope (compEnvC scope cl C X.env) fp) tg (tgG K mg Γ ws bd))
    (ht : ∀ (Γ : Ent) (s : Shared) (H : Hp) (C : Addr) (cl : List (Str × Addr)) (fp : List Addr), PTs (X.blk s H scope (compEnvC scope cl C X.env) fp) ifs (ttG K mg Γ W0 t))
    (he : ∀ (Γ : Ent) (s : Shared) (H : Hp) (C : Addr) (cl : List (Str × Addr)) (fp : List Addr), PE (X.blk s H scope (compEnvC scope cl C X.env) fp) elt (teV K mg Γ W0 me)) (hw : ∀ j ∈ ws, j ∈ own.map (·.2) := by decide) (hy : X.N[i]? = some y := by rfl) (hyl : X.env.scope.names.lookup y = some .local := by rfl) (hs : ∀ x, foldedSetIterable iter X.env x = pure x := by intro _; rfl) :
    PS X (.Assign [.Name y py] (.ListComp elt [⟨tg, iter, ifs, 0⟩] scope pos) spos) (tsG K mg Γ W (sAsgO i (eComp (lD m f) bd t me (own.map (·.2))))) := by
  obtain ⟨⟨e, k⟩, w⟩ := wp
  obtain ⟨wi, J, hi, hwi, turns⟩ := w.ex
  have P := ps_setLc (pos := pos) (spos := spos) hc hN hy hyl hsw hi ok (tgE_up hg) (ttE_up ht) (teE_up he) hs
  refine ps_imp (ps_or (ps_lock P) P) fun D' σ H ⟨F, L, ρ, st, rl, q⟩ => ?_
  have h : teO K mg Γ W (eComp (lD m f) bd t me (own.map (·.2))) σ H fun v H' => D'.nx (σ.set i (some v)) H' :=
    ⟨F, L, ρ, st, rl, (SPost.s q rl).imp fun F' L' H' st' d s o q' v kv => by
      obtain ⟨a, rfl, n, nF, nL, hs⟩ := kv
      exact q' F' L' _ H' (rl.setN s o i n nF nL hs)⟩
  exact lcD_go k hwi turns hw h
end
end Gh
/-! Gh27: dict comprehensions; for over a dict. -/
namespace Gh
open L2 PyProof.Rows PySem.Spec PySem
def dcompGo (bd : BDen) (t : TDen) (mk mv : EDen) (ρ : REnv) : List D → Store → RC (List (Key × D))
  | [], st => .ok [] st
  | d :: ds, st => match bd d ρ with
    | none => .bad
    | some ρ1 => (t ρ1 st).bind fun b st1 => if b then (mk ρ1 st1).bind fun y st2 => (mv ρ1 st2).bind fun z st3 => match keyOf y with
      | some k => if isLoc z then .bad else (dcompGo bd t mk mv ρ ds st3).bind fun ps st4 => .ok ((k, z) :: ps) st4
      | none => .bad
      else dcompGo bd t mk mv ρ ds st1
/-- {k: v for target in iter if ..} -/
def eDComp (mi : LDen) (bd : BDen) (t : TDen) (mk mv : EDen) (vs : List Nat) : EDen := fun ρ st => (mi ρ st).bind fun ds st1 => if ds.length < 100000 then (noX (dcompGo bd t mk mv (wipeR ρ vs) ds st1)).bind fun ps st2 => .ok (.dct (mergeD [] ps)) st2 else .bad
section
variable {X : Cx} {K : PySem.W.Frag} {mg : Glob} {Γ : Ent} {W : WX} {e tg iter kx vx : Expr} {ifs : List Expr} {pos p : Pos} {bd : BDen} {mi : LDen} {m mk mv : EDen} {t : TDen} {scope : Scope} {own : List (Str × Nat)} {ws : List Nat} {r : KnR} {f : Key × D → D}
theorem dcomp_core {F1 H1 : Hp} {L1 : List Addr} {σ : St} {ρ : REnv} {st1 : Store} {ds : List D} {J : It} {Q : VK} {vs : List Nat} (hw : ∀ j ∈ ws, j ∈ vs) (rl1 : Rl K mg Γ F1 L1 σ H1 ρ st1) (hlen : ds.length < 100000) (hJ : ItC K mg J ds F1 L1 H1)
    (q2 : Post K mg W σ F1 L1 H1 (noX (dcompGo bd t mk mv (wipeR ρ vs) ds st1)) (fun F' L' H' _ ps => ∀ v, kO K mg σ H1 ρ F' L' H' (.dct (mergeD [] ps)) v → Q v H')) : ∀ Dl, H1 Dl = none → ∃ Wi : Nat → Nat → Hp → Prop, (∃ m, Wi 0 m (upd H1 Dl (.dK []))) ∧ ∀ i m H, Wi i m H →
      (J.stop i H ∧ Q (.ref Dl) H) ∨ (J.go i H ∧ ∃ Nx : Hp → Prop, (∀ H', Nx H' → ∃ m', m' < m ∧ Wi (i + 1) m' H') ∧ ∀ x H', J.yld i H x H' → tgG K mg Γ ws bd x (L2.wipe σ vs) H' fun σ2 H2 => L2.wipe σ2 vs = L2.wipe σ vs ∧ ttG K mg Γ W0 t σ2 H2 fun b H3 =>
        if b = true then teV K mg Γ W0 mk σ2 H3 fun y H4 => teV K mg Γ W0 mv σ2 H4 fun z H5 => ∃ kvs k, y = L2.kV k ∧ H5 Dl = some (.dK kvs) ∧ kvs.length < sizeLine ∧ Nx (upd H5 Dl (.dK (putK kvs k z))) else Nx H3) := by
  intro Dl nD
  cases hgo : dcompGo bd t mk mv (wipeR ρ vs) ds st1 with
  | exc c fs st' => rw [hgo] at q2; exact q2.elim
  | bad => rw [hgo] at q2; exact q2.elim
  | ok total stE =>
    rw [hgo] at q2
    have q2 : Post K mg W σ F1 L1 H1 (.ok total stE) _ := q2
    have nF1 : F1 Dl = none := rl1.sto.ex.free nD
    have nL1 : Dl ∉ L1 := rl1.newL nD
    refine ⟨fun i m H' => m + i = ds.length ∧ ∃ F' L' st' acc accD rest, Stp F1 L1 H1 F' L' H' ∧ Sto K mg F' L' H' st' ∧ F' Dl = none ∧ Dl ∉ L' ∧ H' Dl = some (.dK acc) ∧ RepK K mg F' accD acc ∧ accD.length ≤ i ∧
        dcompGo bd t mk mv (wipeR ρ vs) (ds.drop i) st' = .ok rest stE ∧ mergeD accD rest = mergeD [] total, ⟨ds.length, rfl, F1, L1, st1, [], [], total, Stp.fresh nD, rl1.sto.fresh nD, nF1, nL1, upd_same, rfl, Nat.le_refl 0, hgo, rfl⟩, ?_⟩
    rintro i m H' ⟨hm, F', L', st', acc, accD, rest, s', o', nF', nL', hD, hr, hlA, hc', hT⟩
    obtain ⟨hstop, hgo'⟩ := hJ F' L' H' st' s' o'
    by_cases hi : i < ds.length
    · right
      rw [drop_cons hi] at hc'
      unfold dcompGo at hc'
      obtain ⟨g1, g2⟩ := hgo' i ds[i] (List.getElem?_eq_getElem hi)
      refine ⟨g1, fun H' => (m - 1) + (i + 1) = ds.length ∧ ∃ F' L' st' acc accD rest, Stp F1 L1 H1 F' L' H' ∧ Sto K mg F' L' H' st' ∧ F' Dl = none ∧ Dl ∉ L' ∧ H' Dl = some (.dK acc) ∧ RepK K mg F' accD acc ∧ accD.length ≤ i + 1 ∧
        dcompGo bd t mk mv (wipeR ρ vs) (ds.drop (i + 1)) st' = .ok rest stE ∧ mergeD accD rest = mergeD [] total, fun H2 h => ⟨m - 1, by omega, h⟩, fun x H2 y => ?_⟩
      obtain ⟨F2, s2, o2, r2⟩ := g2 x H2 y
      have rl2 : Rl K mg Γ F2 L' (L2.wipe σ vs) H2 (wipeR ρ vs) st' := ((rl1.step s' o').step s2 o2).wipe _
      have hD2 := s2.kp Dl _ hD nL'
      cases hb1 : bd ds[i] (wipeR ρ vs) with
      | none => rw [hb1] at hc'; cases hc'
      | some ρ1 =>
        rw [hb1] at hc'
        dsimp only at hc'
        refine ⟨F2, L', _, st', ds[i], ρ1, rl2, r2, hb1, fun σ3 off rl3 => ⟨wipe_off off hw, F2, L', ρ1, st', rl3, ?_⟩⟩
        cases ht1 : t ρ1 st' with
        | bad => rw [ht1] at hc'; cases hc'
        | exc c fs st2 => rw [ht1] at hc'; cases hc'
        | ok b st2 =>
          rw [ht1] at hc'
          simp only [RC.bind_ok] at hc'
          intro F3 L3 H3 s3 o3
          have hD3 := s3.kp Dl _ hD2.1 hD2.2.2
          have rl4 := rl3.step s3 o3
          cases b with
          | false =>
            refine iteF ⟨by omega, F3, L3, st2, acc, accD, rest, (s'.trans s2).trans s3, o3, ?_, hD3.2.2, hD3.1, RepK.mono s3.ex _ (RepK.mono s2.ex _ hr), by omega, ?_, hT⟩
            · rw [hD3.2.1, hD2.2.1]; exact nF'
            · simpa using hc'
          | true =>
            rw [if_pos rfl] at hc'
            refine iteT ⟨F3, L3, ρ1, st2, rl4, ?_⟩
            cases he1 : mk ρ1 st2 with
            | bad => rw [he1] at hc'; cases hc'
            | exc c fs st3 => rw [he1] at hc'; cases hc'
            | ok y st3 =>
              rw [he1] at hc'
              simp only [RC.bind_ok] at hc'
              intro F4 L4 H4 s4 o4 v kv
              have hD4 := s4.kp Dl _ hD3.1 hD3.2.2
              have rl5 := rl4.step s4 o4
              refine ⟨F4, L4, ρ1, st3, rl5, ?_⟩
              cases he2 : mv ρ1 st3 with
              | bad => rw [he2] at hc'; cases hc'
              | exc c fs st4 => rw [he2] at hc'; cases hc'
              | ok z st4 =>
                rw [he2] at hc'
                simp only [RC.bind_ok] at hc'
                intro F5 L5 H5 s5 o5 vz kz
                have hD5 := s5.kp Dl _ hD4.1 hD4.2.2
                split at hc'
                · rename_i kk hkk
                  split at hc'
                  · cases hc'
                  · rename_i hloc
                    have ry : Rep K mg F5 z vz := VRep.flat kz (by simpa using hloc)
                    cases hc2 : dcompGo bd t mk mv (wipeR ρ vs) (ds.drop (i + 1)) st4 with
                    | bad => rw [hc2] at hc'; cases hc'
                    | exc c fs st5 => rw [hc2] at hc'; cases hc'
                    | ok ys st5 =>
                      rw [hc2] at hc'
                      simp only [RC.bind_ok, RC.ok.injEq] at hc'
                      obtain ⟨e1, e2⟩ := hc'
                      subst e2
                      subst e1
                      have nF5 : F5 Dl = none := by rw [hD5.2.1, hD4.2.1, hD3.2.1, hD2.2.1]; exact nF'
                      have lA : acc.length = accD.length := hr.length.symm
                      have s6 := (((s'.trans s2).trans s3).trans s4).trans s5
                      refine ⟨acc, kk, keyOf_v hkk kv, hD5.1, by rw [sizeLine_eq]; omega, by omega, F5, L5, st4, putK acc kk vz, putD accD kk z, ys, ?_, o5.updN nF5 hD5.2.2, nF5, hD5.2.2, upd_same, ?_, ?_, hc2, hT⟩
                      · refine ⟨s6.ex, s6.pre, fun b u h n => ?_⟩
                        obtain ⟨k1, k2, k3⟩ := s6.kp b u h n
                        have hb : b ≠ Dl := ne_of_none h nD
                        exact ⟨by rw [upd_ne hb]; exact k1, k2, k3⟩
                      · exact RepK.put (RepK.mono s5.ex _ (RepK.mono s4.ex _ (RepK.mono s3.ex _ (RepK.mono s2.ex _ hr)))) kk ry
                      · unfold putD
                        split
                        · rw [List.length_map]; omega
                        · rw [List.length_append]
                          simp only [List.length_cons, List.length_nil]
                          omega
                · cases hc'
    · left
      have e : i = ds.length := by omega
      subst e
      rw [List.drop_length] at hc'
      unfold dcompGo at hc'
      cases hc'
      have hT : accD = mergeD [] total := hT
      subst hT
      exact ⟨hstop, q2 F' L' H' s' o' _ ⟨Dl, rfl, nD, nF', nL', acc, hD, hr⟩⟩
theorem g_dc (hc : X.calm = true) (hN : X.N.Nodup) (hi : PI X tg iter (tiC K mg Γ W mi)) (ok : BlkOk X.N X.env.scope scope own)
    (hg : ∀ (s : Shared) (H : Hp) (C : Addr) (cl : List (Str × Addr)) (fp : List Addr), PG (X.blk s H scope (compEnvC scope cl C X.env) fp) tg (tgG K mg Γ ws bd))
    (ht : ∀ (s : Shared) (H : Hp) (C : Addr) (cl : List (Str × Addr)) (fp : List Addr), PTs (X.blk s H scope (compEnvC scope cl C X.env) fp) ifs (ttG K mg Γ W0 t))
    (hk : ∀ (s : Shared) (H : Hp) (C : Addr) (cl : List (Str × Addr)) (fp : List Addr), PE (X.blk s H scope (compEnvC scope cl C X.env) fp) kx (teV K mg Γ W0 mk))
    (he : ∀ (s : Shared) (H : Hp) (C : Addr) (cl : List (Str × Addr)) (fp : List Addr), PE (X.blk s H scope (compEnvC scope cl C X.env) fp) vx (teV K mg Γ W0 mv)) (hw : ∀ j ∈ ws, j ∈ own.map (·.2) := by decide) (hs : ∀ x, foldedSetIterable iter X.env x = pure x := by intro _; rfl) :
    PE X (.DictComp kx vx [⟨tg, iter, ifs, 0⟩] scope pos) (teO K mg Γ W (eDComp mi bd t mk mv (own.map (·.2)))) := by
  refine pe_imp (pe_dc hc hN hi ok hg ht hk he hs) fun σ H Q ⟨F, L, ρ, st, rl, q⟩ => ?_
  refine ⟨F, L, ρ, st, rl, q.bind.imp fun F1 L1 H1 st1 ds s1 o1 q1 J hJ => ?_⟩
  split at q1
  · rename_i hlen
    exact dcomp_core hw (rl.step s1 o1) hlen hJ (q1.bind.imp fun F2 L2 H2 st2 ys s2 o2 q2 v kv => q2.here o2 v (kO_late (fun a h => s1.more o1 a h) kv))
  · exact q1.elim
theorem tDc_map {g g' : L2.TG} {tt tt' : TT} {tk tk' tv tv' : TE} {vs : List Nat} {σ : St} {Q Q' : VK} {J : It} {H1 : Hp} (hg : ∀ x σ H Q Q', (∀ σ H, Q σ H → Q' σ H) → g x σ H Q → g' x σ H Q') (ht : ∀ σ H (Q Q' : Bool → Hp → Prop), (∀ b H, Q b H → Q' b H) → tt σ H Q → tt' σ H Q') (hk : ∀ σ H (Q Q' : VK), (∀ v H, Q v H → Q' v H) → tk σ H Q → tk' σ H Q') (he : ∀ σ H (Q Q' : VK), (∀ v H, Q v H → Q' v H) → tv σ H Q → tv' σ H Q') (hq : ∀ v H, Q v H → Q' v H)
    (h : ∀ Dl, H1 Dl = none → ∃ Wi : Nat → Nat → Hp → Prop, (∃ m, Wi 0 m (upd H1 Dl (.dK []))) ∧ ∀ i m H, Wi i m H →
      (J.stop i H ∧ Q (.ref Dl) H) ∨ (J.go i H ∧ ∃ Nx : Hp → Prop, (∀ H', Nx H' → ∃ m', m' < m ∧ Wi (i + 1) m' H') ∧ ∀ x H', J.yld i H x H' → g x (L2.wipe σ vs) H' fun σ2 H2 => L2.wipe σ2 vs = L2.wipe σ vs ∧ tt σ2 H2 fun b H3 =>
        if b = true then tk σ2 H3 fun y H4 => tv σ2 H4 fun z H5 => ∃ kvs k, y = L2.kV k ∧ H5 Dl = some (.dK kvs) ∧ kvs.length < sizeLine ∧ Nx (upd H5 Dl (.dK (putK kvs k z))) else Nx H3)) :
    ∀ Dl, H1 Dl = none → ∃ Wi : Nat → Nat → Hp → Prop, (∃ m, Wi 0 m (upd H1 Dl (.dK []))) ∧ ∀ i m H, Wi i m H →
      (J.stop i H ∧ Q' (.ref Dl) H) ∨ (J.go i H ∧ ∃ Nx : Hp → Prop, (∀ H', Nx H' → ∃ m', m' < m ∧ Wi (i + 1) m' H') ∧ ∀ x H', J.yld i H x H' → g' x (L2.wipe σ vs) H' fun σ2 H2 => L2.wipe σ2 vs = L2.wipe σ vs ∧ tt' σ2 H2 fun b H3 =>
        if b = true then tk' σ2 H3 fun y H4 => tv' σ2 H4 fun z H5 => ∃ kvs k, y = L2.kV k ∧ H5 Dl = some (.dK kvs) ∧ kvs.length < sizeLine ∧ Nx (upd H5 Dl (.dK (putK kvs k z))) else Nx H3) := by
  intro Dl nD
  obtain ⟨Wi, h0, hs⟩ := h Dl nD
  refine ⟨Wi, h0, fun i m H hw => ?_⟩
  rcases hs i m H hw with ⟨h1, h2⟩ | ⟨h1, Nx, h2, h3⟩
  · exact .inl ⟨h1, hq _ _ h2⟩
  · refine .inr ⟨h1, Nx, h2, fun x H' y => hg _ _ _ _ _ ?_ (h3 x H' y)⟩
    rintro σ2 H2 ⟨e, q⟩
    refine ⟨e, ht _ _ _ _ ?_ q⟩
    intro b H3 q
    cases b with
    | false => exact iteF ((if_neg Bool.false_ne_true).mp q)
    | true => exact iteT (hk _ _ _ _ (fun v H z => he _ _ _ _ (fun _ _ a => a) z) ((if_pos rfl).mp q))
/-- what the outcome says of the comprehension's own reading, its dict locked or held already -/
theorem dcD_go {wi : TI} {J : Addr → Obj → List (Key × V) → It} {vs0 : List Nat} {σ : St} {H : Hp} {Q : VK} (k : Kn X K mg e m r) (hwi : ∀ σ H (R : It → Hp → Prop) d o kv, r σ H (.ref d) → H d = some (.frz o (.dK kv)) → R (J d o kv) H → wi σ H R) (turns : ∀ d o kv, DTurns K mg (J d o kv) d o kv f) (hw : ∀ j ∈ ws, j ∈ vs0)
    (h : teO K mg Γ W (eDComp (lD m f) bd t mk mv vs0) σ H Q) : tLockE (tDc wi (tgE K mg ws bd) (ttE K mg W0 t) (teE K mg W0 mk) (teE K mg W0 mv) vs0) σ H Q ∨ tDc wi (tgE K mg ws bd) (ttE K mg W0 t) (teE K mg W0 mk) (teE K mg W0 mv) vs0 σ H Q := by
  obtain ⟨F, L, ρ, st, rl, q⟩ := h
  unfold eDComp lD at q
  cases hm : m ρ st with
  | bad => rw [hm] at q; exact q.elim
  | exc c fs st' => rw [hm] at q; exact q.elim
  | ok x st1 =>
    rw [hm] at q
    obtain ⟨rfl, v, hr, kv⟩ := k.at_ rl hm
    cases x with
    | dct kvs =>
      dsimp only [RC.bind_ok] at q
      split at q
      · rename_i hlen
        obtain ⟨d, vs, u, h0, rfl, rk, hF, hH, hh, hcase⟩ := dct_at rl kv
        have q2 := q.bind
        -- the comprehension, the dict held
        have core : ∀ (h : HO) (ob : Obj) (Qn : VK), h = .frz ob (.dK vs) → Hd u h → r σ (upd H d h) (.ref d) → (∀ w H', H' d = some h → Q w (upd H' d h0) → Qn w H') → wi σ (upd H d h) fun J H1 => ∀ Dl, H1 Dl = none → ∃ Wi : Nat → Nat → Hp → Prop, (∃ m, Wi 0 m (upd H1 Dl (.dK []))) ∧ ∀ i m H, Wi i m H →
            (J.stop i H ∧ Qn (.ref Dl) H) ∨ (J.go i H ∧ ∃ Nx : Hp → Prop, (∀ H', Nx H' → ∃ m', m' < m ∧ Wi (i + 1) m' H') ∧ ∀ x H', J.yld i H x H' → tgE K mg ws bd x (L2.wipe σ (vs0)) H' fun σ2 H2 => L2.wipe σ2 (vs0) = L2.wipe σ (vs0) ∧ ttE K mg W0 t σ2 H2 fun b H3 =>
              if b = true then teE K mg W0 mk σ2 H3 fun y H4 => teE K mg W0 mv σ2 H4 fun z H5 => ∃ kvs k, y = L2.kV k ∧ H5 Dl = some (.dK kvs) ∧ kvs.length < sizeLine ∧ Nx (upd H5 Dl (.dK (putK kvs k z))) else Nx H3) := by
          rintro h ob Qn rfl hd' hr' hQ
          have rl1 := rl.pin hF hd'
          refine hwi σ _ _ d ob vs hr' upd_same ?_
          have itc := dt_itC (turns d ob vs) rk (H := upd H d (.frz ob (.dK vs))) (st := st1) upd_same (rl.notL hF)
          have z := dcomp_core (Q := Qn) (W := W) (t := t) (mk := mk) (mv := mv) (bd := bd) hw rl1 (by rw [List.length_map]; simpa using hlen) itc ?_
          · exact tDc_map (Q := Qn) (g := tgG K mg (Γ.pin d u (.frz ob (.dK vs))) ws bd) (tt := ttG K mg (Γ.pin d u (.frz ob (.dK vs))) W0 t) (tk := teV K mg (Γ.pin d u (.frz ob (.dK vs))) W0 mk) (tv := teV K mg (Γ.pin d u (.frz ob (.dK vs))) W0 mv) (fun _ _ _ _ _ a b => tg_up a b) (fun _ _ _ _ a b => tt_up a b) (fun _ _ _ _ a b => te_up a b) (fun _ _ _ _ a b => te_up a b) (fun _ _ a => a) z
          · cases hgo : noX (dcompGo bd t mk mv (wipeR ρ (vs0)) (kvs.map f) st1) with
            | bad => rw [hgo] at q2; exact q2.elim
            | exc c fs st' =>
              cases hgo2 : dcompGo bd t mk mv (wipeR ρ (vs0)) (kvs.map f) st1 with
              | bad => rw [hgo2] at hgo; cases hgo
              | exc c fs st' => rw [hgo2] at hgo; cases hgo
              | ok _ _ => rw [hgo2] at hgo; cases hgo
            | ok ys st2 =>
              rw [hgo] at q2
              intro F' L' H' s' o' w kw
              obtain ⟨e1, s2, o2⟩ := Stp.unpin rl.sto hF hH hh s' o'
              refine hQ _ _ e1 ?_
              obtain ⟨Dl, rfl, n1, n2, n3, acc, a1, a2⟩ := kw
              have hne : Dl ≠ d := fun z => by rw [z, upd_same] at n1; cases n1
              refine (q2 F' L' _ s2 o2).here o2 _ ⟨Dl, rfl, ?_, n2, n3, acc, by rw [upd_ne hne]; exact a1, a2⟩
              rwa [upd_ne hne] at n1
        rcases hcase with ⟨rfl, rfl⟩ | ⟨ob, rfl⟩
        · refine .inl ⟨d, .dK vs, hH, True.intro, fun od => ?_⟩
          exact core (.frz od (.dK vs)) od (fun w H' => H' d = some (.frz od (.dK vs)) ∧ Q w (upd H' d (.dK vs))) rfl (.inr ⟨od, vs, rfl, rfl⟩) (k.lock hr hH) fun w H' a b => ⟨a, b⟩
        · refine .inr ?_
          have z := core (.frz ob (.dK vs)) ob Q rfl hh (by rw [upd_id hH]; exact hr) fun w H' a b => by
            rw [upd_id a] at b
            exact b
          rw [upd_id hH] at z
          exact z
      · exact q.elim
    | _ => exact q.elim
theorem g_dcD (hc : X.calm = true) (hN : X.N.Nodup) (wp : DWp X K mg tg iter m r f) (ok : BlkOk X.N X.env.scope scope own)
    (hg : ∀ (Γ : Ent) (s : Shared) (H : Hp) (C : Addr) (cl : List (Str × Addr)) (fp : List Addr), PG (X.blk s H scope (compEnvC scope cl C X.env) fp) tg (tgG K mg Γ ws bd))
    (ht : ∀ (Γ : Ent) (s : Shared) (H : Hp) (C : Addr) (cl : List (Str × Addr)) (fp : List Addr), PTs (X.blk s H scope (compEnvC scope cl C X.env) fp) ifs (ttG K mg Γ W0 t))
    (hk : ∀ (Γ : Ent) (s : Shared) (H : Hp) (C : Addr) (cl : List (Str × Addr)) (fp : List Addr), PE (X.blk s H scope (compEnvC scope cl C X.env) fp) kx (teV K mg Γ W0 mk))
    (he : ∀ (Γ : Ent) (s : Shared) (H : Hp) (C : Addr) (cl : List (Str × Addr)) (fp : List Addr), PE (X.blk s H scope (compEnvC scope cl C X.env) fp) vx (teV K mg Γ W0 mv)) (hw : ∀ j ∈ ws, j ∈ own.map (·.2) := by decide) (hs : ∀ x, foldedSetIterable iter X.env x = pure x := by intro _; rfl) :
    PE X (.DictComp kx vx [⟨tg, iter, ifs, 0⟩] scope pos) (teO K mg Γ W (eDComp (lD m f) bd t mk mv (own.map (·.2)))) := by
  obtain ⟨⟨e, k⟩, w⟩ := wp
  obtain ⟨wi, J, hi, hwi, turns⟩ := w.ex
  have P := pe_dc (pos := pos) hc hN hi ok (tgE_up hg) (ttE_up ht) (teE_up hk) (teE_up he) hs
  exact pe_imp (pe_or' (pe_lock P) P) fun σ H Q h => dcD_go k hwi turns hw h
/-! ### for over a dict -/
def noXsr (r : SR) : SR := match r with
  | .exc _ _ _ _ => .bad
  | r => r
def sForD (m : EDen) (f : Key × D → D) (bd : BDen) (body : SDen) : SDen := fun ρ st => match m ρ st with
  | .ok (.dct kvs) st1 => noXsr (forGo bd body (kvs.map f) ρ st1)
  | _ => .bad
theorem SPost.pin {rs : SR} {F H : Hp} {L : List Addr} {σ : St} {ρ : REnv} {st : Store} {d : Addr} {u h h0 : HO} {D' Dn : Ends} (rl0 : Rl K mg Γ F L σ H ρ st) (hF : F d = some u) (hH : H d = some h0) (hh : Hd u h0) (hnx : ∀ σ' H', H' d = some h → D'.nx σ' (upd H' d h0) → Dn.nx σ' H') (hrt : ∀ v H', H' d = some h → D'.rt v (upd H' d h0) → Dn.rt v H')
    (q : SPost K mg Γ W { D' with bk := fun _ _ => False, ct := fun _ _ => False } (noXsr rs)) : SPost K mg (Γ.pin d u h) W { Dn with bk := fun _ _ => False, ct := fun _ _ => False } rs := by
  have r0 := rl0.notL0 hF
  cases rs with
  | nx ρ' st' => exact fun F' L' σ' H' rl' => hnx _ _ (Rl.held r0 rl').1 (q F' L' σ' _ (Rl.unpin rl0 hF hH hh rl'))
  | rt x st' => exact fun F' L' σ' H' ρ' v rl' kv => hrt _ _ (Rl.held r0 rl').1 (q F' L' σ' _ ρ' v (Rl.unpin rl0 hF hH hh rl') kv)
  | bk ρ' st' => exact fun F' L' σ' H' rl' => q F' L' σ' _ (Rl.unpin rl0 hF hH hh rl')
  | ct ρ' st' => exact fun F' L' σ' H' rl' => q F' L' σ' _ (Rl.unpin rl0 hF hH hh rl')
  | exc c fs ρ' st' => exact q.elim
  | bad => exact q.elim
theorem forGo_bk {bd : BDen} {mb : SDen} : ∀ (ds : List D) (ρ : REnv) (st : Store), (∀ ρ' st', forGo bd mb ds ρ st ≠ .bk ρ' st') ∧ (∀ ρ' st', forGo bd mb ds ρ st ≠ .ct ρ' st')
  | [], ρ, st => ⟨fun _ _ z => (by cases z), fun _ _ z => (by cases z)⟩
  | x :: ds, ρ, st => by
    unfold forGo
    cases bd x ρ with
    | none => exact ⟨fun _ _ z => (by cases z), fun _ _ z => (by cases z)⟩
    | some ρ1 =>
      dsimp only
      cases mb ρ1 st with
      | nx ρ2 st2 => exact forGo_bk ds ρ2 st2
      | ct ρ2 st2 => exact forGo_bk ds ρ2 st2
      | bk ρ2 st2 => exact ⟨fun _ _ z => (by cases z), fun _ _ z => (by cases z)⟩
      | rt _ _ => exact ⟨fun _ _ z => (by cases z), fun _ _ z => (by cases z)⟩
      | exc _ _ _ _ => exact ⟨fun _ _ z => (by cases z), fun _ _ z => (by cases z)⟩
      | bad => exact ⟨fun _ _ z => (by cases z), fun _ _ z => (by cases z)⟩
theorem SPost.noLoop {rs : SR} {D' : Ends} (hb : ∀ ρ' st', rs ≠ .bk ρ' st') (hc : ∀ ρ' st', rs ≠ .ct ρ' st') (q : SPost K mg Γ W D' rs) : SPost K mg Γ W { D' with bk := fun _ _ => False, ct := fun _ _ => False } rs := by
  cases rs with
  | bk ρ' st' => exact absurd rfl (hb _ _)
  | ct ρ' st' => exact absurd rfl (hc _ _)
  | _ => exact q
theorem forD_core {vs : List Nat} {mb : SDen} {F Hl : Hp} {L : List Addr} {σ : St} {ρ : REnv} {st1 : Store} {d : Addr} {u : HO} {ob : Obj} {kv : List (Key × V)} {kvs : List (Key × D)} {J : It} {Dn : Ends} (T : DTurns K mg J d ob kv f) (rk : RepK K mg F kvs kv) (n0 : d ∉ Γ.L0)
    (b : Rl K mg (Γ.pin d u (.frz ob (.dK kv))) F L σ Hl ρ st1) (q1 : SPost K mg (Γ.pin d u (.frz ob (.dK kv))) W Dn (forGo bd mb (kvs.map f) ρ st1)) :
    tFor (fun _ H R => R J H) (tgG K mg ((Γ.pin d u (.frz ob (.dK kv))).at F) vs bd) (tsG K mg ((Γ.pin d u (.frz ob (.dK kv))).at F) W mb) Dn σ Hl := by
  generalize hG : (Γ.pin d u (.frz ob (.dK kv))) = Γ' at *
  have hH0 : Γ'.H0 d = some (.frz ob (.dK kv)) := by rw [← hG]; exact upd_same
  have nL0 : d ∉ Γ'.L0 := by rw [← hG]; exact n0
  refine ⟨fun i m σ' H' => m + i = kvs.length ∧ ∃ F' L' ρ' st', Rl K mg (Γ'.at F) F' L' σ' H' ρ' st' ∧ SPost K mg (Γ'.at F) W Dn (forGo bd mb ((kvs.map f).drop i) ρ' st'), ⟨kvs.length, rfl, F, L, ρ, st1, b.anchor, q1.anchor b⟩, ?_⟩
  rintro i m σ' H' ⟨hm, F', L', ρ', st', rl', q'⟩
  have hd : H' d = some (.frz ob (.dK kv)) := (rl'.stp.kp d _ hH0 nL0).1
  obtain ⟨hstop, hgo⟩ := T rl'.sto (RepK.mono rl'.stp.ex _ rk) hd
  by_cases hi : i < kvs.length
  · right
    rw [drop_cons (by rw [List.length_map]; exact hi)] at q'
    unfold forGo at q'
    obtain ⟨g1, g2⟩ := hgo i kvs[i] (List.getElem?_eq_getElem hi)
    refine ⟨g1, fun σ2 H2 => (m - 1) + (i + 1) = kvs.length ∧ ∃ F2 L2 ρ2 st2, Rl K mg (Γ'.at F) F2 L2 σ2 H2 ρ2 st2 ∧ SPost K mg (Γ'.at F) W Dn (forGo bd mb ((kvs.map f).drop (i + 1)) ρ2 st2), fun σ2 H2 h => ⟨m - 1, by omega, h⟩, fun x H2 y => ?_⟩
    obtain ⟨F2, s2, o2, r2⟩ := g2 x H2 y
    have rl2 := rl'.step s2 o2
    rw [List.getElem_map] at q'
    cases hb1 : bd (f kvs[i]) ρ' with
    | none => rw [hb1] at q'; exact q'.elim
    | some ρ1 =>
      rw [hb1] at q'
      refine ⟨F2, L', ρ', st', f kvs[i], ρ1, rl2, r2, hb1, fun σ3 _ rl3 => ⟨F2, L', ρ1, st', rl3, ?_⟩⟩
      dsimp only at q'
      cases hb2 : mb ρ1 st' with
      | nx ρ2 st2 => rw [hb2] at q'; exact fun F3 L3 σ4 H4 rl4 => ⟨by omega, F3, L3, ρ2, st2, rl4, q'⟩
      | ct ρ2 st2 => rw [hb2] at q'; exact fun F3 L3 σ4 H4 rl4 => ⟨by omega, F3, L3, ρ2, st2, rl4, q'⟩
      | bk ρ2 st2 => rw [hb2] at q'; exact q'
      | rt d st2 => rw [hb2] at q'; exact q'
      | exc c fs ρ2 st2 => rw [hb2] at q'; exact q'
      | bad => rw [hb2] at q'; exact q'.elim
  · left
    have e : i = kvs.length := by omega
    subst e
    rw [show (kvs.map f).drop kvs.length = [] from List.drop_eq_nil_of_le (by simp)] at q'
    exact ⟨hstop, q' F' L' σ' H' rl'⟩
theorem s_forD {vs : List Nat} {stmts : List Stmt} {mb : SDen} (hp : PassesOwn (model X.prog X.w) X.A X.env X.xe) (hc : X.calm = true) (wp : DWp X K mg tg iter m r f) (hg : ∀ Γ, PG X tg (tgG K mg Γ vs bd)) (hb : ∀ Γ' : Ent, Γ'.x = Γ.x → PSs X stmts (tsG K mg Γ' W mb))
    (hs : ∀ x, foldedSetIterable iter X.env x = pure x := by intro _; rfl) : PS X (.For tg iter stmts [] pos) (tsG K mg Γ W (sForD m f bd mb)) := by
  obtain ⟨⟨e, k⟩, w⟩ := wp
  obtain ⟨wi, J, hi, hwi, turns⟩ := w.ex
  have g' : PG X tg (fun v σ H Q => ∃ Γ' : Ent, Γ'.x = Γ.x ∧ tgG K mg Γ' vs bd v σ H Q) := ⟨fun pins s σ H v u Q I r ⟨Γ', _, q⟩ => (hg Γ').run pins s σ H v u Q I r q⟩
  have b' : PSs X stmts (fun D σ H => ∃ Γ' : Ent, Γ'.x = Γ.x ∧ tsG K mg Γ' W mb D σ H) := ⟨fun pins s σ H D I ⟨Γ', e, q⟩ => (hb Γ' e).run pins s σ H D I q⟩
  have P := ps_for (pos := pos) hp hc hi g' b' hs
  refine ps_imp (ps_or (ps_lock P) P) fun D' σ H ⟨F, L, ρ, st, rl, q⟩ => ?_
  · unfold sForD at q
    cases hm : m ρ st with
    | bad => rw [hm] at q; exact q.elim
    | exc c fs st' => rw [hm] at q; exact q.elim
    | ok x st1 =>
      rw [hm] at q
      obtain ⟨rfl, v, hr, kv⟩ := k.at_ rl hm
      cases x with
      | dct kvs =>
        dsimp only at q
        obtain ⟨d, vs', u, h0, rfl, rk, hF, hH, hh, hcase⟩ := dct_at rl kv
        have core : ∀ (ob : Obj) (Dn : Ends), Hd u (.frz ob (.dK vs')) → r σ (upd H d (.frz ob (.dK vs'))) (.ref d) → (∀ σ' H', H' d = some (.frz ob (.dK vs')) → D'.nx σ' (upd H' d h0) → Dn.nx σ' H') → (∀ v H', H' d = some (.frz ob (.dK vs')) → D'.rt v (upd H' d h0) → Dn.rt v H') →
            tFor wi (fun v σ H Q => ∃ Γ' : Ent, Γ'.x = Γ.x ∧ tgG K mg Γ' vs bd v σ H Q) (fun D σ H => ∃ Γ' : Ent, Γ'.x = Γ.x ∧ tsG K mg Γ' W mb D σ H) Dn σ (upd H d (.frz ob (.dK vs'))) := by
          intro ob Dn hd' hr' hnx hrt
          have rl1 := rl.pin hF hd'
          refine hwi σ _ _ d ob vs' hr' upd_same ?_
          have q0 : SPost K mg Γ W { D' with bk := fun _ _ => False, ct := fun _ _ => False } (noXsr (forGo bd mb (kvs.map f) ρ st1)) := by
            refine SPost.noLoop (fun ρ' st' z => ?_) (fun ρ' st' z => ?_) q
            · cases hg2 : forGo bd mb (kvs.map f) ρ st1 with
              | bk _ _ => exact (forGo_bk (kvs.map f) ρ st1).1 _ _ hg2
              | _ => rw [hg2] at z; cases z
            · cases hg2 : forGo bd mb (kvs.map f) ρ st1 with
              | ct _ _ => exact (forGo_bk (kvs.map f) ρ st1).2 _ _ hg2
              | _ => rw [hg2] at z; cases z
          have q1 := SPost.pin (Dn := Dn) (h := .frz ob (.dK vs')) rl hF hH hh hnx hrt q0
          obtain ⟨Wi, hW, turn⟩ := forD_core (W := W) (vs := vs) (mb := mb) (bd := bd) (turns d ob vs') rk (rl.notL0 hF) rl1 q1
          refine ⟨Wi, hW, fun i m σ' H' w => ?_⟩
          rcases turn i m σ' H' w with h | ⟨g1, N, hN, g2⟩
          · exact .inl h
          · refine .inr ⟨g1, N, hN, fun x H2 y => ⟨(Γ.pin d u (.frz ob (.dK vs'))).at F, rfl, ?_⟩⟩
            obtain ⟨F3, L3, ρ3, st3, d3, ρ', r1, r2, r3, r4⟩ := g2 x H2 y
            exact ⟨F3, L3, ρ3, st3, d3, ρ', r1, r2, r3, fun σ' o rl' => ⟨(Γ.pin d u (.frz ob (.dK vs'))).at F, rfl, r4 σ' o rl'⟩⟩
        rcases hcase with ⟨rfl, rfl⟩ | ⟨ob, rfl⟩
        · refine .inl ⟨d, .dK vs', hH, True.intro, fun od => ?_⟩
          exact core od ⟨fun σ' H' => H' d = some (.frz od (.dK vs')) ∧ D'.nx σ' (upd H' d (.dK vs')), fun v H' => H' d = some (.frz od (.dK vs')) ∧ D'.rt v (upd H' d (.dK vs')), fun σ' H' => H' d = some (.frz od (.dK vs')) ∧ D'.bk σ' (upd H' d (.dK vs')), fun σ' H' => H' d = some (.frz od (.dK vs')) ∧ D'.ct σ' (upd H' d (.dK vs'))⟩ (.inr ⟨od, vs', rfl, rfl⟩) (k.lock hr hH) (fun σ' H' a b => ⟨a, b⟩) fun v H' a b => ⟨a, b⟩
        · refine .inr ?_
          have z := core ob D' hh (by rw [upd_id hH]; exact hr) (fun σ' H' a b => by
            rw [upd_id a] at b
            exact b) fun v H' a b => by
            rw [upd_id a] at b
            exact b
          rw [upd_id hH] at z
          exact z
      | _ => exact q.elim
end
end Gh
/-! Gh28: sets of numbers and texts: made of a list or a tuple, sorted, their length. -/
namespace Gh
open L2 PyProof.Rows PySem.Spec PySem
/-- the key of an entry -/
def entK (e : Int × Value) : Key := match e.2 with
  | .int k _ => .inl k
  | .str x _ => .inr x
  | _ => .inl 0
def EntOk (w : World) (e : Int × Value) : Prop := ∃ k : Key, keyIs k e.2 = true ∧ e.1 = keyH w k
/-- at a: a set whose members' keys are those of l, each once -/
def KSet (w : World) (h : Heap) (a : Addr) (l : List Key) : Prop := ∃ o es ep t, h.get? a = some o ∧ o.ExactSet ∧ o.data = .set es ep t ∧ (∀ e ∈ es.toList, EntOk w e) ∧ (es.toList.map entK).Perm l ∧ l.Nodup ∧
  es.size < scanBound ∧ t.fits es.size = true ∧ Ris t.place.toList ∧ (w.params.followText "set-order" = true ∨ t.led = true)
theorem entK_is {k : Key} {e : Int × Value} (h : keyIs k e.2 = true) : entK e = k := by
  rcases keyIs_shape h with ⟨i, t, rfl, e1⟩ | ⟨x, t, rfl, e1⟩ <;> (unfold entK; rw [e1])
section
variable {P : Program} {w : World} {A : Around} {E : Value → Shared → Prop} {s : Shared} {a : Addr} {l : List Key}
theorem ents_elems {es : List (Int × Value)} (g : ∀ e ∈ es, EntOk w e) : ElemsOf (mixKind P w) es := fun e he => by
  obtain ⟨k, h1, h2⟩ := g e he
  refine ⟨⟨k, h1, h2⟩, ?_⟩
  rcases keyIs_shape h1 with ⟨i, t, rfl, e1⟩ | ⟨x, t, rfl, e1⟩ <;> (rw [e1]; rfl)
theorem ent_is {e : Int × Value} (g : EntOk w e) (k : Key) : (mixKind P w).is k e.2 = true ↔ entK e = k := by
  obtain ⟨k0, h1, _⟩ := g
  constructor
  · intro h
    exact entK_is h
  · intro h
    rw [entK_is h1] at h
    subst h
    exact h1
theorem KSet.at {h h' : Heap} (R : KSet w h a l) (k : ∀ o, h.get? a = some o → h'.get? a = some o) : KSet w h' a l := by
  obtain ⟨o, es, ep, t, ho, r⟩ := R
  exact ⟨o, es, ep, t, k o ho, r⟩
/-- the end of an adding: the table is laid anew if it is too full -/
theorem kset_tail {g : Bool → Sem Unit} (hg : ∀ (b : Bool) (s₁ : Shared) (Q' : Unit → Shared → Prop), Q' () s₁ → wpAny (model P w) A (g b) Q' E s₁) {o : Obj} {es : Array (Int × Value)} {ep : Nat} {t : SetTable} (ho : s.heap.get? a = some o) (hex : o.ExactSet) (hd : o.data = .set es ep t)
    {es1 : Array (Int × Value)} {t2 : SetTable} {l' : List Key} (g1 : ∀ e ∈ es1.toList, EntOk w e) (p1 : (es1.toList.map entK).Perm l') (nd : l'.Nodup) (hb1 : es1.size < scanBound) (hf2 : t2.fits es1.size = true) (hr : Ris t2.place.toList) (hl : w.params.followText "set-order" = true ∨ t2.led = true)
    {wasDummy : Bool} {R : Option Bool → Shared → Prop} (hR : ∀ h', Heap.SameBut a s.heap h' → KSet w h' a l' → R (some true) { s with heap := h' }) :
    wpAny (model P w) A (do
      storeSet a es1 t2
      if (!wasDummy && t2.tooFull) = true then do
        g (relayAll t2 es1 (SetTable.grown es1.size)).2.2
        storeSet a (relayAll t2 es1 (SetTable.grown es1.size)).1 (relayAll t2 es1 (SetTable.grown es1.size)).2.1
        pure (some true)
      else pure (some true)) R E s := by
  refine wpAny_bind (wpAny_storeSet_of ho hd ?_ (fits_of_scanBound hb1))
  have at1 := store_at (es' := es1) (t' := t2) ho hd
  have same1 := Heap.SameBut.update s.heap a (Obj.putSet es1 t2)
  split
  · have pm := relayAll_perm t2 es1 (SetTable.grown es1.size)
    have f3 := relayAll_fits t2 es1 (SetTable.grown es1.size)
    have r3 := relayAll_ris t2 es1 (SetTable.grown es1.size)
    have l3 := relayAll_led t2 es1 (SetTable.grown es1.size)
    generalize relayAll t2 es1 (SetTable.grown es1.size) = Z at pm f3 r3 l3 ⊢
    obtain ⟨es2, t3, gave⟩ := Z
    dsimp only at pm f3 r3 l3 ⊢
    have z2 : es2.size = es1.size := by rw [← Array.length_toList, pm.length_eq, Array.length_toList]
    have b2 : es2.size < scanBound := by rw [z2]; exact hb1
    refine wpAny_bind (hg _ _ _ ?_)
    refine wpAny_bind (wpAny_storeSet_of at1 rfl ?_ (fits_of_scanBound b2))
    have at2 := store_at (es' := es2) (t' := t3) at1 rfl
    refine wpAny_pure (hR _ (same1.trans (Heap.SameBut.update _ a _)) ⟨_, es2, _, t3, at2, hex, rfl, fun e he => g1 e (pm.mem_iff.mp he), (pm.map entK).trans p1, nd, b2, f3, r3, ?_⟩)
    rcases hl with z | z
    · exact .inl z
    · exact .inr (by rw [l3]; exact z)
  · exact wpAny_pure (hR _ same1 ⟨_, es1, _, t2, at1, hex, rfl, g1, p1, nd, hb1, hf2, hr, hl⟩)
def hasK (l : List Key) (k : Key) : Bool := l.any fun j => decide (j = k)
theorem hasK_iff {l : List Key} {k : Key} : hasK l k = true ↔ k ∈ l := by
  unfold hasK
  rw [List.any_eq_true]
  constructor
  · rintro ⟨j, h1, h2⟩
    exact of_decide_eq_true h2 ▸ h1
  · exact fun h => ⟨k, h, decide_eq_true rfl⟩
def addK (l : List Key) (k : Key) : List Key := if hasK l k = true then l else k :: l
theorem addK_in {l : List Key} {k : Key} (h : k ∈ l) : addK l k = l := if_pos (hasK_iff.mpr h)
theorem addK_out {l : List Key} {k : Key} (h : k ∉ l) : addK l k = k :: l := if_neg fun z => h (hasK_iff.mp z)
theorem kset_add {k : Key} {u : Value} {Q : Bool → Shared → Prop} (hk : keyIs k u = true) (R : KSet w s.heap a l) (room : l.length + 1 < scanBound) (hQ : ∀ b h', Heap.SameBut a s.heap h' → KSet w h' a (addK l k) → Q b { s with heap := h' }) :
    wpAny (model P w) A (setAddHashed a u ((mixKind P w).hash k)) Q E s := by
  obtain ⟨o, es, ep, t, ho, hex, hd, g, pm0, nd, hb, hf, hr, hl⟩ := R
  have len0 : es.size = l.length := by rw [← pm0.length_eq, List.length_map, Array.length_toList]
  have sc : u.scannable = true := by
    rcases keyIs_shape hk with ⟨i, t, rfl, e1⟩ | ⟨x, t, rfl, e1⟩ <;> (rw [e1]; rfl)
  have el : ElemsOf (mixKind P w) es.toList := ents_elems g
  unfold setAddHashed setAddHashedIn
  refine wpAny_holding (wpAny_bind (wpAny_setState_of ho hd hf ?_))
  dsimp only
  rw [byScan_of sc hb el]
  simp only [↓reduceIte]
  unfold setAddByScan
  refine wpAny_bind ?_
  refine wpAny_bind (wpAny_rule ?_)
  refine wpAny_bind (wpAny_setScan_of hk ho hd hf el ?_)
  cases at_ : List.findIdx? (fun e => (mixKind P w).is k e.2) es.toList with
  | some j =>
    dsimp only
    obtain ⟨hj, pj, _⟩ := List.findIdx?_eq_some_iff_getElem.mp at_
    have hin : k ∈ l := pm0.mem_iff.mp (List.mem_map.mpr ⟨_, List.getElem_mem hj, entK_is pj⟩)
    refine wpAny_pure (wpAny_pure ?_)
    refine hQ _ s.heap (Heap.SameBut.refl a s.heap) ?_
    rw [addK_in hin]
    exact ⟨o, es, ep, t, ho, hex, hd, g, pm0, nd, hb, hf, hr, hl⟩
  | none =>
    dsimp only
    have out : k ∉ l := fun z => by
      obtain ⟨e, he, q⟩ := List.mem_map.mp (pm0.mem_iff.mpr z)
      have c := List.findIdx?_eq_none_iff.mp at_ e he
      rw [(ent_is (P := P) (g e he) k).mpr q] at c
      cases c
    have gw : ∀ (b : Bool) {s₁ : Shared} {Q' : Unit → Shared → Prop}, Q' () s₁ → wpAny (model P w) A (match b with | true => rule "set.scan.the-table-gave-way" | false => pure ()) Q' E s₁ := fun b s₁ Q' q => by
      cases b with
      | true => exact wpAny_rule q
      | false => exact wpAny_pure q
    have q1 := layNew_perm t es ((mixKind P w).hash k) u
    have q2 := layNew_fits t es ((mixKind P w).hash k) u
    have q3 := layNew_ris t es ((mixKind P w).hash k) u hr
    have q4 := layNew_led t es ((mixKind P w).hash k) u
    generalize layNew t es ((mixKind P w).hash k) u = Z at q1 q2 q3 q4 ⊢
    obtain ⟨es1, t1, wasDummy, gave⟩ := Z
    dsimp only at q1 q2 q3 q4 ⊢
    rw [Array.toList_push] at q1
    have pc : es1.toList.Perm (((mixKind P w).hash k, u) :: es.toList) := q1.trans (List.perm_append_singleton _ _)
    have g1 : ∀ e ∈ es1.toList, EntOk w e := fun e he => by
      rcases List.mem_cons.mp (pc.mem_iff.mp he) with rfl | z
      · exact ⟨k, hk, rfl⟩
      · exact g e z
    have pk : (es1.toList.map entK).Perm (addK l k) := by
      rw [addK_out out]
      refine (pc.map entK).trans ?_
      rw [List.map_cons, show entK ((mixKind P w).hash k, u) = k from entK_is hk]
      exact pm0.cons k
    have nd1 : (addK l k).Nodup := by
      rw [addK_out out]
      exact List.nodup_cons.mpr ⟨out, nd⟩
    have z1 : es1.size = l.length + 1 := by rw [← Array.length_toList, pc.length_eq, List.length_cons, Array.length_toList, len0]
    have hb1 : es1.size < scanBound := by rw [z1]; exact room
    have hled : w.params.followText "set-order" = true ∨ t1.led = true := hl.imp id fun z => by rw [q4]; exact z
    refine wpAny_bind (gw _ ?_)
    split
    · refine wpAny_bind ?_
      rw [hashByValue_scannable 8 sc]
      refine wpAny_pure ?_
      refine kset_tail ?_ ho hex hd g1 pk nd1 hb1 ?_ ?_ ?_ ?_
      · intro b s₁ Q' q; cases b <;> first | exact wpAny_pure q | exact wpAny_rule q
      · first | (split <;> first | exact q2 | exact SetTable.fits_plain_off q2) | exact q2
      · first | (split <;> exact q3) | exact q3
      · first | (split <;> exact hled) | exact hled
      · intro h' sb r; dsimp only; exact wpAny_pure (hQ _ h' sb r)
    · refine wpAny_bind (wpAny_pure ?_)
      simp only [↓reduceIte]
      refine kset_tail ?_ ho hex hd g1 pk nd1 hb1 q2 q3 hled ?_
      · intro b s₁ Q' q; cases b <;> first | exact wpAny_pure q | exact wpAny_rule q
      · intro h' sb r; dsimp only; exact wpAny_pure (hQ _ h' sb r)
theorem kset_fresh {h : Heap} (ho : h.get? a = some { cls := .type "set", dict := none, data := .set #[] 0 (.fresh 0 0 (!w.params.followText "set-order")) }) : KSet w h a [] :=
  ⟨_, #[], 0, _, ho, ⟨rfl, rfl, rfl⟩, rfl, (fun e he => by simp at he), List.Perm.nil, List.nodup_nil, (by decide), (by rfl), List.Pairwise.nil, by
    show _ ∨ (!w.params.followText "set-order") = true
    cases w.params.followText "set-order" with
    | true => exact .inl rfl
    | false => exact .inr rfl⟩
end
/-- what is gathered from a row of keys -/
def setK (ks : List Key) : List Key := ks.foldl addK []
theorem setK_take {ks : List Key} {i : Nat} {k : Key} (h : ks[i]? = some k) : setK (ks.take (i + 1)) = addK (setK (ks.take i)) k := by
  unfold setK
  rw [List.take_add_one, h, List.foldl_append]
  rfl
theorem addK_len (l : List Key) (k : Key) : (addK l k).length ≤ l.length + 1 := by
  unfold addK
  split
  · omega
  · exact Nat.le_refl _
theorem foldl_addK_len : ∀ (ks l : List Key), (ks.foldl addK l).length ≤ l.length + ks.length
  | [], l => Nat.le_refl _
  | k :: ks, l => by
    have := foldl_addK_len ks (addK l k)
    have := addK_len l k
    simp only [List.foldl_cons, List.length_cons]
    omega
theorem setK_len (ks : List Key) : (setK ks).length ≤ ks.length := by
  have := foldl_addK_len ks []
  simpa [setK] using this
inductive Each2 {α β : Type} (R : α → β → Prop) : List α → List β → Prop
  | nil : Each2 R [] []
  | cons {a : α} {b : β} {as : List α} {bs : List β} : R a b → Each2 R as bs → Each2 R (a :: as) (b :: bs)
theorem Each2.len {α β : Type} {R : α → β → Prop} {as : List α} {bs : List β} (h : Each2 R as bs) : as.length = bs.length := by
  induction h with
  | nil => rfl
  | cons _ _ ih => rw [List.length_cons, List.length_cons, ih]
theorem Each2.at_ {α β : Type} {R : α → β → Prop} {as : List α} {bs : List β} (h : Each2 R as bs) : ∀ {i : Nat} {b : β}, bs[i]? = some b → ∃ a, as[i]? = some a ∧ R a b := by
  induction h with
  | nil => intro i b e; simp at e
  | cons r _ ih =>
    intro i b e
    cases i with
    | zero =>
      simp only [List.getElem?_cons_zero, Option.some.injEq] at e
      subst e
      exact ⟨_, rfl, r⟩
    | succ i => exact ih (by simpa using e)
abbrev setObj0 (w : World) : Obj := { cls := .type "set", dict := none, data := .set #[] 0 (.fresh 0 0 (!w.params.followText "set-order")) }
section
variable {P : Program} {w : World} {A : Around} {E : Value → Shared → Prop} {s : Shared}
theorem loopK {I : Addr} {fp wr : List Addr} {G : Array GenState → Array GenState → Prop} {n : Nat} {Pv : Nat → Value → Prop} {St : Nat → Shared → Prop} {R : Result → Shared → Prop} (W : WalksS P w A.in1 I fp wr G n Pv St) (S : Addr) (nS : S ∉ fp) (ks : List Key) (hn : n = ks.length) (hb : ks.length + 1 < scanBound)
    (hval : ∀ i v, Pv i v → ∃ k, ks[i]? = some k ∧ keyIs k v = true) : ∀ (k i : Nat) (s : Shared), n - i = k → i ≤ n → St i s → KSet w s.heap S (setK (ks.take i)) →
      (∀ s', Moved (S :: wr) G s s' → KSet w s'.heap S (setK ks) → R (.ok (.ret .none)) s') → codeAny (model P w) A (.builtin "set.update.loop" ⟨[.ref S, .ref I], []⟩) R s := by
  have nW : S ∉ wr := fun h => nS (W.sub _ h)
  have more : ∀ b ∈ wr, b ∈ S :: wr := fun b hb => List.mem_cons_of_mem _ hb
  intro k
  induction k with
  | zero =>
    intro i s hk hi hst hS hR
    obtain rfl : i = n := by omega
    refine codeAny_builtin F.entry_set_update_loop ?_
    rw [Around.under_plainId F.plain_set_update_loop _]
    show wpAny _ A.in1 (pyNext (.ref I) >>= _) _ _ s
    refine wpAny_bind (W.done s _ _ hst fun s' hm => ?_)
    show wpAny _ A.in1 (ret Value.none) _ _ s'
    rw [hn, List.take_length] at hS
    exact wpAny_pure (hR s' (hm.mono more) (hS.at fun o e => hm.heap S o nW e))
  | succ k ih =>
    intro i s hk hi hst hS hR
    have hlt : i < n := by omega
    refine codeAny_builtin F.entry_set_update_loop ?_
    rw [Around.under_plainId F.plain_set_update_loop _]
    show wpAny _ A.in1 (pyNext (.ref I) >>= _) _ _ s
    refine wpAny_bind (W.item i s _ _ hlt hst fun v s' hP hst' hm => ?_)
    obtain ⟨kk, hkk, hv⟩ := hval i v hP
    have hS' : KSet w s'.heap S (setK (ks.take i)) := hS.at fun o e => hm.heap S o nW e
    show wpAny _ A.in1 (holding [v] (setAdd S v) >>= _) _ _ s'
    refine wpAny_bind (wpAny_holding ?_)
    unfold setAdd
    refine wpAny_holding ?_
    refine wpAny_bind ((mixKind P w).pyHash (k := kk) hv ?_)
    have room : (setK (ks.take i)).length + 1 < scanBound := by
      have := setK_len (ks.take i)
      rw [List.length_take] at this
      omega
    refine kset_add (s := { s' with toks := s'.toks + 1 }) hv hS' room fun b h' hsb hS2 => ?_
    rw [← setK_take hkk] at hS2
    refine wpAny_pure ⟨plainId_quiet F.plain_set_update_loop _, ih (i + 1) _ (by omega) hlt (W.frame _ s' _ _ hst' (Nat.le_succ _) fun b hb o e => ?_) hS2 fun s'' hm'' hS'' => ?_⟩
    · rw [hsb.2 b (fun h : b = S => nS (by rw [← h]; exact hb))]
      exact e
    · refine hR s'' (Moved.trans W.gtrans ((hm.mono more).then_heap (Nat.le_succ _) fun b o hb e => ?_) hm'') hS''
      rw [hsb.2 b (fun h : b = S => hb (by rw [h]; exact List.mem_cons_self))]
      exact e

set_option maxHeartbeats 6400000 in
theorem call_set_list {b : Addr} {items : Array Value} (ks : List Key) {Q : Value → Shared → Prop} (hh : A.handled = none) (hl : s.heap.IsList b items) (hit : Each2 (fun k v => keyIs k v = true) ks items.toList) (hb : ks.length + 1 < scanBound)
    (q : ∀ (h' : Heap) (tk : Nat), KSet w h' s.heap.objs.size (setK ks) → (∀ b o, s.heap.get? b = some o → h'.get? b = some o) → Q (.ref s.heap.objs.size) { s with heap := h', toks := tk }) : wpAny (model P w) A (call (.type "set") [.ref b]) Q E s := by
  have isz : items.size = ks.length := by rw [← Array.length_toList, ← hit.len]
  obtain ⟨c, tl, hmro⟩ := F.called_set.mro
  have made := F.called_set.made
  have subs := F.called_set.sub
  refine wpAny_call (codeAny_of_tree ?_)
  show wpAny _ _ (callAny (.type "set") _) _ _ _
  refine wpAny_pure ⟨Code.quiet_builtin _ (by decide +kernel), codeAny_builtin F.entry_type_call ?_⟩
  rw [Around.under_plain (weight_type_call_type "set" [.ref b] []) rfl]
  have x1 := F.called_set.notType
  have x2 := F.called_set.canCreate
  have x3 := F.typeCall_set_1 (.ref b)
  repeat (any_goals (first | assumption | wp_step))
  refine codeAny_mono (code_set_led1 (.ref b) (E := E) (Q₁ := fun obj s₁ => obj = .ref s.heap.objs.size ∧ s₁ = { s with heap := s.heap.push (setObj0 w) }) ⟨rfl, rfl⟩) fun r s₁ hr => ?_
  cases r with
  | error e => exact hr
  | ok fl =>
    cases fl with
    | ret obj =>
      obtain ⟨rfl, rfl⟩ := hr
      have oS : (s.heap.push (setObj0 w)).get? s.heap.objs.size = some (setObj0 w) := Heap.get?_push_size _ rfl
      have tS : Shared.TypeIs { s with heap := s.heap.push (setObj0 w) } (.ref s.heap.objs.size) "set" := ⟨_, oS, rfl⟩
      have y1 := F.called_set.init.lookup
      have y2 := F.called_set.init.bind (.ref s.heap.objs.size)
      repeat (any_goals (first | assumption | wp_step))
      refine codeAny_mono (codeAny_call_builtin (R := wants (fun r s₂ => r = .none ∧ ∃ h' tk, s₂ = { s with heap := h', toks := tk } ∧ KSet w h' s.heap.objs.size (setK ks) ∧ (∀ b o, s.heap.get? b = some o → h'.get? b = some o)) E) F.called_set.init.plain F.entry_set_init (check_set_init_1 tS ?_)) fun r₂ s₂ hr₂ => ?_
      · obtain ⟨ol, hol, hcl, nl, hdl⟩ := hl
        obtain ⟨ocls, odict, odata, oslots⟩ := ol
        simp only at hcl hdl
        subst hcl; subst hdl
        have oL : (s.heap.push (setObj0 w)).get? b = some { cls := .type "list", dict := odict, data := .seq items nl, slots := oslots } := Heap.get?_push_of_some _ hol
        have z1 := F.sub_list_set
        have z2 := F.sub_list_frozenset
        have z3 : (Value.type "list" == Value.type "dict") = false := by decide
        have hl1 : (s.heap.push (setObj0 w)).IsList b items := ⟨_, oL, rfl, nl, rfl⟩
        unfold Builtin.«set.__init__» noKeywords Builtin.Frozenset.updateFrom
        generalize hPI : pyIter = PI
        wp_walk
        subst hPI
        refine wpAny_pyIter_list hl1 ?_
        refine wpAny_bind (wpAny_runValue ?_)
        have bS : b < s.heap.objs.size := Heap.lt_size hol
        have hh3 : A.in1.in1.in1.handled = none := by simp [hh]
        have neI : b ≠ (s.heap.push (setObj0 w)).objs.size := by
          rw [Heap.size_push]
          exact Nat.ne_of_lt (Nat.lt_succ_of_lt bS)
        have nS : s.heap.objs.size ∉ [(s.heap.push (setObj0 w)).objs.size, b] := by
          rw [Heap.size_push]
          simp only [List.mem_cons, List.not_mem_nil, or_false, not_or]
          exact ⟨Nat.ne_of_lt (Nat.lt_succ_self _), Nat.ne_of_gt bS⟩
        refine loopK ((Walks.list hh3 _ b neI items).toS) s.heap.objs.size nS ks isz hb (fun i v hv => hit.at_ (by rw [Array.getElem?_toList]; exact hv)) (items.size - 0) 0 _ (by omega) (Nat.zero_le _)
          ⟨⟨_, Heap.get?_push_size _ rfl, rfl, rfl⟩, (hl1.push _)⟩ ?hS0 ?hR
        case hS0 => exact kset_fresh (Heap.get?_push_of_some _ oS)
        case hR =>
          intro s' hm hS'
          obtain ⟨h', g2, d', tk', os'⟩ := s'
          obtain rfl : g2 = s.gens := hm.gens
          obtain rfl : d' = s.drawn := hm.drawn
          obtain rfl : os' = s.os := hm.os
          show wpAny _ _ _ _ _ _
          refine wpAny_pure ?_
          show wpAny _ _ (ret Value.none) _ _ _
          refine wpAny_pure ⟨rfl, h', tk', rfl, hS', fun c o e => ?_⟩
          have hc := Heap.lt_size e
          refine hm.heap c o ?_ (Heap.get?_push_of_some _ (Heap.get?_push_of_some _ e))
          rw [Heap.size_push]
          simp only [List.mem_cons, List.not_mem_nil, or_false, not_or]
          exact ⟨Nat.ne_of_lt hc, Nat.ne_of_lt (Nat.lt_succ_of_lt hc)⟩
      · cases r₂ with
        | error e => exact hr₂
        | ok fl₂ =>
          cases fl₂ with
          | ret r =>
            obtain ⟨rfl, h', tk, rfl, hS', hk'⟩ := hr₂
            repeat (any_goals (first | assumption | wp_step))
            exact q _ _ hS' hk'
          | _ => exact hr₂.elim
    | _ => exact hr.elim

set_option maxHeartbeats 6400000 in
theorem call_set_tup {b : Addr} {items : Array Value} (ks : List Key) {Q : Value → Shared → Prop} (hh : A.handled = none) (hl : s.heap.IsTuple b items) (hit : Each2 (fun k v => keyIs k v = true) ks items.toList) (hb : ks.length + 1 < scanBound)
    (q : ∀ (h' : Heap) (tk : Nat), KSet w h' s.heap.objs.size (setK ks) → (∀ b o, s.heap.get? b = some o → h'.get? b = some o) → Q (.ref s.heap.objs.size) { s with heap := h', toks := tk }) : wpAny (model P w) A (call (.type "set") [.ref b]) Q E s := by
  have isz : items.size = ks.length := by rw [← Array.length_toList, ← hit.len]
  obtain ⟨c, tl, hmro⟩ := F.called_set.mro
  have made := F.called_set.made
  have subs := F.called_set.sub
  refine wpAny_call (codeAny_of_tree ?_)
  show wpAny _ _ (callAny (.type "set") _) _ _ _
  refine wpAny_pure ⟨Code.quiet_builtin _ (by decide +kernel), codeAny_builtin F.entry_type_call ?_⟩
  rw [Around.under_plain (weight_type_call_type "set" [.ref b] []) rfl]
  have x1 := F.called_set.notType
  have x2 := F.called_set.canCreate
  have x3 := F.typeCall_set_1 (.ref b)
  repeat (any_goals (first | assumption | wp_step))
  refine codeAny_mono (code_set_led1 (.ref b) (E := E) (Q₁ := fun obj s₁ => obj = .ref s.heap.objs.size ∧ s₁ = { s with heap := s.heap.push (setObj0 w) }) ⟨rfl, rfl⟩) fun r s₁ hr => ?_
  cases r with
  | error e => exact hr
  | ok fl =>
    cases fl with
    | ret obj =>
      obtain ⟨rfl, rfl⟩ := hr
      have oS : (s.heap.push (setObj0 w)).get? s.heap.objs.size = some (setObj0 w) := Heap.get?_push_size _ rfl
      have tS : Shared.TypeIs { s with heap := s.heap.push (setObj0 w) } (.ref s.heap.objs.size) "set" := ⟨_, oS, rfl⟩
      have y1 := F.called_set.init.lookup
      have y2 := F.called_set.init.bind (.ref s.heap.objs.size)
      repeat (any_goals (first | assumption | wp_step))
      refine codeAny_mono (codeAny_call_builtin (R := wants (fun r s₂ => r = .none ∧ ∃ h' tk, s₂ = { s with heap := h', toks := tk } ∧ KSet w h' s.heap.objs.size (setK ks) ∧ (∀ b o, s.heap.get? b = some o → h'.get? b = some o)) E) F.called_set.init.plain F.entry_set_init (check_set_init_1 tS ?_)) fun r₂ s₂ hr₂ => ?_
      · obtain ⟨ol, hol, hcl, nl, hdl⟩ := hl
        obtain ⟨ocls, odict, odata, oslots⟩ := ol
        simp only at hcl hdl
        subst hcl; subst hdl
        have oL : (s.heap.push (setObj0 w)).get? b = some { cls := .type "tuple", dict := odict, data := .seq items nl, slots := oslots } := Heap.get?_push_of_some _ hol
        have z1 := F.sub_tuple_set
        have z2 := F.sub_tuple_frozenset
        have z3 : (Value.type "tuple" == Value.type "dict") = false := by decide
        have hl1 : (s.heap.push (setObj0 w)).IsTuple b items := ⟨_, oL, rfl, nl, rfl⟩
        unfold Builtin.«set.__init__» noKeywords Builtin.Frozenset.updateFrom
        generalize hPI : pyIter = PI
        wp_walk
        subst hPI
        refine wpAny_pyIter_tuple hl1 ?_
        refine wpAny_bind (wpAny_runValue ?_)
        have bS : b < s.heap.objs.size := Heap.lt_size hol
        have hh3 : A.in1.in1.in1.handled = none := by simp [hh]
        have neI : b ≠ (s.heap.push (setObj0 w)).objs.size := by
          rw [Heap.size_push]
          exact Nat.ne_of_lt (Nat.lt_succ_of_lt bS)
        have nS : s.heap.objs.size ∉ [(s.heap.push (setObj0 w)).objs.size, b] := by
          rw [Heap.size_push]
          simp only [List.mem_cons, List.not_mem_nil, or_false, not_or]
          exact ⟨Nat.ne_of_lt (Nat.lt_succ_self _), Nat.ne_of_gt bS⟩
        refine loopK ((Walks.tuple hh3 _ b neI items).toS) s.heap.objs.size nS ks isz hb (fun i v hv => hit.at_ (by rw [Array.getElem?_toList]; exact hv)) (items.size - 0) 0 _ (by omega) (Nat.zero_le _)
          ⟨⟨_, Heap.get?_push_size _ rfl, rfl, rfl⟩, (hl1.push _)⟩ ?hS0 ?hR
        case hS0 => exact kset_fresh (Heap.get?_push_of_some _ oS)
        case hR =>
          intro s' hm hS'
          obtain ⟨h', g2, d', tk', os'⟩ := s'
          obtain rfl : g2 = s.gens := hm.gens
          obtain rfl : d' = s.drawn := hm.drawn
          obtain rfl : os' = s.os := hm.os
          show wpAny _ _ _ _ _ _
          refine wpAny_pure ?_
          show wpAny _ _ (ret Value.none) _ _ _
          refine wpAny_pure ⟨rfl, h', tk', rfl, hS', fun c o e => ?_⟩
          have hc := Heap.lt_size e
          refine hm.heap c o ?_ (Heap.get?_push_of_some _ (Heap.get?_push_of_some _ e))
          rw [Heap.size_push]
          simp only [List.mem_cons, List.not_mem_nil, or_false, not_or]
          exact ⟨Nat.ne_of_lt hc, Nat.ne_of_lt (Nat.lt_succ_of_lt hc)⟩
      · cases r₂ with
        | error e => exact hr₂
        | ok fl₂ =>
          cases fl₂ with
          | ret r =>
            obtain ⟨rfl, h', tk, rfl, hS', hk'⟩ := hr₂
            repeat (any_goals (first | assumption | wp_step))
            exact q _ _ hS' hk'
          | _ => exact hr₂.elim
    | _ => exact hr.elim

end
end Gh
/-! Gh29: sorted of lists, tuples, sets. -/
namespace Gh
open L2 PyProof.Rows PySem.Spec PySem
open PySem.W (EachIs AllAlike alike dataLe)
/-! ### what is collected of a list, a tuple -/
section
variable {P : Program} {w : World} {A : Around} {E : Value → Shared → Prop} {s : Shared}
theorem gather_seq {it : Addr} {T : String} {o : Obj} {items : Array Value} {n : Nat} {Q : List Value → Shared → Prop} (hT : T = "list" ∨ T = "tuple") (ho : s.heap.get? it = some o) (hc : o.cls = .type T) (hd : o.data = .seq items n) (hz : items.size ≤ sizeLine)
    (q : ∀ h', (∀ b o', s.heap.get? b = some o' → h'.get? b = some o') → s.heap.objs.size ≤ h'.objs.size → Q items.toList { s with heap := h' }) : wpAny (model P w) A (collect (.ref it)) Q E s := by
  have new : (s.heap.push (seqObj "list" #[] 0)).get? s.heap.objs.size = some (seqObj "list" #[] 0) := Heap.get?_push_size _ rfl
  have new2 := Heap.get?_update_self (Obj.mapSeq (· ++ items)) new rfl
  have goal2 : Q items.toList { s with heap := (s.heap.push (seqObj "list" #[] 0)).update s.heap.objs.size (Obj.mapSeq (· ++ items)) } := by
    refine q _ (fun b o' hb => ?_) ?_
    · exact (Heap.get?_update_other _ _ (Nat.ne_of_gt (Heap.lt_size hb))).trans (Heap.get?_push_of_some _ hb)
    · have lt := Heap.lt_size new2
      exact Nat.le_of_lt lt
  have last : wpAny (model P w) A (match Value.ref s.heap.objs.size with
      | Value.ref a => do
        match (← load a).data with
        | Data.seq xs _ => pure xs.toList
        | _ => unsupported "internal:collect"
      | _ => unsupported "internal:collect") Q E { s with heap := (s.heap.push (seqObj "list" #[] 0)).update s.heap.objs.size (Obj.mapSeq (· ++ items)) } := by
    show wpAny _ A (load s.heap.objs.size >>= _) _ _ _
    refine wpAny_bind (wpAny_load new2 (wpAny_pure ?_))
    show Q ((#[] : Array Value) ++ items).toList _
    rw [show ((#[] : Array Value) ++ items).toList = items.toList by simp]
    exact goal2
  unfold collect
  refine wpAny_bind (wpAny_runValue (codeAny_builtin F.entry_proto_collect ?_))
  rw [Around.under_plainId F.plain_proto_collect _]
  show wpAny _ A.in1 (newList [] >>= fun l => again (.builtin "list.__iadd__" ⟨[l, .ref it], []⟩)) _ _ s
  refine wpAny_bind (wpAny_newObj_type (wpAny_pure ⟨plainId_quiet F.plain_list_iadd _, codeAny_builtin F.entry_list_iadd ?_⟩))
  rw [Around.under_plainId F.plain_list_iadd _]
  refine wpAny_mono (wpAny_extend_seq (hsz := hz) (A := A) (R := fun r s' => r = .ok (.ret (.ref s.heap.objs.size)) ∧ s' = { s with heap := (s.heap.push (seqObj "list" #[] 0)).update s.heap.objs.size (Obj.mapSeq (· ++ items)) })
    (s := { s with heap := s.heap.push (seqObj "list" #[] 0) }) _ it _ 0 hT new (Heap.get?_push_of_some _ ho) hc hd ⟨rfl, rfl⟩) (fun fin s' h => ?_) (fun e s' h => absurd h.1 (by simp))
  cases fin with
  | done f =>
    obtain ⟨e, rfl⟩ := h
    cases e
    exact last
  | again c' =>
    refine ⟨h.1, codeAny_mono h.2 fun r s'' hr => ?_⟩
    obtain ⟨rfl, rfl⟩ := hr
    exact last
/-! data without lists -/
mutual
def noL : PyData → Bool
  | .list _ => false
  | .dict _ => false
  | .tuple xs => noLs xs
  | _ => true
def noLs : List PyData → Bool
  | [] => true
  | x :: xs => noL x && noLs xs
end
mutual
theorem reads_noL {h : Heap} : ∀ {d : PyData} {v : Value} {as : List Addr}, noL d = true → Reads h v d as → as = []
  | .none, _, _, _, .none => rfl
  | .bool _, _, _, _, .bool _ => rfl
  | .int _, _, _, _, .int _ _ => rfl
  | .str _, _, _, _, .str _ _ => rfl
  | .tuple xs, _, _, n, .tuple h1 h2 h3 h4 => by
    have n : noLs xs = true := by
      unfold noL at n
      exact n
    exact reads_noLs n h4
  | .list _, _, _, n, _ => by
    unfold noL at n
    cases n
  | .dict _, _, _, n, _ => by
    unfold noL at n
    cases n
theorem reads_noLs {h : Heap} : ∀ {ds : List PyData} {vs : List Value} {as : List Addr}, noLs ds = true → ReadsAll h vs ds as → as = []
  | [], _, _, _, .nil => rfl
  | d :: ds, _, _, n, .cons h1 h2 => by
    have n : (noL d && noLs ds) = true := by
      unfold noLs at n
      exact n
    rw [Bool.and_eq_true] at n
    rw [reads_noL n.1 h1, reads_noLs n.2 h2]
    rfl
end
/-- sorted(v), by what is collected of v -/
theorem sort_core {v : Value} {β : Type} {enc : β → PyData} {R : Value → β → Prop} {bs : List β} {Pm : List β → Prop} {Q : Value → Shared → Prop} (hPm : ∀ l, Pm l → l.Perm bs)
    (hcol : ∀ Q' : List Value → Shared → Prop, (∀ s1 vs (bs' : List β), Pm bs' → (∀ b o, s.heap.get? b = some o → s1.heap.get? b = some o) → s.heap.objs.size ≤ s1.heap.objs.size → s1.gens = s.gens → s1.os = s.os → EachIs R vs bs' → EachIs (fun v b => ∃ as, Reads s1.heap v (enc b) as) vs bs' → Q' vs s1) → wpAny (model P w) A.in1 (collect v) Q' E s)
    (hal : AllAlike (bs.map enc)) (hk : PySem.W.Sortable (bs.map enc)) (hn : ∀ b ∈ bs, noL (enc b) = true) (hL : bs.length ≤ sizeLine) (hu : ∀ b ∈ bs, A.in1.units + 3 + (enc b).depth < cLine)
    (hQ : ∀ s' p (out : Array Value) (c : Nat) (bs' : List β), Pm bs' → (∀ b o, s.heap.get? b = some o → s'.heap.get? b = some o) → s'.gens = s.gens → s'.os = s.os → s.heap.objs.size ≤ p → s'.heap.get? p = some (seqObj "list" out c) → EachIs R out.toList (bs'.mergeSort (dataLe false enc)) → Q (.ref p) s') :
    wpAny (model P w) A (call (.builtin "sorted") [v]) Q E s := by
  refine Calls.call_function_entry kind_sorted plain_sorted entry_sorted (args_sorted1 _) ?_
  unfold Builtin.«sorted»
  refine wpAny_bind (m := checkCount "sorted" 1 1 _) (wpAny_pure ?_)
  refine wpAny_bind (hcol _ fun s1 vs bs' pm0 k1 z1 g1 o1 e1 r1 => ?_)
  have pm := hPm _ pm0
  have mem : ∀ b ∈ bs', b ∈ bs := fun b hb => pm.mem_iff.mp hb
  have hal' : AllAlike (bs'.map enc) := fun d hd d' hd' => by
    obtain ⟨b, hb, rfl⟩ := List.mem_map.mp hd
    obtain ⟨b', hb', rfl⟩ := List.mem_map.mp hd'
    exact hal _ (List.mem_map.mpr ⟨b, mem b hb, rfl⟩) _ (List.mem_map.mpr ⟨b', mem b' hb', rfl⟩)
  have hk' : PySem.W.Sortable (bs'.map enc) := by
    rcases hk with h | h
    · exact .inl fun d hd => by
        obtain ⟨b, hb, rfl⟩ := List.mem_map.mp hd
        exact h _ (List.mem_map.mpr ⟨b, mem b hb, rfl⟩)
    · exact .inr fun d hd => by
        obtain ⟨b, hb, rfl⟩ := List.mem_map.mp hd
        exact h _ (List.mem_map.mpr ⟨b, mem b hb, rfl⟩)
  have hlen : vs.length = bs'.length := e1.length
  have hz : vs.length ≤ sizeLine := by rw [hlen, pm.length_eq]; exact hL
  refine wpAny_bind (wpAny_newList ?_ (by simpa using hz))
  have oL : (s1.heap.push (seqObj "list" vs.toArray 0)).get? s1.heap.objs.size = some (seqObj "list" vs.toArray 0) := Heap.get?_push_size _ rfl
  have r2 : EachIs (fun v b => ∃ as, Reads (s1.heap.push (seqObj "list" vs.toArray 0)) v (enc b) as ∧ s1.heap.objs.size ∉ as) vs bs' := (PySem.W.each_mem r1).mono fun u b ⟨⟨as, r⟩, hb⟩ => by
    have e := reads_noL (hn b (mem b hb)) r
    subst e
    exact ⟨[], PyProof.Rows.Reads.keeps (fun _ _ q => Heap.get?_push_of_some _ q) r, by simp⟩
  refine wpAny_bind (wpAny_holding (PySem.W.list_sort_data (s := { s1 with heap := s1.heap.push (seqObj "list" vs.toArray 0) }) oL e1 r2 hal' hk' (by rw [pm.length_eq]; exact hL) (fun b hb => by have := hu b (mem b hb); omega) fun out ho he => ?_))
  obtain ⟨c, hc⟩ := sortedHeap_at (vs := vs) (out := out.toArray) oL
  refine wpAny_pure ⟨_, rfl, hQ _ s1.heap.objs.size out.toArray c bs' pm0 (fun b o q => ?_) g1 o1 z1 hc (by simpa using he)⟩
  have q1 := k1 b o q
  have hlt := Heap.lt_size q1
  show (sortedHeap (s1.heap.push (seqObj "list" vs.toArray 0)) s1.heap.objs.size vs out.toArray).get? b = some o
  rw [sortedHeap_old (Nat.ne_of_lt hlt) (by rw [Heap.size_push]; exact Nat.lt_succ_of_lt hlt)]
  exact Heap.get?_push_of_some _ q1
end
section
variable {X : Cx}
theorem each_of_vals : ∀ {ps : List (PyData × V)} {us : List Value}, Vals (ps.map (·.2)) us → EachIs (fun u p => RelV p.2 u) us ps
  | [], _, .nil => .nil
  | p :: ps, _, .cons r t => .cons r (each_of_vals t)
theorem vals_of_each {ps : List (PyData × V)} {us : List Value} (h : EachIs (fun u p => RelV p.2 u) us ps) : Vals (ps.map (·.2)) us := by
  induction h with
  | nil => exact .nil
  | cons r _ ih => exact .cons r ih
theorem in1_units (A : Around) : A.in1.units ≤ A.units + 1 := by
  first
    | exact Nat.le_refl _
    | simp
/-- what is asked of the rows that are sorted -/
structure SortOk (K : PySem.W.Frag) (H : Hp) (ps : List (PyData × V)) : Prop where
  dp : ∀ p ∈ ps, Dp K H p.2 p.1
  noL : ∀ p ∈ ps, noL p.1 = true
  deep : ∀ p ∈ ps, p.1.depth ≤ 20
  alike : AllAlike (ps.map (·.1))
  kind : PySem.W.Sortable (ps.map (·.1))
  few : ps.length ≤ sizeLine
theorem sort_end {pins : List (Addr × Obj)} {s s' : Shared} {σ : St} {H : Hp} {p : Addr} {out : Array Value} {c : Nat} {ps : List (PyData × V)} {Q : VK} (I : Inv X pins σ H s) (k : ∀ b o, s.heap.get? b = some o → s'.heap.get? b = some o) (g : s'.gens = s.gens) (o : s'.os = s.os) (hp : s.heap.objs.size ≤ p) (hg : s'.heap.get? p = some (seqObj "list" out c))
    (he : EachIs (fun u p => RelV p.2 u) out.toList ps) (few : ps.length ≤ sizeLine) (q : Q (.ref p) (upd H p (.lst (ps.map (·.2))))) : EP X pins σ Q (.ref p) s' := by
  have rv := vals_of_each he
  have hn : H p = none := I.hok.fresh hp
  have J : Inv X pins σ (upd H p (.lst (ps.map (·.2)))) { s with heap := s'.heap, gens := s'.gens, drawn := s'.drawn, toks := s'.toks } :=
    I.call (ch := []) (Un.laid k hp hn) (I.hok.laid k hp ⟨by rw [List.length_map]; exact few, out.toList, c, rv, hg⟩) (by rw [g]; exact I.bare) (fun _ z => nomatch z)
  have e : s' = { s with heap := s'.heap, gens := s'.gens, drawn := s'.drawn, toks := s'.toks } := by
    obtain ⟨h1, h2, h3, h4, h5⟩ := s'
    obtain rfl : h5 = s.os := o
    rfl
  rw [e]
  exact ⟨.ref p, _, J, rfl, q⟩
def rSortD (K : PySem.W.Frag) : List V → Hp → VK → Prop := fun vs H Q => ∃ (a : Addr) (ps : List (PyData × V)), vs = [V.ref a] ∧ (SqL K H a (ps.map (·.2)) ∨ SqT K H a (ps.map (·.2))) ∧ SortOk K H ps ∧
  ∀ p, H p = none → Q (.ref p) (upd H p (.lst ((ps.mergeSort (dataLe false (·.1))).map (·.2))))
theorem cr_sortD (hu : X.A.units + 64 < cLine) : CallR X (.builtin "sorted") (rSortD X.K) := by
  intro pins s σ H vs us Q I r h
  obtain ⟨a, ps, rfl, hs, ok, q⟩ := h
  rw [Vals.ref1 r]
  have at_ : ∃ (T : String) (o : Obj) (items : Array Value) (n : Nat), (T = "list" ∨ T = "tuple") ∧ s.heap.get? a = some o ∧ o.cls = .type T ∧ o.data = .seq items n ∧ Vals (ps.map (·.2)) items.toList := by
    rcases hs with hs | hs
    · obtain ⟨its, rv, hl, hz⟩ := I.list hs
      obtain ⟨o, h1, h2, n, h3⟩ := hl.isList
      exact ⟨"list", o, its.toArray, n, .inl rfl, h1, h2, h3, by simpa using rv⟩
    · obtain ⟨its, rv, ⟨o, h1, h2, n, h3⟩, hz⟩ := I.tuple hs
      exact ⟨"tuple", o, its.toArray, n, .inr rfl, h1, h2, h3, by simpa using rv⟩
  obtain ⟨T, o, items, n, hT, ho, hc, hd, rv⟩ := at_
  have hsz : items.size ≤ sizeLine := by
    have := rv.length
    simp only [List.length_map, Array.length_toList] at this
    rw [← this]
    exact ok.few
  refine sort_core (bs := ps) (Pm := fun l => l = ps) (enc := (·.1)) (R := fun u p => RelV p.2 u) (fun l e => by rw [e]) (fun Q' hq => ?_) ok.alike ok.kind ok.noL ok.few (fun b hb => ?_) fun s' p out c bs' pm k g o' hp hg he => ?_
  · refine gather_seq hT ho hc hd hsz fun h' k z => ?_
    refine hq { s with heap := h' } _ ps rfl k z rfl rfl (each_of_vals rv) ?_
    exact (PySem.W.each_mem (each_of_vals rv)).mono fun u p ⟨r, hp⟩ => by
      obtain ⟨as, hr⟩ := Dp.reads I _ _ _ (ok.dp p hp) r
      exact ⟨as, PyProof.Rows.Reads.keeps k hr⟩
  · have := in1_units X.A
    have := ok.deep b hb
    omega
  · subst pm
    exact sort_end I k g o' hp hg he (by rw [List.length_mergeSort]; exact ok.few) (q p (I.hok.fresh hp))
/-! ### sets of numbers and texts -/
def KSO (w : World) (a : Addr) (l : List Key) : HO := .ext fun h => KSet w h a l
theorem kso_new {P : Program} {w : World} {H : Hp} {h : Heap} {a : Addr} {l : List Key} (R : KSet w h a l) : ObjOk P w H h a (KSO w a l) := by
  have ⟨o, es, ep, t, ho, _⟩ := R
  exact ⟨R, ⟨o, ho⟩, fun h1 h2 p k => KSet.at p k⟩
theorem each_keys {w : World} {P : Program} : ∀ {ks : List Key} {us : List Value}, Vals (ks.map L2.kV) us → Each2 (fun k v => keyIs k v = true) ks us
  | [], _, .nil => .nil
  | k :: ks, _, .cons r t => .cons (kV_is (P := P) (w := w) r) (each_keys (w := w) (P := P) t)
def rSetK (K : PySem.W.Frag) (w : World) : List V → Hp → VK → Prop := fun xs H Q => ∃ (b : Addr) (ks : List Key), xs = [V.ref b] ∧ (SqL K H b (ks.map L2.kV) ∨ SqT K H b (ks.map L2.kV)) ∧ ks.length < 4000 ∧ ∀ a, H a = none → Q (.ref a) (upd H a (KSO w a (setK ks)))
theorem cr_setK (hc : X.calm = true) : CallR X (.type "set") (rSetK X.K X.w) := by
  intro pins s σ H xs us Q I r h
  obtain ⟨b, ks, rfl, hs, hb, q⟩ := h
  rw [Vals.ref1 r]
  have hn : H s.heap.objs.size = none := I.hok.fresh (Nat.le_refl _)
  have bd : ks.length + 1 < scanBound := by
    unfold scanBound
    omega
  have fin : ∀ (h' : Heap) (tk : Nat), KSet X.w h' s.heap.objs.size (setK ks) → (∀ b o, s.heap.get? b = some o → h'.get? b = some o) → EP X pins σ Q (.ref s.heap.objs.size) { s with heap := h', toks := tk } := fun h' tk R k =>
    ⟨.ref s.heap.objs.size, upd H s.heap.objs.size (KSO X.w s.heap.objs.size (setK ks)), I.laid (t' := tk) k (Nat.le_refl _) (kso_new R), rfl, q _ hn⟩
  rcases hs with hs | hs
  · obtain ⟨its, rv, hl, hz⟩ := I.list hs
    exact call_set_list ks (I.ok.hd hc) hl.isList (by simpa using each_keys (w := X.w) (P := X.prog) rv) bd fin
  · obtain ⟨its, rv, hl, hz⟩ := I.tuple hs
    exact call_set_tup ks (I.ok.hd hc) hl (by simpa using each_keys (w := X.w) (P := X.prog) rv) bd fin
def rLenK (w : World) : List V → Hp → VK → Prop := fun xs H Q => ∃ (a : Addr) (l : List Key), xs = [V.ref a] ∧ H a = some (KSO w a l) ∧ Q (.int (l.length : Nat)) H
theorem cr_lenK : CallR X (.builtin "len") (rLenK X.w) := by
  intro pins s σ H xs us Q I r h
  obtain ⟨a, l, rfl, ha, q⟩ := h
  rw [Vals.ref1 r]
  obtain ⟨o, es, ep, t, ho, hex, hd, g, pm, nd, hb, hf, hr, hl⟩ := (show KSet X.w s.heap a l from (I.hok a _ ha).1)
  have len : es.size = l.length := by rw [← pm.length_eq, List.length_map, Array.length_toList]
  have sml : es.size < 4096 := hb
  refine call_len_set ho hex hd hf (by omega) ?_
  rw [len]
  exact ⟨.int (l.length : Nat), H, (I.tok _).tok _, ⟨_, rfl⟩, q⟩
def keyPy : Key → PyData
  | .inl i => .int i
  | .inr x => .str x
/-- all ints, or all texts -/
def oneKind (l : List Key) : Prop := (∀ k ∈ l, ∃ i, k = .inl i) ∨ ∀ k ∈ l, ∃ x, k = .inr x
theorem vals_keys {ks : List Key} {us : List Value} (h : EachIs (fun u k => keyIs k u = true) us ks) : EachIs (fun u p => RelV p.2 u) us (ks.map fun k => (keyPy k, L2.kV k)) := by
  induction h with
  | nil => exact .nil
  | cons r _ ih => exact .cons (relV_key r) ih
theorem each_of_entries {w : World} {h : Heap} : ∀ {vs : List Value} (es : List (Int × Value)), (∀ e ∈ es, EntOk w e) → (∀ v ∈ vs, ∃ e ∈ es, v = e.2) → EachIs (fun u k => keyIs k u = true) vs (vs.map fun v => entK (0, v))
  | [], es, g, hm => .nil
  | v :: vs, es, g, hm => by
    obtain ⟨e, he, rfl⟩ := hm v List.mem_cons_self
    obtain ⟨k, h1, _⟩ := g e he
    refine .cons ?_ (each_of_entries (h := h) es g fun u hu => hm u (List.mem_cons_of_mem _ hu))
    show keyIs (entK (0, e.2)) e.2 = true
    rw [show entK (0, e.2) = k from entK_is h1]
    exact h1
def rSortK (w : World) : List V → Hp → VK → Prop := fun vs H Q => ∃ (a : Addr) (l : List Key), vs = [V.ref a] ∧ H a = some (KSO w a l) ∧ oneKind l ∧
  ∀ (l' : List Key) p, l'.Perm l → H p = none → Q (.ref p) (upd H p (.lst ((l'.mergeSort (dataLe false keyPy)).map L2.kV)))
theorem cr_sortK (hc : X.calm = true) (hu : X.A.units + 64 < cLine) : CallR X (.builtin "sorted") (rSortK X.w) := by
  intro pins s σ H vs us Q I r h
  obtain ⟨a, l, rfl, ha, one, q⟩ := h
  rw [Vals.ref1 r]
  obtain ⟨o, es, ep, t, ho, hex, hd, g, pm, nd, hb, hf, hr, hl⟩ := (show KSet X.w s.heap a l from (I.hok a _ ha).1)
  have hla : AllAlike (l.map keyPy) := fun d hd d' hd' => by
    obtain ⟨b, hb, rfl⟩ := List.mem_map.mp hd
    obtain ⟨b', hb', rfl⟩ := List.mem_map.mp hd'
    rcases one with h | h
    · obtain ⟨i, rfl⟩ := h b hb
      obtain ⟨j, rfl⟩ := h b' hb'
      rfl
    · obtain ⟨i, rfl⟩ := h b hb
      obtain ⟨j, rfl⟩ := h b' hb'
      rfl
  have hlk : PySem.W.Sortable (l.map keyPy) := .inr fun d hd => by
    obtain ⟨b, hb, rfl⟩ := List.mem_map.mp hd
    cases b with
    | inl i => exact ⟨fun z => (by cases z), fun xs z => (by cases z)⟩
    | inr i => exact ⟨fun z => (by cases z), fun xs z => (by cases z)⟩
  have len : es.size = l.length := by rw [← pm.length_eq, List.length_map, Array.length_toList]
  have few : l.length ≤ sizeLine := by rw [← len]; exact fits_of_scanBound hb
  refine sort_core (bs := l) (Pm := fun m => m.Perm l) (enc := keyPy) (R := fun u k => keyIs k u = true) (fun m e => e) (fun Q' hq => ?_) hla hlk (fun b _ => by cases b <;> rfl) few (fun b hb => ?_) fun s' p out c bs' pm' k g' o' hp hg he => ?_
  · refine collect_set (A := X.A.in1) (I.ok.hd hc) ⟨o, ho, hex.1, hd⟩ hf hb hr hl fun s1 vs k1 hz g1 o1 pv => ?_
    have e1 := each_of_entries (h := s1.heap) (vs := vs) es.toList g fun v hv => by
      obtain ⟨e, he, rfl⟩ := List.mem_map.mp (pv.mem_iff.mp hv)
      exact ⟨e, he, rfl⟩
    refine hq s1 vs (vs.map fun v => entK (0, v)) ?_ k1 hz g1 o1 e1 (e1.mono fun u k hk => ?_)
    · have z := pv.map fun v => entK (0, v)
      rw [List.map_map] at z
      exact z.trans pm
    · rcases keyIs_shape hk with ⟨i, t, rfl, e⟩ | ⟨x, t, rfl, e⟩
      · exact ⟨[], by rw [e]; exact .int _ _⟩
      · exact ⟨[], by rw [e]; exact .str _ _⟩
  · have := in1_units X.A
    have : (keyPy b).depth = 0 := by cases b <;> rfl
    omega
  · have z := vals_keys he
    have w1 := sort_end (ps := (bs'.mergeSort (dataLe false keyPy)).map fun k => (keyPy k, L2.kV k)) I k g' o' hp hg z (by rw [List.length_map, List.length_mergeSort, pm'.length_eq]; exact few) (Q := Q) ?_
    · exact w1
    · rw [List.map_map]
      exact q bs' p pm' (I.hok.fresh hp)
end
end Gh
/-! Gh30: sorted, set: denotations. -/
namespace Gh
open L2 PyProof.Rows PySem.Spec PySem
open PySem.W (AllAlike alike dataLe)
/-- the order of plain data of one shape -/
def leD (a b : D) : Bool := dataLe false toPy a b
def isTupNE : D → Bool
  | .tup (_ :: _) => true
  | _ => false
def isTN : D → Bool
  | .tup _ => true
  | .non => true
  | _ => false
def sortOkD (es : List D) : Bool := es.all (okD 20) && es.all (fun a => noL (toPy a)) && (es.all fun a => es.all fun b => alike (toPy a) (toPy b)) && (es.all isTupNE || es.all fun a => !isTN a) && decide (es.length < 100000)
def gSortD : OpN := fun ds st => match ds with
  | [x] => (match itemsOf x with
    | some es => if sortOkD es = true then .ok (.lst (es.mergeSort leD)) st else .bad
    | none => .bad)
  | _ => .bad
def uniq {α : Type} [DecidableEq α] (l : List α) : List α := l.foldl (fun acc k => if k ∈ acc then acc else k :: acc) []
def setKeys (es : List D) : Option (List Int ⊕ List Str) := match asInts es with
  | some ns => some (.inl ns)
  | none => (match asStrs es with
    | some ss => some (.inr ss)
    | none => none)
/-- sorted(set(x)) -/
def eSortSet (m : EDen) : EDen := fun ρ st => (m ρ st).bind fun x st1 => match itemsOf x with
  | some es => if es.length < 4000 then (match setKeys es with
    | some (.inl ns) => .ok (.lst ((sortI (uniq ns)).map D.int)) st1
    | some (.inr ss) => .ok (.lst ((sortS (uniq ss)).map D.str)) st1
    | none => .bad) else .bad
  | none => .bad
/-- len(set(x)) -/
def eLenSet (m : EDen) : EDen := fun ρ st => (m ρ st).bind fun x st1 => match itemsOf x with
  | some es => if es.length < 4000 then (match setKeys es with
    | some (.inl ns) => .ok (.int ((uniq ns).length : Nat)) st1
    | some (.inr ss) => .ok (.int ((uniq ss).length : Nat)) st1
    | none => .bad) else .bad
  | none => .bad
section
variable {X : Cx} {K : PySem.W.Frag} {mg : Glob} {Γ : Ent} {W : WX} {a : Expr} {m : EDen} {p p2 pos pos2 : Pos}
theorem toPyL_map : ∀ ds : List D, toPyL ds = ds.map toPy
  | [] => rfl
  | d :: ds => by
    show toPy d :: toPyL ds = _
    rw [toPyL_map ds]
    rfl
theorem zip_fst {α β : Type} : ∀ {as : List α} {bs : List β}, as.length = bs.length → (as.zip bs).map (·.1) = as
  | [], [], _ => rfl
  | a :: as, b :: bs, h => by
    simp only [List.zip_cons_cons, List.map_cons]
    rw [zip_fst (by simpa using h)]
theorem zip_snd {α β : Type} : ∀ {as : List α} {bs : List β}, as.length = bs.length → (as.zip bs).map (·.2) = bs
  | [], [], _ => rfl
  | a :: as, b :: bs, h => by
    simp only [List.zip_cons_cons, List.map_cons]
    rw [zip_snd (by simpa using h)]
theorem RepL.zip_mem {F : Hp} : ∀ {ds : List D} {vs : List V}, RepL K mg F ds vs → ∀ q ∈ ds.zip vs, Rep K mg F q.1 q.2
  | [], vs, h, q, hq => by simp at hq
  | d :: ds, vs, h, q, hq => by
    obtain ⟨v, r, rfl, h2, h3⟩ := h
    simp only [List.zip_cons_cons, List.mem_cons] at hq
    rcases hq with rfl | hq
    · exact h2
    · exact RepL.zip_mem h3 q hq
theorem RepL.of_zip {F : Hp} : ∀ {zs : List (D × V)}, (∀ q ∈ zs, Rep K mg F q.1 q.2) → RepL K mg F (zs.map (·.1)) (zs.map (·.2))
  | [], _ => rfl
  | z :: zs, h => ⟨z.2, _, rfl, h z List.mem_cons_self, RepL.of_zip fun q hq => h q (List.mem_cons_of_mem _ hq)⟩
theorem sem_sortD : SemN kO K mg gSortD (rSortD K) := by
  intro Γ W F L σ H ρ st ds vs Q rl kvs q
  unfold gSortD at q
  split at q
  · rename_i x
    obtain ⟨v, r, rfl, kv, kr⟩ := kvs
    cases (show r = [] from kr)
    split at q
    · rename_i es hes
      split at q
      · rename_i hok
        unfold sortOkD at hok
        simp only [Bool.and_eq_true, decide_eq_true_eq] at hok
        obtain ⟨⟨⟨⟨o1, o2⟩, o3⟩, o4⟩, o5⟩ := hok
        obtain ⟨a, us, rfl, h1, h2⟩ := items_at rl kv hes
        have hl := h2.length
        have hsnd : ((es.zip us).map fun z => (toPy z.1, z.2)).map (·.2) = us := by
          rw [List.map_map]
          exact zip_snd hl
        have hmem : ∀ z ∈ es.zip us, z.1 ∈ es := fun z hz => by
          have : z.1 ∈ (es.zip us).map (·.1) := List.mem_map.mpr ⟨z, hz, rfl⟩
          rwa [zip_fst hl] at this
        refine ⟨a, (es.zip us).map fun z => (toPy z.1, z.2), rfl, by rw [hsnd]; exact h1, ⟨fun y hy => ?_, fun y hy => ?_, fun y hy => ?_, fun d hd d' hd' => ?_, ?_, ?_⟩, fun p hp => ?_⟩
        · obtain ⟨z, hz, rfl⟩ := List.mem_map.mp hy
          exact dp_of rl.sto.ex 20 z.1 z.2 (List.all_eq_true.mp o1 _ (hmem z hz)) (h2.zip_mem z hz)
        · obtain ⟨z, hz, rfl⟩ := List.mem_map.mp hy
          exact List.all_eq_true.mp o2 _ (hmem z hz)
        · obtain ⟨z, hz, rfl⟩ := List.mem_map.mp hy
          exact (toPy_shape 20 z.1 (List.all_eq_true.mp o1 _ (hmem z hz))).2
        · obtain ⟨y, hy, rfl⟩ := List.mem_map.mp hd
          obtain ⟨z, hz, rfl⟩ := List.mem_map.mp hy
          obtain ⟨y', hy', rfl⟩ := List.mem_map.mp hd'
          obtain ⟨z', hz', rfl⟩ := List.mem_map.mp hy'
          exact List.all_eq_true.mp (List.all_eq_true.mp o3 _ (hmem z hz)) _ (hmem z' hz')
        · rw [Bool.or_eq_true] at o4
          rcases o4 with o4 | o4
          · refine .inl fun d hd => ?_
            obtain ⟨y, hy, rfl⟩ := List.mem_map.mp hd
            obtain ⟨z, hz, rfl⟩ := List.mem_map.mp hy
            have t := List.all_eq_true.mp o4 _ (hmem z hz)
            cases hz1 : z.1 with
            | tup xs =>
              rw [hz1] at t
              cases xs with
              | nil => cases t
              | cons x0 xs => exact ⟨toPy x0, toPyL xs, by simp only [hz1]; rfl⟩
            | _ => rw [hz1] at t; cases t
          · refine .inr fun d hd => ?_
            obtain ⟨y, hy, rfl⟩ := List.mem_map.mp hd
            obtain ⟨z, hz, rfl⟩ := List.mem_map.mp hy
            have t := List.all_eq_true.mp o4 _ (hmem z hz)
            have ok := List.all_eq_true.mp o1 _ (hmem z hz)
            cases hz1 : z.1 with
            | tup xs => rw [hz1] at t; cases t
            | non => rw [hz1] at t; cases t
            | bl b => exact ⟨fun w => (by simp only [hz1] at w; cases w), fun xs w => (by simp only [hz1] at w; cases w)⟩
            | int b => exact ⟨fun w => (by simp only [hz1] at w; cases w), fun xs w => (by simp only [hz1] at w; cases w)⟩
            | str b => exact ⟨fun w => (by simp only [hz1] at w; cases w), fun xs w => (by simp only [hz1] at w; cases w)⟩
            | lst b => exact ⟨fun w => (by simp only [hz1] at w; cases w), fun xs w => (by simp only [hz1] at w; cases w)⟩
            | scr b => exact ⟨fun w => (by simp only [hz1] at w; cases w), fun xs w => (by simp only [hz1] at w; cases w)⟩
            | dct b => rw [hz1] at ok; cases ok
            | ins b c => rw [hz1] at ok; cases ok
            | loc b => rw [hz1] at ok; cases ok
        · rw [List.length_map, List.length_zip, sizeLine_eq]
          omega
        · have e1 : (((es.zip us).map fun z => (toPy z.1, z.2)).mergeSort (dataLe false (·.1))).map (·.2) = ((es.zip us).mergeSort fun z z' => leD z.1 z'.1).map (·.2) := by
            rw [← List.map_mergeSort (f := fun z : D × V => (toPy z.1, z.2)) (r := fun z z' => leD z.1 z'.1) (s := dataLe false (·.1)) (fun _ _ _ _ => rfl), List.map_map]
            rfl
          have e2 : es.mergeSort leD = ((es.zip us).mergeSort fun z z' => leD z.1 z'.1).map (·.1) := by
            rw [List.map_mergeSort (f := fun z : D × V => z.1) (r := fun z z' => leD z.1 z'.1) (s := leD) (fun _ _ _ _ => rfl), zip_fst hl]
          rw [e1]
          refine q F L _ (Stp.fresh hp) (rl.sto.fresh hp) _ ⟨p, rfl, hp, rl.newF hp, rl.newL hp, _, upd_same, ?_⟩
          rw [e2]
          exact RepL.of_zip fun z hz => h2.zip_mem z ((List.mergeSort_perm _ _).mem_iff.mp hz)
      · exact q.elim
    · exact q.elim
  · exact q.elim
end
end Gh
/-! Gh31: sorted(set(x)), len(set(x)); C() without __init__; targets that are places; d.get(k). -/
namespace Gh
open L2 PyProof.Rows PySem.Spec PySem
open PySem.W (AllAlike alike dataLe)
/-! ### sets -/
theorem fold_addK_int : ∀ (ns acc : List Int), (ns.map Sum.inl).foldl addK (acc.map (Sum.inl (β := Str))) = (ns.foldl (fun acc k => if k ∈ acc then acc else k :: acc) acc).map Sum.inl
  | [], acc => rfl
  | n :: ns, acc => by
    rw [List.map_cons, List.foldl_cons, List.foldl_cons]
    by_cases h : n ∈ acc
    · rw [addK_in (List.mem_map.mpr ⟨n, h, rfl⟩), if_pos h]
      exact fold_addK_int ns acc
    · rw [addK_out (fun z => by
        obtain ⟨m, hm, e⟩ := List.mem_map.mp z
        cases e
        exact h hm), if_neg h]
      exact fold_addK_int ns (n :: acc)
theorem fold_addK_str : ∀ (ns acc : List Str), (ns.map Sum.inr).foldl addK (acc.map (Sum.inr (α := Int))) = (ns.foldl (fun acc k => if k ∈ acc then acc else k :: acc) acc).map Sum.inr
  | [], acc => rfl
  | n :: ns, acc => by
    rw [List.map_cons, List.foldl_cons, List.foldl_cons]
    by_cases h : n ∈ acc
    · rw [addK_in (List.mem_map.mpr ⟨n, h, rfl⟩), if_pos h]
      exact fold_addK_str ns acc
    · rw [addK_out (fun z => by
        obtain ⟨m, hm, e⟩ := List.mem_map.mp z
        cases e
        exact h hm), if_neg h]
      exact fold_addK_str ns (n :: acc)
theorem setK_int (ns : List Int) : setK (ns.map Sum.inl) = (uniq ns).map Sum.inl := fold_addK_int ns []
theorem setK_str (ns : List Str) : setK (ns.map Sum.inr) = (uniq ns).map Sum.inr := fold_addK_str ns []
theorem sortK_int {l' : List Key} {ns : List Int} (p : l'.Perm (ns.map Sum.inl)) : (l'.mergeSort (dataLe false keyPy)).map L2.kV = (sortI ns).map V.int := by
  obtain ⟨ms, rfl⟩ : ∃ ms : List Int, l' = ms.map Sum.inl := by
    refine ⟨l'.map fun k => match k with | .inl i => i | .inr _ => 0, ?_⟩
    rw [List.map_map]
    refine (List.map_id l').symm.trans (List.map_congr_left fun k hk => ?_)
    obtain ⟨i, _, rfl⟩ := List.mem_map.mp (p.mem_iff.mp hk)
    rfl
  have pm : ms.Perm ns := by
    have := p.map fun k : Key => match k with | Sum.inl i => i | Sum.inr _ => (0 : Int)
    rw [List.map_map, List.map_map] at this
    have e : ∀ l : List Int, l.map ((fun k : Key => match k with | Sum.inl i => i | Sum.inr _ => (0 : Int)) ∘ Sum.inl) = l := fun l => List.map_id l
    rw [e, e] at this
    exact this
  rw [← List.map_mergeSort (f := Sum.inl) (r := fun a b => decide (a ≤ b)) (s := dataLe false keyPy) (fun a _ b _ => by
    show decide (a ≤ b) = dataLe false (fun x : Int => PyData.int x) a b
    rw [PySem.W.dataLe_int fun x => x]), List.map_map]
  rw [sortI_is (ns := ns) (ms := ms.mergeSort fun a b => decide (a ≤ b)) ((List.mergeSort_perm _ _).trans pm) (by
    have h := List.pairwise_mergeSort (le := fun a b : Int => decide (a ≤ b)) (fun a b c h1 h2 => by simp at *; omega) (fun a b => by simp; omega) ms
    exact h.imp fun h => by simpa using h)]
  rfl
theorem sortK_str {l' : List Key} {ns : List Str} (p : l'.Perm (ns.map Sum.inr)) : (l'.mergeSort (dataLe false keyPy)).map L2.kV = (sortS ns).map V.str := by
  obtain ⟨ms, rfl⟩ : ∃ ms : List Str, l' = ms.map Sum.inr := by
    refine ⟨l'.map fun k => match k with | .inl _ => Str.empty | .inr x => x, ?_⟩
    rw [List.map_map]
    refine (List.map_id l').symm.trans (List.map_congr_left fun k hk => ?_)
    obtain ⟨i, _, rfl⟩ := List.mem_map.mp (p.mem_iff.mp hk)
    rfl
  have pm : ms.Perm ns := by
    have := p.map fun k : Key => match k with | Sum.inl _ => Str.empty | Sum.inr x => x
    rw [List.map_map, List.map_map] at this
    have e : ∀ l : List Str, l.map ((fun k : Key => match k with | Sum.inl _ => Str.empty | Sum.inr x => x) ∘ Sum.inr) = l := fun l => List.map_id l
    rw [e, e] at this
    exact this
  have le : ∀ a b : Str, dataLe false keyPy (Sum.inr a) (Sum.inr b) = leS a b := fun a b => by
    show dataLe false (fun x : Str => PyData.str x) a b = leS a b
    rw [PySem.W.dataLe_str fun x => x]
    show decide (a.cps.toList ≤ b.cps.toList) = leS a b
    have := leS_iff a b
    by_cases h : a.cps.toList ≤ b.cps.toList
    · rw [decide_eq_true h, this.mpr h]
    · rw [decide_eq_false h]
      cases q : leS a b with
      | false => rfl
      | true => exact absurd (this.mp q) h
  rw [← List.map_mergeSort (f := Sum.inr) (r := leS) (s := dataLe false keyPy) (fun a _ b _ => (le a b).symm), List.map_map]
  have e : ms.mergeSort leS = sortS ns := List.Perm.eq_of_pairwise (le := fun a b => leS a b = true) (fun a b _ _ h1 h2 => leS_anti a b h1 h2) (List.pairwise_mergeSort leS_trans leS_total ms) (sortS_le ns) (((List.mergeSort_perm _ _).trans pm).trans (sortS_perm ns).symm)
  rw [e]
  rfl
section
variable {X : Cx} {K : PySem.W.Frag} {mg : Glob} {Γ : Ent} {W : WX} {a e o : Expr} {es : List Expr} {m mo me : EDen} {p p2 pos pos2 apos cpos : Pos}
theorem set_read {F H H0 : Hp} {L : List Addr} {σ : St} {ρ : REnv} {st : Store} {x : D} {v : V} {es : List D} {r : List Int ⊕ List Str} (rl : Rl K mg Γ F L σ H ρ st) (kv : kR K mg σ H0 ρ F L H x v) (h : itemsOf x = some es) (hk : setKeys es = some r) :
    ∃ b ks, v = .ref b ∧ (SqL K H b (ks.map L2.kV) ∨ SqT K H b (ks.map L2.kV)) ∧ ks.length = es.length ∧ ((∃ ns, r = .inl ns ∧ ks = ns.map Sum.inl) ∨ ∃ ss, r = .inr ss ∧ ks = ss.map Sum.inr) := by
  obtain ⟨b, us, rfl, h1, h2⟩ := items_at rl kv h
  unfold setKeys at hk
  cases hi : asInts es with
  | some ns =>
    rw [hi] at hk
    cases hk
    have e := asInts_rep h2 hi
    subst e
    refine ⟨b, ns.map Sum.inl, rfl, ?_, ?_, .inl ⟨ns, rfl, rfl⟩⟩
    · rw [List.map_map]
      exact h1
    · rw [h2.length, List.length_map, List.length_map]
  | none =>
    rw [hi] at hk
    cases hs : asStrs es with
    | none => rw [hs] at hk; cases hk
    | some ss =>
      rw [hs] at hk
      cases hk
      have e := asStrs_rep h2 hs
      subst e
      refine ⟨b, ss.map Sum.inr, rfl, ?_, ?_, .inr ⟨ss, rfl, rfl⟩⟩
      · rw [List.map_map]
        exact h1
      · rw [h2.length, List.length_map, List.length_map]
theorem g_sortSet (hK : X.K = K) (hc : X.calm = true) (hu : X.A.units + 64 < cLine) (hm : X.mg "sorted" = none) (hm2 : X.mg "set" = none) (ha : PE X a (teR K mg Γ W m)) (hg : Gl X "sorted" := by rfl) (hg2 : Gl X "set" := by rfl)
    (he : starEach [a] X.env = (false, eval a X.env) :: starEach [] X.env := by rfl) (hpl : (backTo pos2 (starEach ([] : List Expr) X.env)).any (·.1) = false := by rfl)
    (he2 : starEach [.Call (.Name "set" p2) [a] [] pos2] X.env = (false, eval (.Call (.Name "set" p2) [a] [] pos2) X.env) :: starEach [] X.env := by rfl) (hpl2 : (backTo pos (starEach ([] : List Expr) X.env)).any (·.1) = false := by rfl) :
    PE X (.Call (.Name "sorted" p) [.Call (.Name "set" p2) [a] [] pos2] [] pos) (teO K mg Γ W (eSortSet m)) := by
  subst hK
  refine pe_imp (pe_callB (cr_sortK hc hu) hg hm (by decide +kernel) (pa_cons (pe_callTy (cr_setK hc) hg2 hm2 (by decide +kernel) (pa_cons ha pa_nil he) (by decide) (by decide) he hpl) pa_nil he2) (by decide) (by decide) he2 hpl2) fun σ H Q ⟨F, L, ρ, st, rl, q⟩ => ?_
  refine ⟨F, L, ρ, st, rl, q.bind.imp fun F1 L1 H1 st1 x s1 o1 q1 v kv => ?_⟩
  have rl1 := rl.step s1 o1
  split at q1
  · rename_i es hes
    split at q1
    · rename_i hlen
      cases hk : setKeys es with
      | none => rw [hk] at q1; exact q1.elim
      | some r =>
        rw [hk] at q1
        obtain ⟨b, ks, rfl, h1, h2, h3⟩ := set_read rl1 kv hes hk
        refine ⟨b, ks, rfl, h1, by omega, fun A nA => ?_⟩
        have s2 : Stp F1 L1 H1 F1 L1 (upd H1 A (KSO X.w A (setK ks))) := Stp.fresh nA
        have o2 := o1.fresh (o := KSO X.w A (setK ks)) nA
        have nH : ∀ P : Addr, upd H1 A (KSO X.w A (setK ks)) P = none → H P = none := fun P nP => by
          cases q : H P with
          | none => rfl
          | some u => exact absurd nP ((s1.trans s2).more o2 P (by rw [q]; simp))
        rcases h3 with ⟨ns, rfl, rfl⟩ | ⟨ss, rfl, rfl⟩
        · refine ⟨A, _, rfl, upd_same, .inl fun k hk => ?_, fun l' P pm nP => ?_⟩
          · rw [setK_int] at hk
            obtain ⟨i, _, rfl⟩ := List.mem_map.mp hk
            exact ⟨i, rfl⟩
          · rw [setK_int] at pm
            rw [sortK_int pm]
            exact q1 F1 L1 _ (s2.trans (Stp.fresh nP)) (o2.fresh nP) _ ⟨P, rfl, nH P nP, o2.ex.free nP, (rl1.step s2 o2).newL nP, _, upd_same, repl_I _⟩
        · refine ⟨A, _, rfl, upd_same, .inr fun k hk => ?_, fun l' P pm nP => ?_⟩
          · rw [setK_str] at hk
            obtain ⟨i, _, rfl⟩ := List.mem_map.mp hk
            exact ⟨i, rfl⟩
          · rw [setK_str] at pm
            rw [sortK_str pm]
            exact q1 F1 L1 _ (s2.trans (Stp.fresh nP)) (o2.fresh nP) _ ⟨P, rfl, nH P nP, o2.ex.free nP, (rl1.step s2 o2).newL nP, _, upd_same, repl_S _⟩
    · exact q1.elim
  · exact q1.elim
theorem g_lenSet (hK : X.K = K) (hc : X.calm = true) (hm : X.mg "len" = none) (hm2 : X.mg "set" = none) (ha : PE X a (teR K mg Γ W m)) (hg : Gl X "len" := by rfl) (hg2 : Gl X "set" := by rfl)
    (he : starEach [a] X.env = (false, eval a X.env) :: starEach [] X.env := by rfl) (hpl : (backTo pos2 (starEach ([] : List Expr) X.env)).any (·.1) = false := by rfl)
    (he2 : starEach [.Call (.Name "set" p2) [a] [] pos2] X.env = (false, eval (.Call (.Name "set" p2) [a] [] pos2) X.env) :: starEach [] X.env := by rfl) (hpl2 : (backTo pos (starEach ([] : List Expr) X.env)).any (·.1) = false := by rfl) :
    PE X (.Call (.Name "len" p) [.Call (.Name "set" p2) [a] [] pos2] [] pos) (teV K mg Γ W (eLenSet m)) := by
  subst hK
  refine pe_imp (pe_callB cr_lenK hg hm (by decide +kernel) (pa_cons (pe_callTy (cr_setK hc) hg2 hm2 (by decide +kernel) (pa_cons ha pa_nil he) (by decide) (by decide) he hpl) pa_nil he2) (by decide) (by decide) he2 hpl2) fun σ H Q ⟨F, L, ρ, st, rl, q⟩ => ?_
  refine ⟨F, L, ρ, st, rl, q.bind.imp fun F1 L1 H1 st1 x s1 o1 q1 v kv => ?_⟩
  have rl1 := rl.step s1 o1
  split at q1
  · rename_i es hes
    split at q1
    · rename_i hlen
      cases hk : setKeys es with
      | none => rw [hk] at q1; exact q1.elim
      | some r =>
        rw [hk] at q1
        obtain ⟨b, ks, rfl, h1, h2, h3⟩ := set_read rl1 kv hes hk
        refine ⟨b, ks, rfl, h1, by omega, fun A nA => ⟨A, _, rfl, upd_same, ?_⟩⟩
        have s2 : Stp F1 L1 H1 F1 L1 (upd H1 A (KSO X.w A (setK ks))) := Stp.fresh nA
        have o2 := o1.fresh (o := KSO X.w A (setK ks)) nA
        rcases h3 with ⟨ns, rfl, rfl⟩ | ⟨ss, rfl, rfl⟩
        · have e : (setK (ns.map Sum.inl)).length = (uniq ns).length := by rw [setK_int, List.length_map]
          rw [e]
          exact q1 F1 L1 _ s2 o2 _ (.inr rfl)
        · have e : (setK (ss.map Sum.inr)).length = (uniq ss).length := by rw [setK_str, List.length_map]
          rw [e]
          exact q1 F1 L1 _ s2 o2 _ (.inr rfl)
    · exact q1.elim
  · exact q1.elim
end
end Gh
/-! Gh32: targets that are places of own lists and dicts, alone or among others. -/
namespace Gh
open L2 PyProof.Rows PySem.Spec PySem
section
variable {X : Cx} {K : PySem.W.Frag} {mg : Glob} {Γ : Ent} {W : WX} {e o v : Expr} {es ts : List Expr} {m mk mv : EDen} {ms : MDen} {pos p tpos px py pos' : Pos} {kt : Nat}
theorem MixL.chg {Hs F F' H H' : Hp} {L L' : List Addr} (hv : ∀ d v, VRep K mg L F d v → VRep K mg L' F' d v) : ∀ {ds : List (D × Bool)} {vs : List V}, MixL K mg Hs F L H ds vs →
    (∀ (j : Nat) (d : D) (a : Addr), ds[j]? = some (d, true) → vs[j]? = some (V.ref a) → F a = none → a ∉ L → Has K mg F H a d → F' a = none ∧ a ∉ L' ∧ Has K mg F' H' a d) → MixL K mg Hs F' L' H' ds vs
  | [], vs, h, _ => h
  | (d, false) :: ds, vs, h, c => by
    obtain ⟨v, r, rfl, h1, h3⟩ := h
    exact ⟨v, r, rfl, hv _ _ h1, h3.chg hv fun j d' a q1 q2 => c (j + 1) d' a (by simpa using q1) (by simpa using q2)⟩
  | (d, true) :: ds, vs, h, c => by
    obtain ⟨a, r, rfl, ⟨h1, h2, h5, h6⟩, h4, h3⟩ := h
    exact ⟨a, r, rfl, ⟨h1, c 0 d a rfl rfl h2 h5 h6⟩, h4, h3.chg hv fun j d' a q1 q2 => c (j + 1) d' a (by simpa using q1) (by simpa using q2)⟩
/-- the new ones are no slot's yet -/
def NE (ρ : REnv) (σ : St) (ds : List (D × Bool)) (vs : List V) : Prop := ∀ (i : Nat) (d : D) (b : Addr), ρ[i]? = some (Sl.own d) → σ[i]? = some (some (V.ref b)) → ∀ (j : Nat) (d' : D), ds[j]? = some (d', true) → vs[j]? ≠ some (V.ref b)
/-- x[k] = v, x an own list or dict -/
def putAt (i : Nat) (mk : EDen) (x : D) (ρ : REnv) (st : Store) : Option (REnv × Store) := match ρ[i]?, mk ρ st with
  | some (.own (.dct kvs)), .ok y st2 => (match keyOf y with
    | some k => if kvs.length < 100000 ∧ isLoc x = false then some (ρ.set i (.own (.dct (putD kvs k x))), st2) else none
    | none => none)
  | some (.own (.lst xs)), .ok (.int n) st2 => (match ixN xs.length n with
    | some j => if isLoc x = false then some (ρ.set i (.own (.lst (xs.set j x))), st2) else none
    | none => none)
  | _, _ => none
def tpP (K : PySem.W.Frag) (mg : Glob) (Γ : Ent) (i : Nat) (mk : EDen) : L2.TG := fun v σ H Q => ∃ F L ρ st x, Rl K mg Γ F L σ H ρ st ∧ VRep K mg L F x v ∧ match putAt i mk x ρ st with
  | some (ρ', st') => ∀ F' L' H', Rl K mg Γ F' L' σ H' ρ' st' → (∀ ds vs, MixL K mg Γ.H0 F L H ds vs → NE ρ σ ds vs → MixL K mg Γ.H0 F' L' H' ds vs ∧ NE ρ' σ ds vs) → Q σ H'
  | none => False
theorem teV_imp {σ : St} {H : Hp} {Q Q' : VK} (h : teV K mg Γ W m σ H Q) (k : ∀ v H, Q v H → Q' v H) : teV K mg Γ W m σ H Q' := by
  obtain ⟨F, L, ρ, st, rl, q⟩ := h
  exact ⟨F, L, ρ, st, rl, q.imp fun F1 L1 H1 st1 d s o q1 v kv => k _ _ (q1 v kv)⟩
theorem NE.put {ρ : REnv} {σ : St} {ds : List (D × Bool)} {vs : List V} {i : Nat} {d e : D} (h : NE ρ σ ds vs) (hi : ρ[i]? = some (.own d)) : NE (ρ.set i (.own e)) σ ds vs := fun k d' b q1 q2 j d2 q3 => by
  rcases set_get q1 with ⟨rfl, _, _⟩ | ⟨_, q1⟩
  · exact h k d b hi q2 j d2 q3
  · exact h k d' b q1 q2 j d2 q3
theorem g_put (i : Nat) {x : Str} (hu : X.A.units + 1 < cLine) (hk : PE X e (teV K mg Γ W0 mk)) (hN : X.N[i]? = some x := by rfl) (hvis : Vis X.env.scope x := by first | exact Or.inl rfl | exact Or.inr (Or.inl rfl) | exact Or.inr (Or.inr rfl))
    (hd : (x == ("__debug__" : Str)) = false := by decide) (hcd : (x == ("__classdict__" : Str)) = false := by decide)
    (ha : ∀ v, assign (.Subscript (.Name x px) e pos) X.env v = (do
      let ov ← holding [v] (eval (.Name x px) X.env)
      let iv ← holding [v, ov] (eval e X.env)
      standAt pos
      holding [v, ov, iv] (setItem ov iv v)
      release [v, ov, iv] []) := by intro _; rfl) : PG X (.Subscript (.Name x px) e pos) (tpP K mg Γ i mk) := by
  have hs : PSet X (fun o i v H Q => rSetL o i v H Q ∨ rSetD o i v H Q) := fun pins s σ H o i v ov iv u Q I ro ri rv h => h.elim (set_list pins s σ H o i v ov iv u Q I ro ri rv) (set_dict hu pins s σ H o i v ov iv u Q I ro ri rv)
  have P := pg_sub (pos := pos) (pe_var hN hvis hd hcd (pos := px)) hk hs ha
  refine ⟨fun pins s σ H v u Q I r ⟨F, L, ρ, st, x, rl, kv, q⟩ => P.run pins s σ H v u Q I r ?_⟩
  unfold putAt at q
  cases ei : ρ[i]? with
  | none => rw [ei] at q; exact q.elim
  | some sl =>
    cases hm : mk ρ st with
    | bad => rw [ei, hm] at q; cases sl <;> (try exact q.elim) <;> (rename_i d; cases d <;> exact q.elim)
    | exc c fs st' => rw [ei, hm] at q; cases sl <;> (try exact q.elim) <;> (rename_i d; cases d <;> exact q.elim)
    | ok y st2 =>
      rw [ei, hm] at q
      cases sl with
      | own d =>
        obtain ⟨a, e1, nF, nL, n0, vs0⟩ := rl.so i d ei
        have key : ∀ (e' : D) (R : Hp → V → (Hp → Prop) → Prop), (∀ F2 L2 H2, Stp F L H F2 L2 H2 → Sto K mg F2 L2 H2 st2 → ∀ w, VRep K mg L2 F2 y w → ∃ ob, (∀ H', H' a = some ob → Has K mg F2 H' a e') ∧ ∀ Q : Hp → Prop, Q (upd H2 a ob) → R H2 w Q) →
            (∀ F' L' H', Rl K mg Γ F' L' σ H' (ρ.set i (.own e')) st2 → (∀ ds vs, MixL K mg Γ.H0 F L H ds vs → NE ρ σ ds vs → MixL K mg Γ.H0 F' L' H' ds vs ∧ NE (ρ.set i (.own e')) σ ds vs) → Q σ H') →
            ∃ w0, σ[i]? = some (some w0) ∧ teV K mg Γ W0 mk σ H fun w H2 => w0 = .ref a ∧ R H2 w fun H3 => Q σ H3 := fun e' R hR q => by
          refine ⟨_, e1, F, L, ρ, st, rl, ?_⟩
          rw [hm]
          intro F2 L2 H2 s2 o2 w kw
          refine ⟨rfl, ?_⟩
          obtain ⟨ob, g1, g2⟩ := hR F2 L2 H2 s2 o2 w kw
          refine g2 _ (q F2 L2 _ ((rl.step s2 o2).mut ei e1 g1) fun ds vs hx ne => ⟨hx.chg (fun d v h => s2.vrep h) fun j d' b j1 j2 fb lb hb => ?_, ne.put ei⟩)
          obtain ⟨u, hu⟩ := hb.there
          obtain ⟨g3, g4, g5⟩ := s2.kp b u hu lb
          refine ⟨g4.trans fb, g5, hb.mono s2.ex fun z hz => ?_⟩
          rw [upd_ne (fun z => ne i d a ei e1 j d' j1 (by rw [← z]; exact j2))]
          exact (s2.kp b z hz lb).1
        cases d with
        | dct kvs =>
          dsimp only at q
          cases hk : keyOf y with
          | none => rw [hk] at q; exact q.elim
          | some k =>
            rw [hk] at q
            dsimp only at q
            split at q
            · rename_i ρ' st' hq
              split at hq
              · rename_i hc
                cases hq
                obtain ⟨ks, h1, h2⟩ := vs0
                obtain ⟨w0, z1, z2⟩ := key (.dct (putD kvs k x)) (fun H2 w Q => rSetL (.ref a) w v H2 Q ∨ rSetD (.ref a) w v H2 Q) (fun F2 L2 H2 s2 o2 w kw => by
                  cases keyOf_v hk kw
                  obtain ⟨k1, k2, k3⟩ := s2.kp a _ h1 nL
                  refine ⟨_, fun H' h => ⟨_, h, (RepK.mono s2.ex _ h2).put k (VRep.flat (s2.vrep kv) hc.2)⟩, fun Q q => .inr ⟨a, _, rfl, DPut.k (k := k) k1 (by rw [sizeLine_eq, ← h2.length]; omega), q⟩⟩) q
                refine ⟨w0, z1, teV_imp z2 fun w H2 ⟨hw, h⟩ => ?_⟩
                rw [hw]; exact h
              · cases hq
            · exact q.elim
        | lst xs =>
          cases y with
          | int n =>
            dsimp only at q
            cases hj : ixN xs.length n with
            | none => rw [hj] at q; exact q.elim
            | some j =>
              rw [hj] at q
              dsimp only at q
              split at q
              · rename_i ρ' st' hq
                split at hq
                · rename_i hc
                  cases hq
                  obtain ⟨ks, h1, h2⟩ := vs0
                  obtain ⟨w0, z1, z2⟩ := key (.lst (xs.set j x)) (fun H2 w Q => rSetL (.ref a) w v H2 Q ∨ rSetD (.ref a) w v H2 Q) (fun F2 L2 H2 s2 o2 w kw => by
                    cases kw.int
                    obtain ⟨k1, k2, k3⟩ := s2.kp a _ h1 nL
                    refine ⟨_, fun H' h => ⟨_, h, (RepL.mono s2.ex _ h2).set j (VRep.flat (s2.vrep kv) hc)⟩, fun Q q => .inl ⟨a, _, n, j, rfl, rfl, k1, by rw [← h2.length]; exact hj, q⟩⟩) q
                  refine ⟨w0, z1, teV_imp z2 fun w H2 ⟨hw, h⟩ => ?_⟩
                  rw [hw]; exact h
                · cases hq
              · exact q.elim
          | _ => exact q.elim
        | _ => exact q.elim
      | _ => exact q.elim
/-- x[k] = v -/
def sPut (i : Nat) (mk mv : EDen) : SDen := fun ρ st => (mv ρ st).s ρ fun x st1 => match putAt i mk x ρ st1 with
  | some (ρ', st') => .nx ρ' st'
  | none => .bad
theorem s_put {i : Nat} {tg : Expr} (hv : PE X v (teV K mg Γ W mv)) (hg : PG X tg (tpP K mg Γ i mk)) (hs : swapsWithSole [tg] v pos.line X.env = pure false := by rfl) (hw : swappedStores [tg] v X.env = pure none := by rfl) (h1 : (assignEach [tg] X.env).map (·.2) = [assign tg X.env] := by rfl) :
    PS X (.Assign [tg] v pos) (tsG K mg Γ W (sPut i mk mv)) := by
  refine ps_imp (ps_asg hv hg hs hw h1) fun D' σ H ⟨F, L, ρ, st, rl, q⟩ => ⟨F, L, ρ, st, rl, (SPost.s q rl).imp fun F1 L1 H1 st1 x s o q1 v kv => ?_⟩
  refine ⟨F1, L1, ρ, st1, x, rl.step s o, kv, ?_⟩
  split at q1
  · rename_i ρ' st' hp
    exact fun F' L' H' rl' _ => q1 F' L' σ H' rl'
  · exact q1.elim
/-! ### many targets, places among them -/
abbrev NDen := List (D × Bool) → REnv → Store → Option (REnv × Store)
def pdNil : NDen := fun ds ρ st => match ds with
  | [] => some (ρ, st)
  | _ => none
def pdName (i : Nat) (r : NDen) : NDen := fun ds ρ st => match ds with
  | (d, true) :: ds => r ds (ρ.set i (.own d)) st
  | (d, false) :: ds => r ds (ρ.set i (.val d)) st
  | [] => none
def pdPut (i : Nat) (mk : EDen) (r : NDen) : NDen := fun ds ρ st => match ds with
  | (x, false) :: ds => (match putAt i mk x ρ st with
    | some (ρ', st') => r ds ρ' st'
    | none => none)
  | _ => none
def tpG (K : PySem.W.Frag) (mg : Glob) (Γ : Ent) (pd : NDen) : TGs := fun vs σ H Q => ∃ F L ρ st ds, Rl K mg Γ F L σ H ρ st ∧ MixL K mg Γ.H0 F L H ds vs ∧ NE ρ σ ds vs ∧ match pd ds ρ st with
  | some (ρ', st') => ∀ F' L' σ' H', Rl K mg Γ F' L' σ' H' ρ' st' → Q σ' H'
  | none => False
theorem pd_nil : PGs X [] (tpG K mg Γ pdNil) := pgs_imp pgs_nil fun vs σ H Q ⟨F, L, ρ, st, ds, rl, hx, ne, q⟩ => by
  match ds, hx, q with
  | [], hx, q => exact ⟨hx, q F L σ H rl⟩
theorem NE.tl {ρ : REnv} {σ : St} {ds : List (D × Bool)} {vs : List V} {d : D × Bool} {v : V} (h : NE ρ σ (d :: ds) (v :: vs)) : NE ρ σ ds vs := fun k d b q1 q2 j d2 q3 => by
  have := h k d b q1 q2 (j + 1) d2 (by simpa using q3)
  simpa using this
theorem NE.setV {ρ : REnv} {σ : St} {ds : List (D × Bool)} {vs : List V} {i : Nat} {d : D} {v : V} (h : NE ρ σ ds vs) : NE (ρ.set i (.val d)) (σ.set i (some v)) ds vs := fun k d' b q1 q2 j d2 q3 => by
  rcases set_get q1 with ⟨_, q, _⟩ | ⟨n, q1⟩
  · cases q
  · rw [List.getElem?_set_ne (Ne.symm n)] at q2
    exact h k d' b q1 q2 j d2 q3
theorem NE.setO {ρ : REnv} {σ : St} {ds : List (D × Bool)} {vs : List V} {i : Nat} {d : D} {a : Addr} (hl : ρ.length = σ.length) (h : NE ρ σ ds vs) (h4 : ∀ (j : Nat) (d' : D), ds[j]? = some (d', true) → vs[j]? ≠ some (V.ref a)) : NE (ρ.set i (.own d)) (σ.set i (some (.ref a))) ds vs := fun k d' b q1 q2 j d2 q3 => by
  rcases set_get q1 with ⟨hki, q, hi⟩ | ⟨n, q1⟩
  · subst hki
    rw [List.getElem?_set_self (by rw [← hl]; exact hi)] at q2
    cases q2
    exact h4 j d2 q3
  · rw [List.getElem?_set_ne (Ne.symm n)] at q2
    exact h k d' b q1 q2 j d2 q3
theorem pd_name {x : Str} {r : NDen} (i : Nat) (hN : X.N.Nodup) (h2 : PGs X es (tpG K mg Γ r)) (hi : X.N[i]? = some x := by rfl) (hx : Loc X.env.scope x := by first | exact Or.inl rfl | exact Or.inr rfl) (hf : X.fn x = true ∨ X.env.scope.names.lookup x = some .local := by first | exact .inl rfl | exact .inr rfl | assumption)
    (hs : (assignEach (.Name x pos :: es) X.env).map (·.2) = assign (.Name x pos) X.env :: (assignEach es X.env).map (·.2) := by rfl) : PGs X (.Name x pos :: es) (tpG K mg Γ (pdName i r)) := by
  refine pgs_imp (pgs_cons (pg_name hN hi hx hf) h2 hs) fun vs σ H Q ⟨F, L, ρ, st, ds, rl, hx, ne, q⟩ => ?_
  match ds, hx, ne, q with
  | [], _, _, q => exact q.elim
  | (d, false) :: ds, hx, ne, q =>
    obtain ⟨v, r, rfl, h1, h3⟩ := hx
    exact ⟨v, r, rfl, F, L, _, st, ds, rl.setV i h1, h3, ne.tl.setV, q⟩
  | (d, true) :: ds, hx, ne, q =>
    obtain ⟨a, r, rfl, ⟨h1, h2, h5, h6⟩, h4, h3⟩ := hx
    exact ⟨_, r, rfl, F, L, _, st, ds, rl.setO i h2 h5 h1 h6 (fun j e q z => ne j e a q z 0 d rfl rfl), h3, ne.tl.setO rl.len h4, q⟩
theorem pd_put {i : Nat} {tg : Expr} {r : NDen} (hg : PG X tg (tpP K mg Γ i mk)) (h2 : PGs X es (tpG K mg Γ r)) (hs : (assignEach (tg :: es) X.env).map (·.2) = assign tg X.env :: (assignEach es X.env).map (·.2) := by rfl) :
    PGs X (tg :: es) (tpG K mg Γ (pdPut i mk r)) := by
  refine pgs_imp (pgs_cons hg h2 hs) fun vs σ H Q ⟨F, L, ρ, st, ds, rl, hx, ne, q⟩ => ?_
  match ds, hx, ne, q with
  | [], _, _, q => exact q.elim
  | (d, true) :: ds, _, _, q => exact q.elim
  | (d, false) :: ds, hx, ne, q =>
    obtain ⟨v, r, rfl, h1, h3⟩ := hx
    refine ⟨v, r, rfl, F, L, ρ, st, d, rl, h1, ?_⟩
    unfold pdPut at q
    dsimp only at q
    cases hp : putAt i mk d ρ st with
    | none => rw [hp] at q; exact q
    | some w =>
      obtain ⟨ρ', st'⟩ := w
      rw [hp] at q
      exact fun F' L' H' rl' k => ⟨F', L', ρ', st', ds, rl', (k ds r h3 ne.tl).1, (k ds r h3 ne.tl).2, q⟩
def sMany (n : Nat) (pd : NDen) (ms : MDen) : SDen := fun ρ st => (ms ρ st).s ρ fun ds st1 => if ds.length = n then (match pd ds ρ st1 with
  | some (ρ', st') => .nx ρ' st'
  | none => .bad) else .bad
theorem s_many {x1 : Nat} {pd : NDen} {n : Nat} (hK : X.K = K) (hc : X.calm = true) (ha : PA X es (tmG K mg Γ W ms)) (h : PGs X ts (tpG K mg Γ pd)) (hl9 : n < 100 := by decide) (hn : (assignEach ts X.env).length = n := by rfl) (hst : (assignEach ts X.env).findIdx? (·.1) = none := by rfl)
    (hs : swapsWithSole [.Tuple ts kt tpos] (.Tuple es x1 p) pos.line X.env = pure false := by rfl) (hw : swappedStores [.Tuple ts kt tpos] (.Tuple es x1 p) X.env = pure none := by rfl)
    (h1 : (assignEach [.Tuple ts kt tpos] X.env).map (·.2) = [assign (.Tuple ts kt tpos) X.env] := by rfl) : PS X (.Assign [.Tuple ts kt tpos] (.Tuple es x1 p) pos) (tsG K mg Γ W (sMany n pd ms)) := by
  refine ps_imp (ps_asg (pe_tup ha) (pg_tup hc h hn hst) hs hw h1) fun D' σ H ⟨F, L, ρ, st, rl, q⟩ => ?_
  refine ⟨F, L, ρ, st, rl, (SPost.s q rl).imp fun F1 L1 H1 st1 ds s o q1 vs kvs => ?_⟩
  split at q1
  · rename_i hl
    have rl1 := rl.step s o
    have hlen : vs.length = n := by rw [← kvs.len]; exact hl
    refine ⟨by rw [hlen, sizeLine_eq]; omega, fun p np => ⟨p, vs, rfl, .inl (.inl upd_same), hlen, ?_⟩⟩
    refine ⟨F1, L1, ρ, st1, ds, rl1.step (Stp.fresh np) (o.fresh np), (kvs.more fun a w z => by rw [upd_ne (ne_of_none z np)]; exact z).late fun a z y => z (rl.new0 y), fun i d b e1 e2 j d' j1 j2 => ?_, ?_⟩
    · obtain ⟨a, g1, _, _, _, hh⟩ := rl.so i d e1
      rw [g1] at e2
      cases e2
      obtain ⟨u, hu⟩ := hh.there
      rw [kvs.fresh j1 j2] at hu; cases hu
    · split at q1
      · rename_i ρ' st' hp
        exact fun F' L' σ' H' rl' => q1 F' L' σ' H' rl'
      · exact q1.elim
  · exact q1.elim
theorem x_var {X : Cx} {x : Str} {pos : Pos} (i : Nat) (hN : X.N[i]? = some x := by rfl) (hv : Vis X.env.scope x := by first | exact Or.inl rfl | exact Or.inr (Or.inl rfl) | exact Or.inr (Or.inr rfl)) (hd : (x == ("__debug__" : Str)) = false := by decide)
    (hcd : (x == ("__classdict__" : Str)) = false := by decide) : PE X (.Name x pos) (tVar i) := pe_var hN hv hd hcd
end
end Gh
/-! Gh33: more reckoning with denotations: the new constructs, dicts, equality. -/
namespace Gh
open L2 PyProof.Rows PySem.Spec PySem
section
variable {ρ : REnv} {st : Store}
@[simp] theorem r_star (m : EDen) (r : ADen) : aStar m r ρ st = (m ρ st).bind fun d st1 => match starOf d with
  | some es => (r ρ st1).bind fun ds st2 => .ok (es ++ ds) st2
  | none => .bad := rfl
@[simp] theorem r_att (f : Str) (cs : List Str) (mo mv : EDen) : sAtt f cs mo mv ρ st = (mv ρ st).s ρ fun x st1 => (mo ρ st1).s ρ fun y st2 => match y with
  | .loc n => (match st2[n]? with
    | some (.ins c fs) => if c ∈ cs ∧ isLoc x = false ∧ fs.length < 1000 then .nx ρ (st2.set n (.ins c (putFD f x fs))) else .bad
    | _ => .bad)
  | _ => .bad := rfl
@[simp] theorem r_attAug (f : Str) (cs : List Str) (mo : EDen) (g : Op2) (mv : EDen) : sAttAug f cs mo g mv ρ st = (mo ρ st).s ρ fun y st1 => match y with
  | .loc n => (match st1[n]? with
    | some (.ins c fs) => if c ∈ cs then (match fs.lookup f with
      | some x => (mv ρ st1).s ρ fun z st2 => (g x z st2).s ρ fun r st3 => (match st3[n]? with
        | some (.ins c' fs') => if c' = c ∧ isLoc r = false ∧ fs'.length < 999 then .nx ρ (st3.set n (.ins c (putFD f r fs'))) else .bad
        | _ => .bad)
      | none => .bad) else .bad
    | _ => .bad)
  | _ => .bad := rfl
@[simp] theorem r_dstar (md mk mv : EDen) : eDStar md mk mv ρ st = (md ρ st).bind fun x st1 => match x with
  | .dct ls => if ls.length < 1000000 then (mk ρ st1).bind fun y st2 => (mv ρ st2).bind fun z st3 => match keyOf y with
    | some kk => if isLoc z = false then .ok (.dct (putD (mergeD [] ls) kk z)) st3 else .bad
    | none => .bad else .bad
  | _ => .bad := rfl
@[simp] theorem r_get2 (mo me mf : EDen) : eGet2 mo me mf ρ st = (mo ρ st).bind fun x st1 => match x with
  | .dct kvs => (me ρ st1).bind fun y st2 => (mf ρ st2).bind fun z st3 => match keyOf y with
    | some k => .ok ((valD kvs k).getD z) st3
    | none => .bad
  | _ => .bad := rfl
@[simp] theorem r_dict (m : PDen) : eDict m ρ st = (m ρ st).bind fun kvs st1 => if kvs.length ≤ 15 then .ok (.dct (mergeD [] kvs)) st1 else .bad := rfl
@[simp] theorem r_pNil : pNil ρ st = .ok [] st := rfl
@[simp] theorem r_pCons (mk mv : EDen) (r : PDen) : pCons mk mv r ρ st = (mk ρ st).bind fun x st1 => (mv ρ st1).bind fun y st2 => (r ρ st2).bind fun kvs st3 => match keyOf x with
  | some k => if isLoc y = false then .ok ((k, y) :: kvs) st3 else .bad
  | none => .bad := rfl
@[simp] theorem r_many (n : Nat) (pd : NDen) (ms : MDen) : sMany n pd ms ρ st = (ms ρ st).s ρ fun ds st1 => if ds.length = n then (match pd ds ρ st1 with
  | some (ρ', st') => .nx ρ' st'
  | none => .bad) else .bad := rfl
@[simp] theorem r_pdNil : pdNil [] ρ st = some (ρ, st) := rfl
@[simp] theorem r_pdNameO (i : Nat) (r : NDen) (d : D) (ds : List (D × Bool)) : pdName i r ((d, true) :: ds) ρ st = r ds (ρ.set i (.own d)) st := rfl
@[simp] theorem r_pdNameV (i : Nat) (r : NDen) (d : D) (ds : List (D × Bool)) : pdName i r ((d, false) :: ds) ρ st = r ds (ρ.set i (.val d)) st := rfl
@[simp] theorem r_pdPut (i : Nat) (mk : EDen) (r : NDen) (x : D) (ds : List (D × Bool)) : pdPut i mk r ((x, false) :: ds) ρ st = (match putAt i mk x ρ st with
  | some (ρ', st') => r ds ρ' st'
  | none => none) := rfl
@[simp] theorem r_put (i : Nat) (mk mv : EDen) : sPut i mk mv ρ st = (mv ρ st).s ρ fun x st1 => match putAt i mk x ρ st1 with
  | some (ρ', st') => .nx ρ' st'
  | none => .bad := rfl
theorem putAt_d {i : Nat} {mk : EDen} {x y : D} {k : Key} {st2 : Store} {kvs : List (Key × D)} (h : ρ[i]? = some (.own (.dct kvs))) (hm : mk ρ st = .ok y st2) (hk : keyOf y = some k) (hl : kvs.length < 100000) (hx : isLoc x = false) :
    putAt i mk x ρ st = some (ρ.set i (.own (.dct (putD kvs k x))), st2) := by
  unfold putAt
  rw [h, hm]
  dsimp only
  rw [hk]
  dsimp only
  rw [if_pos ⟨hl, hx⟩]
theorem putAt_l {i : Nat} {mk : EDen} {x : D} {n : Int} {j : Nat} {st2 : Store} {xs : List D} (h : ρ[i]? = some (.own (.lst xs))) (hm : mk ρ st = .ok (.int n) st2) (hj : ixN xs.length n = some j) (hx : isLoc x = false) :
    putAt i mk x ρ st = some (ρ.set i (.own (.lst (xs.set j x))), st2) := by
  unfold putAt
  rw [h, hm]
  dsimp only
  rw [hj]
  dsimp only
  rw [if_pos hx]
@[simp] theorem r_keyI (i : Int) : keyOf (.int i) = some (.inl i) := rfl
@[simp] theorem r_keyS (s : Str) : keyOf (.str s) = some (.inr s) := rfl
@[simp] theorem r_starL (ds : List D) : starOf (.lst ds) = some ds := rfl
@[simp] theorem r_starT (ds : List D) : starOf (.tup ds) = some ds := rfl
@[simp] theorem r_raise (c : Str) (fs : List Str) (ms : ADen) : sRaise c fs ms ρ st = (ms ρ st).s ρ fun ds st' => if flatL ds = true ∧ ds.length = fs.length then .exc c (fs.zip ds).reverse ρ st' else .bad := rfl
@[simp] theorem r_tryAs (i : Nat) (all cs : List Str) (mb mh : SDen) : sTryAs i all cs mb mh ρ st = (match mb ρ st with
  | .exc c fs ρ' st' => if c ∈ all then (if c ∈ cs then unset i (mh (ρ'.set i (.exc c fs)) st') else .exc c fs ρ' st') else .bad
  | r => r) := rfl
@[simp] theorem r_try (all cs : List Str) (mb mh : SDen) : sTry all cs mb mh ρ st = (match mb ρ st with
  | .exc c fs ρ' st' => if c ∈ all then (if c ∈ cs then noXs (mh ρ' st') else .exc c fs ρ' st') else .bad
  | r => r) := rfl
theorem try_nx {i : Nat} {all cs : List Str} {mb mh : SDen} {ρ' : REnv} {st' : Store} (h : mb ρ st = .nx ρ' st') : sTryAs i all cs mb mh ρ st = .nx ρ' st' := by rw [r_tryAs, h]
theorem try_exc {i : Nat} {all cs : List Str} {mb mh : SDen} {ρ' : REnv} {st' : Store} {c : Str} {fs : List (Str × D)} (h : mb ρ st = .exc c fs ρ' st') (ha : c ∈ all) (hc : c ∈ cs) : sTryAs i all cs mb mh ρ st = unset i (mh (ρ'.set i (.exc c fs)) st') := by
  rw [r_tryAs, h]
  dsimp only
  rw [if_pos ha, if_pos hc]
theorem seq_exc {a b : SDen} {ρ ρ' : REnv} {st st' : Store} {c : Str} {fs : List (Str × D)} (h : a ρ st = .exc c fs ρ' st') : sSeq a b ρ st = .exc c fs ρ' st' := by
  unfold sSeq
  rw [h]
theorem callD_exc {np nl : Nat} {body : SDen} {ds : List D} {st st' : Store} {ρ' : REnv} {c : Str} {fs : List (Str × D)} (hl : ds.length = np) (h : body (ds.map Sl.val ++ List.replicate (nl - np) Sl.un) st = .exc c fs ρ' st') : callD np nl body ds st = .exc c fs (st'.take st.length) := by
  unfold callD
  rw [if_pos hl, h]
/-! equality -/
mutual
theorem eqv_refl : ∀ (n : Nat) (x : D), okD n x = true → D.eqv x x = true
  | _, .non, _ => rfl
  | _, .bl b, _ => by simp [D.eqv]
  | _, .int i, _ => by simp [D.eqv]
  | _, .str s, _ => by simp [D.eqv]
  | n + 1, .lst ds, h => eqvL_refl n ds h
  | n + 1, .scr ds, h => eqvL_refl n ds h
  | n + 1, .tup ds, h => eqvL_refl n ds h
  | 0, .lst ds, h => by cases h
  | 0, .scr ds, h => by cases h
  | 0, .tup ds, h => by cases h
  | n, .dct kvs, h => by cases n <;> cases h
  | n, .ins c fs, h => by cases n <;> cases h
  | n, .loc k, h => by cases n <;> cases h
theorem eqvL_refl : ∀ (n : Nat) (ds : List D), ds.all (okD n) = true → eqvL ds ds = true
  | _, [], _ => rfl
  | n, d :: ds, h => by
    rw [List.all_cons, Bool.and_eq_true] at h
    show (D.eqv d d && eqvL ds ds) = true
    rw [eqv_refl n d h.1, eqvL_refl n ds h.2]
    rfl
end
theorem eqD_self {x : D} (h : okD 20 x = true) : eqD x x = some true := by
  unfold eqD
  split
  · rename_i b hb
    unfold scalD at hb
    cases x <;> simp at hb <;> simp [← hb]
  · rw [if_pos ⟨h, h⟩, eqv_refl 20 x h]
theorem ne_self {x : D} (h : okD 20 x = true) : gNe x x st = .ok (.bl false) st := by
  unfold gNe
  rw [eqD_self h]
  rfl
theorem eq_self {x : D} (h : okD 20 x = true) : gEq x x st = .ok (.bl true) st := by
  unfold gEq
  rw [eqD_self h]
@[simp] theorem r_eqII (i j : Int) : gEq (.int i) (.int j) st = .ok (.bl (decide (i = j))) st := rfl
@[simp] theorem r_eqSS (i j : Str) : gEq (.str i) (.str j) st = .ok (.bl (decide (i = j))) st := rfl
@[simp] theorem r_eqBB (i j : Bool) : gEq (.bl i) (.bl j) st = .ok (.bl (decide (i = j))) st := rfl
@[simp] theorem r_neII (i j : Int) : gNe (.int i) (.int j) st = .ok (.bl (!decide (i = j))) st := rfl
@[simp] theorem r_neSS (i j : Str) : gNe (.str i) (.str j) st = .ok (.bl (!decide (i = j))) st := rfl
@[simp] theorem r_neBB (i j : Bool) : gNe (.bl i) (.bl j) st = .ok (.bl (!decide (i = j))) st := rfl
@[simp] theorem r_addII (i j : Int) : gAdd (.int i) (.int j) st = .ok (.int (i + j)) st := rfl
theorem add_lst {a b : List D} (h : a.length + b.length < 100000) : gAdd (.lst a) (.lst b) st = .ok (.lst (a ++ b)) st := by
  show (if a.length + b.length < 100000 then _ else _) = _
  rw [if_pos h]
theorem add_tup {a b : List D} (h : a.length + b.length < 100000) : gAdd (.tup a) (.tup b) st = .ok (.tup (a ++ b)) st := by
  show (if a.length + b.length < 100000 then _ else _) = _
  rw [if_pos h]
@[simp] theorem r_gTupL (ds : List D) : gTuple [.lst ds] st = .ok (.tup ds) st := rfl
@[simp] theorem r_gTupT (ds : List D) : gTuple [.tup ds] st = .ok (.tup ds) st := rfl
@[simp] theorem r_gListL (ds : List D) : gList [.lst ds] st = .ok (.lst ds) st := rfl
@[simp] theorem r_gListT (ds : List D) : gList [.tup ds] st = .ok (.lst ds) st := rfl
@[simp] theorem r_gLenL (ds : List D) : gLen [.lst ds] st = .ok (.int (ds.length : Nat)) st := rfl
@[simp] theorem r_gLenT (ds : List D) : gLen [.tup ds] st = .ok (.int (ds.length : Nat)) st := rfl
theorem in_dct {kvs : List (Key × D)} {x : D} {k : Key} (h : keyOf x = some k) : gIn x (.dct kvs) st = .ok (.bl (valD kvs k).isSome) st := by
  unfold gIn isIn
  dsimp only
  rw [h]
theorem notin_dct {kvs : List (Key × D)} {x : D} {k : Key} (h : keyOf x = some k) : gNotIn x (.dct kvs) st = .ok (.bl (!(valD kvs k).isSome)) st := by
  unfold gNotIn isIn
  dsimp only
  rw [h]
theorem isIn_flat {x y : D} {ds : List D} (hy : itemsOf y = some ds) (hx : flatD x = true) (hd : ds.all flatD = true) : isIn x y = some (inD x ds) := by
  cases y <;> cases hy <;> (unfold isIn itemsOf; dsimp only; rw [if_pos ⟨hx, hd⟩])
theorem in_flat {x y : D} {ds : List D} (hy : itemsOf y = some ds) (hx : flatD x = true) (hd : ds.all flatD = true) : gIn x y st = .ok (.bl (inD x ds)) st := by
  unfold gIn
  rw [isIn_flat hy hx hd]
theorem notin_flat {x y : D} {ds : List D} (hy : itemsOf y = some ds) (hx : flatD x = true) (hd : ds.all flatD = true) : gNotIn x y st = .ok (.bl (!inD x ds)) st := by
  unfold gNotIn
  rw [isIn_flat hy hx hd]
theorem all_flat_map {α : Type} (f : α → D) (h : ∀ a, flatD (f a) = true) (l : List α) : (l.map f).all flatD = true := by
  rw [List.all_map]
  exact List.all_eq_true.mpr fun a _ => h a
theorem inD_str (s : Str) (l : List Str) : inD (.str s) (l.map D.str) = decide (s ∈ l) := by
  unfold inD
  induction l with
  | nil => rfl
  | cons a r ih =>
    rw [List.map_cons, List.any_cons, ih]
    show ((a == s) || decide (s ∈ r)) = _
    by_cases h : a = s
    · subst h; simp
    · have h' : s ≠ a := fun z => h z.symm
      simp [h, h']
theorem inD_int (s : Int) (l : List Int) : inD (.int s) (l.map D.int) = decide (s ∈ l) := by
  unfold inD
  induction l with
  | nil => rfl
  | cons a r ih =>
    rw [List.map_cons, List.any_cons, ih]
    show ((a == s) || decide (s ∈ r)) = _
    by_cases h : a = s
    · subst h; simp
    · have h' : s ≠ a := fun z => h z.symm
      simp [h, h']
theorem okD_map {α : Type} (n : Nat) (f : α → D) (l : List α) (h : ∀ a ∈ l, okD n (f a) = true) : (l.map f).all (okD n) = true := by
  rw [List.all_map]
  exact List.all_eq_true.mpr fun a ha => h a ha
theorem flatL_map {α : Type} (f : α → D) (l : List α) (h : ∀ a, isLoc (f a) = false) : flatL (l.map f) = true := by
  unfold flatL
  rw [List.all_map]
  exact List.all_eq_true.mpr fun a _ => by
    show (!isLoc (f a)) = true
    rw [h a]
    rfl
theorem flatL_app (a b : List D) : flatL (a ++ b) = (flatL a && flatL b) := List.all_append ..
/-! dicts -/
abbrev keysD (kvs : List (Key × D)) : List Key := kvs.map (·.1)
theorem any_keys {kvs : List (Key × D)} {k : Key} : (kvs.any fun kv => decide (kv.1 = k)) = true ↔ k ∈ keysD kvs := by
  rw [List.any_eq_true]
  constructor
  · rintro ⟨kv, h, e⟩
    have e : kv.1 = k := by simpa using e
    exact e ▸ List.mem_map_of_mem h
  · intro h
    obtain ⟨kv, h, e⟩ := List.mem_map.mp h
    exact ⟨kv, h, by simpa using e⟩
theorem putD_new {kvs : List (Key × D)} {k : Key} {v : D} (h : k ∉ keysD kvs) : putD kvs k v = kvs ++ [(k, v)] := by
  unfold putD
  rw [if_neg fun z => h (any_keys.mp z)]
theorem putD_old {kvs : List (Key × D)} {k : Key} {v : D} (h : k ∈ keysD kvs) : putD kvs k v = kvs.map fun kv => if kv.1 = k then (kv.1, v) else kv := by
  unfold putD
  rw [if_pos (any_keys.mpr h)]
theorem keys_old {kvs : List (Key × D)} {k : Key} {v : D} (h : k ∈ keysD kvs) : keysD (putD kvs k v) = keysD kvs := by
  rw [putD_old h, keysD, keysD, List.map_map]
  refine List.map_congr_left fun kv _ => ?_
  show (if kv.1 = k then (kv.1, v) else kv).1 = kv.1
  split <;> rfl
theorem keys_new {kvs : List (Key × D)} {k : Key} {v : D} (h : k ∉ keysD kvs) : keysD (putD kvs k v) = keysD kvs ++ [k] := by
  rw [putD_new h, keysD, List.map_append]
  rfl
theorem mem_keys {kvs : List (Key × D)} {k k2 : Key} {v : D} : k2 ∈ keysD (putD kvs k v) ↔ k2 = k ∨ k2 ∈ keysD kvs := by
  by_cases h : k ∈ keysD kvs
  · rw [keys_old h]
    exact ⟨.inr, fun z => z.elim (fun e => e ▸ h) id⟩
  · rw [keys_new h, List.mem_append]
    exact ⟨fun z => z.elim .inr fun z => .inl (by simpa using z), fun z => z.elim (fun e => .inr (by simp [e])) .inl⟩
theorem putD_nodup {kvs : List (Key × D)} {k : Key} {v : D} (h : (keysD kvs).Nodup) : (keysD (putD kvs k v)).Nodup := by
  by_cases n : k ∈ keysD kvs
  · rw [keys_old n]
    exact h
  · rw [keys_new n, List.nodup_append]
    refine ⟨h, by simp, fun a ha b hb => ?_⟩
    have hb : b = k := by simpa using hb
    subst hb
    exact fun e => n (e ▸ ha)
theorem putD_len (kvs : List (Key × D)) (k : Key) (v : D) : (putD kvs k v).length ≤ kvs.length + 1 := by
  unfold putD
  split
  · rw [List.length_map]; omega
  · rw [List.length_append]; exact Nat.le_refl _
theorem merge_go : ∀ (l acc : List (Key × D)), (keysD (acc ++ l)).Nodup → l.foldl (fun acc kv => putD acc kv.1 kv.2) acc = acc ++ l
  | [], acc, _ => (List.append_nil acc).symm
  | kv :: l, acc, h => by
    have h2 : kv.1 ∉ keysD acc := fun z => by
      rw [keysD, List.map_append, List.nodup_append] at h
      exact h.2.2 _ z _ List.mem_cons_self rfl
    rw [List.foldl_cons, putD_new h2, merge_go l _ (by simpa using h)]
    simp
theorem mergeD_id {l : List (Key × D)} (h : (keysD l).Nodup) : mergeD [] l = l := merge_go l [] h
@[simp] theorem mergeD_nil : mergeD [] ([] : List (Key × D)) = [] := rfl
theorem valD_mem {kvs : List (Key × D)} {k : Key} {d : D} (h : valD kvs k = some d) : (k, d) ∈ kvs := by
  unfold valD at h
  cases hf : kvs.find? fun kv => decide (kv.1 = k) with
  | none => rw [hf] at h; cases h
  | some kv =>
    rw [hf] at h
    cases h
    have := List.find?_some hf
    have e : kv.1 = k := by simpa using this
    rw [← e]
    exact List.mem_of_find?_eq_some hf
theorem valD_some {kvs : List (Key × D)} {k : Key} : (valD kvs k).isSome = true ↔ k ∈ keysD kvs := by
  unfold valD
  rw [Option.isSome_map, List.isSome_find?, any_keys]
theorem valD_put (kvs : List (Key × D)) (k : Key) (v : D) : valD (putD kvs k v) k = some v := by
  by_cases h : k ∈ keysD kvs
  · rw [putD_old h]
    unfold valD
    induction kvs with
    | nil => cases h
    | cons kv r ih =>
      rw [List.map_cons, List.find?_cons]
      by_cases e : kv.1 = k
      · simp [e]
      · have hr : k ∈ keysD r := by
          rcases List.mem_cons.mp h with h | h
          · exact absurd h.symm e
          · exact h
        simp only [e, if_false, decide_false]
        exact ih hr
  · rw [putD_new h]
    unfold valD
    rw [List.find?_append]
    have : kvs.find? (fun kv => decide (kv.1 = k)) = none := List.find?_eq_none.mpr fun kv hk => by
      simp only [decide_eq_true_eq]
      exact fun e => h (e ▸ List.mem_map_of_mem hk)
    rw [this]
    simp
theorem mem_putD {kvs : List (Key × D)} {k : Key} {v : D} {p : Key × D} (h : p ∈ putD kvs k v) : p = (k, v) ∨ p ∈ kvs := by
  unfold putD at h
  split at h
  · obtain ⟨q, hq, e⟩ := List.mem_map.mp h
    split at e
    · rename_i e2
      rw [← e, ← e2]
      exact .inl rfl
    · exact .inr (e ▸ hq)
  · rcases List.mem_append.mp h with h | h
    · exact .inr h
    · exact .inl (by simpa using h)
theorem dcompGo_map {α : Type} {bd : BDen} {t : TDen} {mk mv : EDen} {ρ : REnv} {st : Store} (emb : α → D) (fk : α → Key) (f : α → D) (q : α → Bool) : ∀ ds : List α, (∀ a ∈ ds, ∃ ρ1, bd (emb a) ρ = some ρ1 ∧ t ρ1 st = .ok (q a) st ∧ (q a = true → ∃ y, mk ρ1 st = .ok y st ∧ keyOf y = some (fk a) ∧ mv ρ1 st = .ok (f a) st ∧ isLoc (f a) = false)) →
    dcompGo bd t mk mv ρ (ds.map emb) st = .ok ((ds.filter q).map fun a => (fk a, f a)) st
  | [], _ => rfl
  | a :: ds, h => by
    obtain ⟨ρ1, h1, h2, h3⟩ := h a List.mem_cons_self
    have ih := dcompGo_map emb fk f q ds fun b hb => h b (List.mem_cons_of_mem _ hb)
    rw [List.map_cons]
    unfold dcompGo
    rw [h1]
    dsimp only
    rw [h2, RC.bind_ok]
    cases hq : q a with
    | true =>
      obtain ⟨y, h4, h5, h6, h7⟩ := h3 hq
      rw [if_pos rfl, h4, RC.bind_ok, h6, RC.bind_ok, h5]
      dsimp only
      rw [h7, if_neg (by decide), ih, List.filter_cons, hq]
      rfl
    | false =>
      rw [if_neg (by decide), ih, List.filter_cons, hq]
      rfl
theorem eDComp_map {α : Type} {mi : LDen} {bd : BDen} {t : TDen} {mk mv : EDen} {vs : List Nat} {ρ : REnv} {st : Store} (emb : α → D) (fk : α → Key) (f : α → D) (q : α → Bool) (ds : List α) (hi : mi ρ st = .ok (ds.map emb) st) (hl : ds.length < 100000)
    (h : ∀ a ∈ ds, ∃ ρ1, bd (emb a) (wipeR ρ vs) = some ρ1 ∧ t ρ1 st = .ok (q a) st ∧ (q a = true → ∃ y, mk ρ1 st = .ok y st ∧ keyOf y = some (fk a) ∧ mv ρ1 st = .ok (f a) st ∧ isLoc (f a) = false)) :
    eDComp mi bd t mk mv vs ρ st = .ok (.dct (mergeD [] ((ds.filter q).map fun a => (fk a, f a)))) st := by
  unfold eDComp
  rw [hi, RC.bind_ok, List.length_map, if_pos hl, dcompGo_map emb fk f q ds h]
  rfl
/-! sets -/
theorem asInts_strs (s : Str) (l : List Str) : asInts ((s :: l).map D.str) = none := rfl
theorem asStrs_map (l : List Str) : asStrs (l.map D.str) = some l := by
  induction l with
  | nil => rfl
  | cons a r ih =>
    rw [List.map_cons]
    unfold asStrs
    rw [ih]
    rfl
theorem asInts_map (l : List Int) : asInts (l.map D.int) = some l := by
  induction l with
  | nil => rfl
  | cons a r ih =>
    rw [List.map_cons]
    unfold asInts
    rw [ih]
    rfl
theorem sortI_nil : sortI (uniq []) = [] := List.eq_nil_iff_length_eq_zero.mpr (by rw [(sortI_perm _).length_eq]; rfl)
def sset (l : List Str) : List Str := if l = [] then [] else sortS (uniq l)
theorem sortSet_strs {m : EDen} {st1 : Store} (x : D) (l : List Str) (h : m ρ st = .ok x st1) (hx : itemsOf x = some (l.map D.str)) (hl : l.length < 4000) : eSortSet m ρ st = .ok (.lst ((sset l).map D.str)) st1 := by
  unfold eSortSet
  rw [h, RC.bind_ok, hx]
  dsimp only
  rw [if_pos (by rw [List.length_map]; exact hl)]
  unfold setKeys sset
  cases l with
  | nil =>
    show RC.ok (D.lst ((sortI (uniq [])).map D.int)) st1 = _
    rw [if_pos rfl, sortI_nil]
    rfl
  | cons a r =>
    rw [asInts_strs]
    dsimp only
    rw [asStrs_map]
    rfl
theorem uniq_sub {α : Type} [DecidableEq α] : ∀ (l acc : List α) (a : α), a ∈ l.foldl (fun acc k => if k ∈ acc then acc else k :: acc) acc → a ∈ acc ∨ a ∈ l
  | [], acc, a, h => .inl h
  | k :: l, acc, a, h => by
    rw [List.foldl_cons] at h
    rcases uniq_sub l _ a h with h | h
    · split at h
      · exact .inl h
      · rcases List.mem_cons.mp h with h | h
        · exact .inr (h ▸ List.mem_cons_self)
        · exact .inl h
    · exact .inr (List.mem_cons_of_mem _ h)
theorem sset_sub {l : List Str} {a : Str} (h : a ∈ sset l) : a ∈ l := by
  unfold sset at h
  split at h
  · cases h
  · rcases uniq_sub l [] a ((sortS_perm _).mem_iff.mp h) with h | h
    · cases h
    · exact h
/-! step by step -/
theorem v_e1 {g : Op1} {m : EDen} {x : D} {st1 : Store} (h : m ρ st = .ok x st1) : e1 g m ρ st = g x st1 := by rw [r_e1, h]; rfl
theorem v_e2 {g : Op2} {ma mb : EDen} {x y : D} {st1 st2 : Store} (h : ma ρ st = .ok x st1) (h2 : mb ρ st1 = .ok y st2) : e2 g ma mb ρ st = g x y st2 := by rw [r_e2, h, RC.bind_ok, h2]; rfl
theorem v_eN {g : OpN} {m : ADen} {xs : List D} {st1 : Store} (h : m ρ st = .ok xs st1) : eN g m ρ st = g xs st1 := by rw [r_eN, h]; rfl
theorem v_eN1 {g : OpN} {m : EDen} {x : D} {st1 : Store} (h : m ρ st = .ok x st1) : eN g (aCons m aNil) ρ st = g [x] st1 := by rw [r_eN, r_aCons, h]; rfl
theorem v_cons {m : EDen} {r : ADen} {x : D} {xs : List D} {st1 st2 : Store} (h : m ρ st = .ok x st1) (h2 : r ρ st1 = .ok xs st2) : aCons m r ρ st = .ok (x :: xs) st2 := by rw [r_aCons, h, RC.bind_ok, h2]; rfl
theorem v_tB {m : EDen} {b : Bool} {st1 : Store} (h : m ρ st = .ok (.bl b) st1) : tB m ρ st = .ok b st1 := by rw [r_tB, h]; rfl
theorem v_asg {i : Nat} {m : EDen} {x : D} {st1 : Store} (h : m ρ st = .ok x st1) : sAsg i m ρ st = .nx (ρ.set i (.val x)) st1 := by rw [r_asg, h]; rfl
theorem v_ret {m : EDen} {x : D} {st1 : Store} (h : m ρ st = .ok x st1) : sRet m ρ st = .rt x st1 := by rw [r_ret, h]; rfl
theorem v_drop {m : EDen} {x : D} {st1 : Store} (h : m ρ st = .ok x st1) : sDrop m ρ st = .nx ρ st1 := by rw [r_drop, h]; rfl
theorem v_dropX {m : EDen} {c : Str} {fs : List (Str × D)} {st1 : Store} (h : m ρ st = .exc c fs st1) : sDrop m ρ st = .exc c fs ρ st1 := by rw [r_drop, h]; rfl
theorem v_asgX {i : Nat} {m : EDen} {c : Str} {fs : List (Str × D)} {st1 : Store} (h : m ρ st = .exc c fs st1) : sAsg i m ρ st = .exc c fs ρ st1 := by rw [r_asg, h]; rfl
theorem v_ifT {t : TDen} {a b : SDen} {st1 : Store} (h : t ρ st = .ok true st1) : sIf t a b ρ st = a ρ st1 := by rw [r_if, h]; rfl
theorem v_ifF {t : TDen} {a b : SDen} {st1 : Store} (h : t ρ st = .ok false st1) : sIf t a b ρ st = b ρ st1 := by rw [r_if, h]; rfl
theorem v_orT {t u : TDen} {st1 : Store} (h : t ρ st = .ok true st1) : tOr t u ρ st = .ok true st1 := by rw [r_tOr, h]; rfl
theorem v_orF {t u : TDen} {st1 : Store} (h : t ρ st = .ok false st1) : tOr t u ρ st = u ρ st1 := by rw [r_tOr, h]; rfl
theorem v_andT {t u : TDen} {st1 : Store} (h : t ρ st = .ok true st1) : tAnd t u ρ st = u ρ st1 := by rw [r_tAnd, h]; rfl
theorem v_andF {t u : TDen} {st1 : Store} (h : t ρ st = .ok false st1) : tAnd t u ρ st = .ok false st1 := by rw [r_tAnd, h]; rfl
theorem v_tNot {t : TDen} {b : Bool} {st1 : Store} (h : t ρ st = .ok b st1) : tNot t ρ st = .ok (!b) st1 := by rw [r_tNot, h]; rfl
theorem v_mVal {m : EDen} {ms : MDen} {x : D} {xs : List (D × Bool)} {st1 st2 : Store} (h : m ρ st = .ok x st1) (h2 : ms ρ st1 = .ok xs st2) : mVal m ms ρ st = .ok ((x, false) :: xs) st2 := by rw [r_mVal, h, RC.bind_ok, h2]; rfl
theorem v_mOwn {m : EDen} {ms : MDen} {x : D} {xs : List (D × Bool)} {st1 st2 : Store} (h : m ρ st = .ok x st1) (h2 : ms ρ st1 = .ok xs st2) : mOwn m ms ρ st = .ok ((x, true) :: xs) st2 := by rw [r_mOwn, h, RC.bind_ok, h2]; rfl
theorem v_par {is : List Nat} {m : MDen} {ds : List (D × Bool)} {st1 : Store} (h : m ρ st = .ok ds st1) (hl : ds.length = is.length) : sPar is m ρ st = .nx (setR ρ is ds) st1 := by
  rw [r_par, h]
  show (if _ then _ else _) = _
  rw [if_pos hl]
theorem v_meth {l : List (Str × CallF)} {mt : Str} {mo : EDen} {ms : ADen} {x : D} {c : Str} {fs : List (Str × D)} {f : CallF} {ds : List D} {st1 st2 : Store} (h : mo ρ st = .ok x st1) (hi : instOf st1 x = some (c, fs)) (hf : l.lookup c = some f) (hn : (fs.lookup mt).isNone = true) (ha : ms ρ st1 = .ok ds st2) : eMethU l mt mo ms ρ st = f (x :: ds) st2 := by
  rw [r_meth, h, RC.bind_ok, hi]
  dsimp only
  rw [hf]
  dsimp only
  rw [if_pos hn, ha]
  rfl
theorem v_call {f : CallF} {ms : ADen} {ds : List D} {st1 : Store} (h : ms ρ st = .ok ds st1) : eCall f ms ρ st = f ds st1 := by
  show (ms ρ st).bind f = _
  rw [h]
  rfl
end
end Gh
/-! Gh34: lambdas without parameters that a frame makes and calls itself. -/
namespace Gh
open L2 PyProof.Rows PySem.Spec PySem
open LamX (CodeO TabB LamS lamEnv lamCx)
/-- a lambda's own text -/
structure LamT where
  ps : Arguments
  bd : Expr
  sc : Scope
/-- the function object of a lambda made in the frame X, its code object at c -/
def LamO (X : Cx) (t : LamT) (f c : Addr) : HO := .ext fun hp => ∃ pm ct : Value, hp.get? f = some (PySem.W.kla_obj "<lambda>" (X.env.qual ++ "<lambda>") t.ps t.bd t.sc (cloFrom X.env.cells t.sc.names []) pm c ct)
section
variable {X : Cx} {pins : List (Addr × Obj)} {σ : L2.St} {H : Hp} {s : Shared}
theorem lam_laid {t : LamT} {c : Addr} {pm ct : Value} {tk : Nat} (I : Inv X pins σ H s) : Inv X pins σ (upd H s.heap.objs.size (LamO X t s.heap.objs.size c))
    { s with heap := s.heap.push (PySem.W.kla_obj "<lambda>" (X.env.qual ++ "<lambda>") t.ps t.bd t.sc (cloFrom X.env.cells t.sc.names []) pm c ct), toks := tk } := by
  refine I.laid (fun b u e => Heap.get?_push_of_some _ e) (Nat.le_refl _) ?_
  have e := Heap.get?_push_size s.heap (o := PySem.W.kla_obj "<lambda>" (X.env.qual ++ "<lambda>") t.ps t.bd t.sc (cloFrom X.env.cells t.sc.names []) pm c ct) rfl
  exact ⟨⟨pm, ct, e⟩, ⟨_, e⟩, fun h1 h2 ⟨p, q, z⟩ st => ⟨p, q, st _ z⟩⟩
theorem lam_mk {t : LamT} {c P : Addr} {pos : Pos} {E Q : Value → Shared → Prop} {ar : Array Value} (I : Inv X pins σ H s) (TB : TabB X.base X.mg c P) (hcode : X.env.code = .ref c) (tP : H P = some (.tbl ar)) (ok : TriplesOk ar.toList)
    (all : ∀ (p : Pos) (cv : Value), codeAmong p ar.toList = some cv → ∃ d, cv = .ref d ∧ H d = some (CodeO d (X.env.qual ++ "<lambda>"))) (hdef : defaultsOf t.ps X.env = ([], [])) (L : LamS X.env.scope t.sc)
    (h : ∀ (f c' : Addr) (H1 : Hp) (s1 : Shared) (ar' : Array Value), Inv X pins σ H1 s1 → (∀ b u, b ≠ P → H b = some u → H1 b = some u) → H f = none → H1 f = some (LamO X t f c') → H1 c' = some (CodeO c' (X.env.qual ++ "<lambda>")) →
      H1 P = some (.tbl ar') → TriplesOk ar'.toList → (∀ (p : Pos) (cv : Value), codeAmong p ar'.toList = some cv → codeAmong p ar.toList = some cv ∨ cv = .ref c') → (H c' = none ∨ ∃ p : Pos, codeAmong p ar.toList = some (.ref c')) → c' ≠ f → Q (.ref f) s1) :
    wpAny (model X.prog X.w) X.A (eval (.Lambda t.ps t.bd t.sc pos) X.env) Q E s := by
  refine PySem.W.kla_eval hdef ?_
  have hB : s.heap.BuiltinsAt X.mg P := TB.bm.keeps I.bk
  have gP : s.heap.get? P = some { cls := .none, data := .fields ar } := I.hok P _ tP
  have fr := L.has I.ok
  cases q : codeAmong pos ar.toList with
  | some cv =>
    obtain ⟨c', rfl, hc'⟩ := all pos cv q
    refine PySem.W.kla_makeFunctionHit (mg := X.mg) (c := c) (P := P) (ps := ar) (closure_ok fr) I.ok.glob (I.mod.glob.keeps I.bk) hcode (TB.code.keeps I.bk) gP ok q hB fun ct h1 tk more le => ?_
    have J : Inv X pins σ H { s with heap := h1, toks := tk } := I.kept more
    have nf : H h1.objs.size = none := J.hok.fresh (Nat.le_refl _)
    have ne : ∀ b u, H b = some u → b ≠ h1.objs.size := fun b u e => ne_of_none e nf
    exact h _ c' _ _ ar (lam_laid (t := t) (c := c') (pm := (X.mg "__name__").getD .none) (ct := ct) (tk := tk) J) (fun b u _ e => by rw [upd_ne (ne b u e)]; exact e) nf upd_same (by rw [upd_ne (ne _ _ hc')]; exact hc') (by rw [upd_ne (ne _ _ tP)]; exact tP) ok (fun p cv e => .inl e) (.inr ⟨pos, q⟩) (ne _ _ hc')
  | none =>
    refine PySem.W.kla_makeFunction (mg := X.mg) (c := c) (P := P) (ps := ar) (closure_ok fr) I.ok.glob (I.mod.glob.keeps I.bk) hcode (TB.code.keeps I.bk) gP ok q TB.gP hB fun c' ct h1 tk but lo hi rec_ tab => ?_
    obtain ⟨d, oc, vs, tt, e2, hoc, hd, hv⟩ := rec_
    cases e2
    have nc : H c' = none := I.hok.fresh lo
    have J := LamX.inv_table (t' := tk) (more := #[rawInt pos.line, rawInt pos.col, .ref c']) (h' := h1) I tP (fun b o nb e => but b o nb e) tab lo ⟨oc, vs, tt, hoc, hd, hv⟩
    have nf := J.hok.fresh (Nat.le_refl h1.objs.size)
    have neC : ∀ b u, H b = some u → b ≠ c' := fun b u e => ne_of_none e nc
    have keep : ∀ b u, b ≠ P → H b = some u → upd (upd (upd H P (.tbl (ar ++ #[rawInt pos.line, rawInt pos.col, .ref c']))) c' (CodeO c' (X.env.qual ++ "<lambda>"))) h1.objs.size (LamO X t h1.objs.size c') b = some u := fun b u nb e => by
      have e' : upd (upd H P (.tbl (ar ++ #[rawInt pos.line, rawInt pos.col, .ref c']))) c' (CodeO c' (X.env.qual ++ "<lambda>")) b = some u := by
        rw [upd_ne (neC b u e), upd_ne nb]
        exact e
      rw [upd_ne (ne_of_none e' nf)]
      exact e'
    have cAt : upd (upd H P (.tbl (ar ++ #[rawInt pos.line, rawInt pos.col, .ref c']))) c' (CodeO c' (X.env.qual ++ "<lambda>")) c' = some (CodeO c' (X.env.qual ++ "<lambda>")) := upd_same
    have pAt : upd (upd H P (.tbl (ar ++ #[rawInt pos.line, rawInt pos.col, .ref c']))) c' (CodeO c' (X.env.qual ++ "<lambda>")) P = some (.tbl (ar ++ #[rawInt pos.line, rawInt pos.col, .ref c'])) := by
      rw [upd_ne (ne_of_none tP nc), upd_same]
    have nfH : H h1.objs.size = none := by
      cases z : H h1.objs.size with
      | none => rfl
      | some u =>
        by_cases zz : h1.objs.size = P
        · rw [zz, pAt] at nf
          cases nf
        · rw [upd_ne (neC _ _ z), upd_ne zz, z] at nf
          cases nf
    have lst : (ar ++ #[rawInt pos.line, rawInt pos.col, .ref c']).toList = ar.toList ++ [rawInt pos.line, rawInt pos.col, .ref c'] := by simp
    exact h _ c' _ _ _ (lam_laid (t := t) (c := c') (pm := (X.mg "__name__").getD .none) (ct := ct) (tk := tk) J) keep nfH upd_same (by rw [upd_ne (ne_of_none cAt nf)]; exact cAt) (by rw [upd_ne (ne_of_none pAt nf)]; exact pAt) (by rw [lst]; exact PySem.TriplesOk_snoc _ _ _ _ ok)
      (fun p cv e => LamX.among_app _ ok (by rw [← lst]; exact e)) (.inl nc) (Nat.ne_of_lt hi)
/-- x(), x one of the frame's own lambdas -/
def tAct (X : Cx) (i : Nat) (t : LamT) (W : WX) (tb : XK → TE) : TE := fun σ H Q => ∃ f c, σ[i]? = some (some (.ref f)) ∧ H f = some (LamO X t f c) ∧ H c = some (CodeO c (X.env.qual ++ "<lambda>")) ∧ tb (WE W σ) σ H Q
theorem pe_lam {t : LamT} {i k : Nat} {a : Str} {W : WX} {tb : XK → TE} {p1 p2 : Pos} {pn : List (Addr × Obj)} {xe : Value → Shared → Prop} (L : LamS X.env.scope t.sc) (hbind : ∀ (q : Str) (cl : List (Str × Addr)) (pm cv ct : Value), bindArgs (PySem.W.kla_fn "<lambda>" q t.ps t.bd t.sc cl pm cv ct) ⟨[], []⟩ = pure [])
    (tk : Takes (X.tr pn xe) W) (hr : Room (k + 1) X.A) (hbody : ∀ (A : Around) (outer : List Env) (s : Shared) (H : Hp) (E : XK) (f c : Addr), Room k (A.deeper (lamEnv X t.sc s.heap.objs.size f c)) → PE (lamCx X A outer s H E t.sc f c) t.bd (tb E))
    (hN : X.N[i]? = some a := by rfl) (hv : Vis X.env.scope a := by first | exact Or.inl rfl | exact Or.inr (Or.inl rfl) | exact Or.inr (Or.inr rfl)) (hd : (a == ("__debug__" : Str)) = false := by decide) (hcd : (a == ("__classdict__" : Str)) = false := by decide) :
    PE (X.tr pn xe) (.Call (.Name a p1) [] [] p2) (tAct X i t W tb) := by
  refine ⟨fun pins s σ H Q I ⟨f, c, hσ, hf, hc, q⟩ => ?_⟩
  refine wpAny_Call_Name_kw (thn ((pe_var (X := X.tr pn xe) (pos := p1) (i := i) hN hv hd hcd).run pins s σ H (fun v H1 => v = .ref f ∧ H1 = H) I ⟨.ref f, hσ, rfl, rfl⟩) fun u s1 ⟨v, H1, I1, r1, q1⟩ => ?_)
  obtain ⟨rfl, rfl⟩ := q1
  obtain rfl : u = Value.ref f := r1
  obtain ⟨⟨pm, ct, of⟩, _, _⟩ := I1.hok f _ hf
  obtain ⟨⟨oc, vs, tt, hoc, hdc, hvc⟩, _, _⟩ := I1.hok c _ hc
  refine PySem.W.callWith_F0 ⟨_, _, _, _, of⟩ ?_
  have go : codeAny (model X.prog X.w) X.A (.call (.ref f) ⟨[], []⟩) (CR (L2.CX X.prog X.w) X.stack X.prog X.w H1 s1 Q (WE W σ)) s1 := by
    refine PySem.W.kla_callFunE hr.depth of rfl L.co L.gen rfl ⟨c, oc, vs, tt, rfl, hoc, hdc, hvc⟩ ?_
    rw [hbind]
    refine wpAny_pure (wpAny_newFunctionEnv (fun y hy => (L.own y hy).2) (fun y hy => absurd hy (by simp)) (fun hp ns sb => ⟨I1.nolimit.fresh _ sb, ?_⟩) L.kind)
    show codeAny _ _ (.expr t.bd (lamEnv X t.sc s1.heap.objs.size f c)) _ _
    have kp : ∀ b o, s1.heap.get? b = some o → hp.get? b = some o := fun b o e => sb.extBut b o (Nat.ne_of_lt (Heap.lt_size e)) (Heap.get?_push_of_some _ e)
    have J : Inv (lamCx X X.A X.stack s1 H1 (WE W σ) t.sc f c) [] σ H1 { s1 with heap := hp, toks := s1.toks + ([] : List (Str × Value)).length } :=
      LamX.lam_start2 (X := X.tr pn xe) I1 L I1.env0 hr.hd (Un.kept fun b o e => e) ns kp
    refine PySem.W.kla_codeExpr (wpAny_mono ((hbody _ _ s1 H1 _ f c (hr.deeper _)).run [] _ _ H1 Q J q) (fun v s' hq => ?_) fun e s' hq => hq)
    obtain ⟨w', H', J', rv, q'⟩ := hq
    exact ⟨w', H', J'.os, J'.bare, J'.base, J'.hok, rv, q'⟩
  refine wpAny_call (codeAny_mono go fun r s' hq => ?_)
  cases r with
  | error e => exact passAt tk σ pins H1 s1 e s' I1 hq
  | ok fl =>
    cases fl with
    | ret u => exact I1.after hq
    | next => exact False.elim hq
    | brk => exact False.elim hq
    | cont => exact False.elim hq
theorem takes_lam {A : Around} {outer : List Env} {s : Shared} {H : Hp} {E : XK} {sc : Scope} {f c : Addr} : Takes (lamCx X A outer s H E sc f c) (fun cl d _ H' => E cl d H') := takes_of rfl rfl rfl rfl
end
end Gh
/-! Gh35: for f, d in ((lambda: .., w), ..): try: f(); return False / except X as n: .. -/
namespace Gh
open L2 PyProof.Rows PySem.Spec PySem
open LamX (CodeO TabB LamS lamEnv lamCx)
/-- the table, its code objects in F -/
def TbF (X : Cx) (P : Addr) (H F : Hp) : Prop := F P = none ∧ ∃ ar : Array Value, H P = some (.tbl ar) ∧ TriplesOk ar.toList ∧ ∀ (p : Pos) (cv : Value), codeAmong p ar.toList = some cv → ∃ d, cv = .ref d ∧ F d = some (CodeO d (X.env.qual ++ "<lambda>"))
def LamF (X : Cx) (F : Hp) (t : LamT) (v : V) : Prop := ∃ f c, v = .ref f ∧ F f = some (LamO X t f c) ∧ F c = some (CodeO c (X.env.qual ++ "<lambda>"))
def PairF (X : Cx) (K : PySem.W.Frag) (mg : Glob) (F : Hp) (t : LamT) (d : D) (v : V) : Prop := ∃ b x y, v = .ref b ∧ F b = some (.tup [x, y]) ∧ LamF X F t x ∧ Rep K mg F d y
def PairsF (X : Cx) (K : PySem.W.Frag) (mg : Glob) (F : Hp) : List LamT → List D → List V → Prop
  | [], [], vs => vs = []
  | t :: ts, d :: ds, vs => ∃ v r, vs = v :: r ∧ PairF X K mg F t d v ∧ PairsF X K mg F ts ds r
  | _, _, _ => False
theorem LamF.mono {X : Cx} {F F' : Hp} {t : LamT} {v : V} (h : LamF X F t v) (e : Ex F F') : LamF X F' t v := by
  obtain ⟨f, c, h1, h2, h3⟩ := h
  exact ⟨f, c, h1, e _ _ h2, e _ _ h3⟩
theorem PairF.mono {X : Cx} {K : PySem.W.Frag} {mg : Glob} {F F' : Hp} {t : LamT} {d : D} {v : V} (h : PairF X K mg F t d v) (e : Ex F F') : PairF X K mg F' t d v := by
  obtain ⟨b, x, y, h1, h2, h3, h4⟩ := h
  exact ⟨b, x, y, h1, e _ _ h2, h3.mono e, Rep.mono e d h4⟩
theorem PairsF.mono {X : Cx} {K : PySem.W.Frag} {mg : Glob} {F F' : Hp} (e : Ex F F') : ∀ {ts : List LamT} {ds : List D} {vs : List V}, PairsF X K mg F ts ds vs → PairsF X K mg F' ts ds vs
  | [], [], vs, h => h
  | t :: ts, d :: ds, vs, h => by
    obtain ⟨v, r, h1, h2, h3⟩ := h
    exact ⟨v, r, h1, h2.mono e, h3.mono e⟩
  | [], _ :: _, _, h => h.elim
  | _ :: _, [], _, h => h.elim
theorem PairsF.len {X : Cx} {K : PySem.W.Frag} {mg : Glob} {F : Hp} : ∀ {ts : List LamT} {ds : List D} {vs : List V}, PairsF X K mg F ts ds vs → vs.length = ds.length ∧ ts.length = ds.length
  | [], [], vs, h => by
    have h : vs = [] := h
    subst h
    exact ⟨rfl, rfl⟩
  | t :: ts, d :: ds, vs, h => by
    obtain ⟨v, r, rfl, _, h3⟩ := h
    have := h3.len
    simp only [List.length_cons]
    omega
  | [], _ :: _, _, h => h.elim
  | _ :: _, [], _, h => h.elim
/-- what an object of the store is not -/
theorem Sto.notL {K : PySem.W.Frag} {mg : Glob} {F H : Hp} {L : List Addr} {st : Store} (o : Sto K mg F L H st) {a : Addr} {u : HO} (h : H a = some u) (n : ∀ xs, u ≠ .lst xs) (n2 : ∀ xs, u ≠ .dK xs) (n3 : ∀ C dx fs, u ≠ .ins C dx fs) : a ∉ L := fun hm => by
  obtain ⟨k, hk, e⟩ := List.getElem_of_mem hm
  have h2 : k < st.length := by rw [← o.len]; exact hk
  obtain ⟨_, h4⟩ := o.at_ k a st[k] (by rw [List.getElem?_eq_getElem hk, e]) (List.getElem?_eq_getElem h2)
  have h4 := h4
  cases q : st[k] with
  | lst ds => rw [q] at h4; obtain ⟨vs, z, _⟩ := h4; rw [h] at z; cases z; exact n _ rfl
  | dct ds => rw [q] at h4; obtain ⟨vs, z, _⟩ := h4; rw [h] at z; cases z; exact n2 _ rfl
  | ins c fs => rw [q] at h4; obtain ⟨C, dx, fv, _, z, _⟩ := h4; rw [h] at z; cases z; exact n3 _ _ _ rfl
  | _ => rw [q] at h4; exact h4.elim
theorem Has.ne_tbl {K : PySem.W.Frag} {mg : Glob} {F H : Hp} {a : Addr} {d : D} {ar : Array Value} (h : Has K mg F H a d) (e : H a = some (.tbl ar)) : False := by
  cases d with
  | lst ds => obtain ⟨vs, z, _⟩ := h; rw [e] at z; cases z
  | dct ds => obtain ⟨vs, z, _⟩ := h; rw [e] at z; cases z
  | ins c fs => obtain ⟨C, dx, fv, _, z, _⟩ := h; rw [e] at z; cases z
  | _ => exact h.elim
section
variable {X : Cx} {K : PySem.W.Frag} {mg : Glob} {Γ : Ent} {W : WX} {F H H1 : Hp} {L : List Addr} {σ : St} {ρ : REnv} {st st' : Store} {P c : Addr}
theorem TbF.notL (t : TbF X P H F) (o : Sto K mg F L H st) : P ∉ L := by
  obtain ⟨_, ar, h, _⟩ := t
  exact o.notL h (fun _ z => by cases z) (fun _ z => by cases z) (fun _ _ _ z => by cases z)
theorem TbF.step {F' H' : Hp} {L' : List Addr} (t : TbF X P H F) (o : Sto K mg F L H st) (s : Stp F L H F' L' H') : TbF X P H' F' := by
  have nL := t.notL o
  obtain ⟨n, ar, h, ok, all⟩ := t
  obtain ⟨k1, k2, _⟩ := s.kp P _ h nL
  refine ⟨k2.trans n, ar, k1, ok, fun p cv e => ?_⟩
  obtain ⟨d, e1, e2⟩ := all p cv e
  exact ⟨d, e1, s.ex _ _ e2⟩
/-- the frame behind a lambda's making -/
theorem Rl.lam {f c' : Addr} {u w : HO} (r : Rl K mg Γ F L σ H ρ st) {ar : Array Value} (tP : H P = some (.tbl ar)) (nF : F P = none) (n0 : Γ.H0 P = none) (keep : ∀ b o, b ≠ P → H b = some o → H1 b = some o) (hf : H f = none) (hf1 : H1 f = some u) (hc1 : H1 c' = some w)
    (hc : H c' = none ∨ F c' = some w) : Rl K mg Γ (upd (upd F c' w) f u) L σ H1 ρ st ∧ Ex F (upd (upd F c' w) f u) := by
  have fF : F f = none := r.sto.ex.free hf
  have ex : Ex F (upd (upd F c' w) f u) := fun a o e => by
    rw [upd_ne (ne_of_none e fF)]
    by_cases z : a = c'
    · subst z
      rcases hc with h | h
      · rw [r.sto.ex.free h] at e; cases e
      · rw [upd_same, ← h, e]
    · rw [upd_ne z]; exact e
  have ne : ∀ a, a ∈ L → a ≠ f ∧ a ≠ c' ∧ a ≠ P := fun a ha => by
    obtain ⟨m1, o, m2⟩ := r.sto.mem ha
    refine ⟨ne_of_none m2 hf, fun z => ?_, fun z => ?_⟩
    · subst z
      rcases hc with h | h
      · rw [h] at m2; cases m2
      · rw [m1] at h; cases h
    · exact r.sto.notL tP (fun _ z => by cases z) (fun _ z => by cases z) (fun _ _ _ z => by cases z) (z ▸ ha)
  have at' : ∀ {a : Addr} {d : D}, Has K mg F H a d → Has K mg (upd (upd F c' w) f u) H1 a d := fun {a d} h => h.mono ex fun o e => keep a o (fun z => by subst z; exact h.ne_tbl tP) e
  have fk : ∀ a o, H a = some o → upd (upd F c' w) f u a = F a := fun a o e => by
    rw [upd_ne (ne_of_none e hf)]
    by_cases z : a = c'
    · subst z
      rcases hc with h | h
      · rw [h] at e; cases e
      · rw [upd_same, h]
    · rw [upd_ne z]
  refine ⟨⟨⟨fun a o e => ?_, r.sto.nd, r.sto.len, fun n a d h1 h2 => ?_⟩, ⟨fun a o e => ex _ _ (r.stp.ex a o e), r.stp.pre, fun a o e n => ?_⟩, fun i d h => ?_, fun i d h => ?_, r.sd, fun i cc fs h => ?_, r.len⟩, ex⟩
  · by_cases z : a = f
    · subst z
      rw [upd_same] at e
      cases e
      exact .inl hf1
    · rw [upd_ne z] at e
      by_cases z2 : a = c'
      · subst z2
        rw [upd_same] at e
        cases e
        exact .inl hc1
      · rw [upd_ne z2] at e
        have np : a ≠ P := fun q => by rw [q, nF] at e; cases e
        rcases r.sto.ex a o e with h | ⟨ob, kv, h1, h2⟩
        · exact .inl (keep a o np h)
        · exact .inr ⟨ob, kv, h1, keep a _ np h2⟩
  · obtain ⟨g1, g2⟩ := r.sto.at_ n a d h1 h2
    obtain ⟨m, o, m2⟩ := r.sto.mem (List.mem_of_getElem? h1)
    exact ⟨(fk a o m2).trans g1, at' g2⟩
  · obtain ⟨g1, g2, g3⟩ := r.stp.kp a o e n
    have np : a ≠ P := fun q => by rw [q, n0] at e; cases e
    exact ⟨keep a o np g1, (fk a o g1).trans g2, g3⟩
  · obtain ⟨v, h1, h2⟩ := r.sl i d h
    have := h2.mono (M := []) ex
    rw [List.append_nil] at this
    exact ⟨v, h1, this⟩
  · obtain ⟨a, h1, h2, h3, h4, h5⟩ := r.so i d h
    obtain ⟨o, ho⟩ := h5.there
    exact ⟨a, h1, (fk a o ho).trans h2, h3, h4, at' h5⟩
  · obtain ⟨a, cls, dd, h1, h2, h3⟩ := r.sx i cc fs h
    exact ⟨a, cls, dd, h1, h2, h3.mono ex⟩
/-- (lambda: .., w) -/
def tPair (X : Cx) (K : PySem.W.Frag) (mg : Glob) (Γ : Ent) (P : Addr) (t : LamT) (mw : EDen) : TE := fun σ H Q => ∃ F L ρ st, Rl K mg Γ F L σ H ρ st ∧ TbF X P H F ∧ Γ.H0 P = none ∧ match mw ρ st with
  | .ok d st' => isLoc d = false ∧ ∀ F' L' H' v, Rl K mg Γ F' L' σ H' ρ st' → Ex F F' → TbF X P H' F' → PairF X K mg F' t d v → Q v H'
  | _ => False
theorem pe_pair {t : LamT} {wx : Expr} {mw : EDen} {kt : Nat} {lpos pos : Pos} (TB : TabB X.base X.mg c P) (hcode : X.env.code = .ref c) (hdef : defaultsOf t.ps X.env = ([], [])) (S : LamS X.env.scope t.sc) (hw : PE X wx (teV K mg Γ W0 mw))
    (he : starEach [.Lambda t.ps t.bd t.sc lpos, wx] X.env = (false, eval (.Lambda t.ps t.bd t.sc lpos) X.env) :: starEach [wx] X.env := by rfl) (he2 : starEach [wx] X.env = (false, eval wx X.env) :: starEach [] X.env := by rfl) :
    PE X (.Tuple [.Lambda t.ps t.bd t.sc lpos, wx] kt pos) (tPair X K mg Γ P t mw) := by
  have lam : PE X (.Lambda t.ps t.bd t.sc lpos) (fun σ H Q => ∃ F L ρ st, Rl K mg Γ F L σ H ρ st ∧ TbF X P H F ∧ Γ.H0 P = none ∧ ∀ F' H' v, Rl K mg Γ F' L σ H' ρ st → Ex F F' → TbF X P H' F' → LamF X F' t v → Q v H') := by
    refine ⟨fun pins s σ H Q I ⟨F, L, ρ, st, rl, ⟨nF, ar, tP, ok, all⟩, n0, q⟩ => ?_⟩
    have inH : ∀ {d : Addr}, F d = some (CodeO d (X.env.qual ++ "<lambda>")) → H d = some (CodeO d (X.env.qual ++ "<lambda>")) := fun {d} e => by
      rcases rl.sto.ex d _ e with h | ⟨_, _, z, _⟩
      · exact h
      · cases z
    refine lam_mk I TB hcode tP ok (fun p cv e => ?_) hdef S fun f c' H1 s1 ar' I1 keep hf hf1 hc1 tP1 ok1 old hc cf => ?_
    · obtain ⟨d, e1, e2⟩ := all p cv e
      exact ⟨d, e1, inH e2⟩
    · have hc' : H c' = none ∨ F c' = some (CodeO c' (X.env.qual ++ "<lambda>")) := hc.imp id fun ⟨p, e⟩ => by
        obtain ⟨d, e1, e2⟩ := all p _ e
        cases e1
        exact e2
      obtain ⟨rl1, ex⟩ := rl.lam tP nF n0 keep hf hf1 hc1 hc'
      have fP : P ≠ f := fun z => by rw [← z, tP] at hf; cases hf
      have cP : P ≠ c' := fun z => by rw [← z, tP1] at hc1; cases hc1
      refine ⟨.ref f, H1, I1, rfl, q _ _ _ rl1 ex ⟨by rw [upd_ne fP, upd_ne cP]; exact nF, ar', tP1, ok1, fun p cv e => ?_⟩ ⟨f, c', rfl, upd_same, by rw [upd_ne cf, upd_same]⟩⟩
      rcases old p cv e with h | h
      · obtain ⟨d, e1, e2⟩ := all p cv h
        exact ⟨d, e1, ex _ _ e2⟩
      · exact ⟨c', h, by rw [upd_ne cf, upd_same]⟩
  refine pe_imp (pe_tup (pa_cons lam (pa_cons hw pa_nil he2) he)) fun σ H Q ⟨F, L, ρ, st, rl, tb, n0, q⟩ => ?_
  refine ⟨F, L, ρ, st, rl, tb, n0, fun F1 H1 v rl1 ex1 tb1 lf => ⟨F1, L, ρ, st, rl1, ?_⟩⟩
  split at q
  · rename_i d st' hm
    rw [hm]
    intro F2 L2 H2 s2 o2 w kw
    have rl2 := rl1.step s2 o2
    refine ⟨by show 2 ≤ sizeLine; rw [sizeLine_eq]; omega, fun p np => ?_⟩
    have hs := o2.lay (o := .tup [v, w]) np
    have ex3 : Ex F2 (upd F2 p (.tup [v, w])) := Ex.new (o2.ex.free np)
    exact q.2 _ _ _ _ (rl2.step hs.1 hs.2) (fun a o e => ex3 _ _ (s2.ex _ _ (ex1 _ _ e))) ((tb1.step rl1.sto s2).step o2 hs.1) ⟨p, v, w, rfl, upd_same, (lf.mono s2.ex).mono ex3, Rep.mono ex3 d (VRep.flat kw q.1)⟩
  · exact q.elim
end
end Gh
/-! Gh36: the loop over lambdas, and the law's end with it. -/
namespace Gh
open L2 PyProof.Rows PySem.Spec PySem
open LamX (CodeO TabB LamS lamEnv lamCx)
section
variable {X : Cx} {K : PySem.W.Frag} {mg : Glob} {Γ : Ent} {W : WX} {F H H1 : Hp} {L : List Addr} {σ : St} {ρ : REnv} {st st' : Store} {P c : Addr}
/-- the displays (lambda: .., w), .. -/
def tPairs (X : Cx) (K : PySem.W.Frag) (mg : Glob) (Γ : Ent) (P : Addr) (ts : List LamT) (ms : ADen) : TA := fun σ H Q => ∃ F L ρ st, Rl K mg Γ F L σ H ρ st ∧ TbF X P H F ∧ Γ.H0 P = none ∧ match ms ρ st with
  | .ok ds st' => flatL ds = true ∧ ∀ F' L' H' vs, Rl K mg Γ F' L' σ H' ρ st' → Ex F F' → TbF X P H' F' → PairsF X K mg F' ts ds vs → Q vs H'
  | _ => False
theorem pp_nil : PA X [] (tPairs X K mg Γ P [] aNil) := pa_imp pa_nil fun σ H Q ⟨F, L, ρ, st, rl, tb, n0, q⟩ => q.2 F L H [] rl (Ex.refl F) tb rfl
theorem pp_cons {e : Expr} {es : List Expr} {t : LamT} {ts : List LamT} {m : EDen} {ms : ADen} (h1 : PE X e (tPair X K mg Γ P t m)) (h2 : PA X es (tPairs X K mg Γ P ts ms)) (hs : starEach (e :: es) X.env = (false, eval e X.env) :: starEach es X.env := by rfl) :
    PA X (e :: es) (tPairs X K mg Γ P (t :: ts) (aCons m ms)) := by
  refine pa_imp (pa_cons h1 h2 hs) fun σ H Q ⟨F, L, ρ, st, rl, tb, n0, q⟩ => ⟨F, L, ρ, st, rl, tb, n0, ?_⟩
  rw [r_aCons] at q
  cases hm : m ρ st with
  | bad => rw [hm] at q; exact q.elim
  | exc c fs st2 => rw [hm] at q; exact q.elim
  | ok d st1 =>
    rw [hm, RC.bind_ok] at q
    dsimp only
    cases hms : ms ρ st1 with
    | bad => rw [hms] at q; exact q.elim
    | exc c fs st2 => rw [hms] at q; exact q.elim
    | ok ds st2 =>
      rw [hms] at q
      obtain ⟨q1, q2⟩ := q
      have q1 : flatL (d :: ds) = true := q1
      unfold flatL at q1
      rw [List.all_cons, Bool.and_eq_true] at q1
      refine ⟨by simpa using q1.1, fun F1 L1 H1 v rl1 ex1 tb1 p1 => ⟨F1, L1, ρ, st1, rl1, tb1, n0, ?_⟩⟩
      rw [hms]
      exact ⟨q1.2, fun F2 L2 H2 vs rl2 ex2 tb2 p2 => q2 F2 L2 H2 (v :: vs) rl2 (fun a o e => ex2 _ _ (ex1 _ _ e)) tb2 ⟨v, vs, rfl, p1.mono ex2, p2⟩⟩
/-! ### the try -/
def lamBody (m : EDen) : SDen := fun ρ st => (m ρ st).s ρ fun _ st' => .rt (.bl false) st'
def tCallRet (X : Cx) (K : PySem.W.Frag) (mg : Glob) (Γ : Ent) (i : Nat) (t : LamT) (m : EDen) (W : WX) : L2.TS := fun D σ H => ∃ F L ρ st f, Rl K mg Γ F L σ H ρ st ∧ σ[i]? = some (some f) ∧ LamF X F t f ∧ SPost K mg Γ W D (lamBody m ρ st)
theorem inF {X : Cx} {t : LamT} {f : V} (r : Rl K mg Γ F L σ H ρ st) (h : LamF X F t f) : ∃ a c, f = .ref a ∧ H a = some (LamO X t a c) ∧ H c = some (CodeO c (X.env.qual ++ "<lambda>")) := by
  obtain ⟨a, c, h1, h2, h3⟩ := h
  refine ⟨a, c, h1, ?_, ?_⟩
  · rcases r.sto.ex _ _ h2 with z | ⟨_, _, z, _⟩
    · exact z
    · cases z
  · rcases r.sto.ex _ _ h3 with z | ⟨_, _, z, _⟩
    · exact z
    · cases z
theorem lam_body {t : LamT} {i k j9 : Nat} {a : Str} {m : EDen} {p1 p2 p3 p4 p5 : Pos} {pn : List (Addr × Obj)} {xe : Value → Shared → Prop} (S : LamS X.env.scope t.sc) (hbind : ∀ (q : Str) (cl : List (Str × Addr)) (pm cv ct : Value), bindArgs (PySem.W.kla_fn "<lambda>" q t.ps t.bd t.sc cl pm cv ct) ⟨[], []⟩ = pure [])
    (tk : Takes (X.tr pn xe) W) (hr : Room (k + 1) X.A) (hbody : ∀ (A : Around) (outer : List Env) (s : Shared) (H : Hp) (E : XK) (f c : Addr), Room k (A.deeper (lamEnv X t.sc s.heap.objs.size f c)) → PE (lamCx X A outer s H E t.sc f c) t.bd (teV K mg Γ (fun cl d _ H' => E cl d H') m))
    (hN : X.N[i]? = some a := by rfl) (hv : Vis X.env.scope a := by first | exact Or.inl rfl | exact Or.inr (Or.inl rfl) | exact Or.inr (Or.inr rfl)) (hd : (a == ("__debug__" : Str)) = false := by decide) (hcd : (a == ("__classdict__" : Str)) = false := by decide)
    (hsw : swapsWith (.Call (.Name a p1) [] [] p2) none p3.line (X.tr pn xe).env = pure false := by rfl) :
    PSs (X.tr pn xe) [.Expr (.Call (.Name a p1) [] [] p2) p3, .Return (some (.Constant (.bool false) j9 p4)) p5] (tCallRet X K mg Γ i t m W) := by
  have act := pe_lam (W := W) (p1 := p1) (p2 := p2) (tb := fun E => teV K mg Γ (fun cl d _ H' => E cl d H') m) S hbind tk hr hbody hN hv hd hcd
  refine pss_imp (pss_cons (ps_expr act hsw) (pss_one (ps_ret pe_bl))) fun D σ H ⟨F, L, ρ, st, f, rl, hσ, lf, q⟩ => ?_
  obtain ⟨a', c', rfl, h1, h2⟩ := inF rl lf
  refine ⟨a', c', hσ, h1, h2, F, L, ρ, st, rl, ?_⟩
  unfold lamBody at q
  cases hm : m ρ st with
  | bad => rw [hm] at q; exact q.elim
  | exc c fs st2 =>
    rw [hm] at q
    exact fun F' L' H' cls dd s o x => q F' L' σ H' cls dd (rl.step s o) x
  | ok d st2 =>
    rw [hm] at q
    exact fun F' L' H' s o v kv => q F' L' σ H' ρ (.bl false) (rl.step s o) (.inr rfl)
/-- behind a try with a name: what is wished of its body -/
theorem try_post {D' : Ends} {i : Nat} {x : Str} {cv : Value} {all cs : List Str} {mb mh : SDen} (hx0 : Γ.x = none) (ha : ExcAll K mg cv all cs) (q : SPost K mg Γ W D' (sTryAs i all cs mb mh ρ st)) :
    SPost K mg Γ (wAs K cv i (fun a cls d => tsG K mg { Γ with x := some (i, a, cls, d) } W0 mh) W D') D' (mb ρ st) := by
  unfold sTryAs at q
  cases hm : mb ρ st with
  | exc c' fs ρ' st' =>
    rw [hm] at q
    dsimp only at q
    intro F' L' σ' H' cls dd rl' ex
    split at q
    · rename_i hall
      obtain ⟨C, d, fv, h1, rfl, rfl, h4, h5⟩ := id ex
      refine ⟨decide (c' ∈ cs), ha c' hall C h1, fun hy a na => ?_, fun hn => ?_⟩
      · have hin : c' ∈ cs := of_decide_eq_true hy
        rw [if_pos hin] at q
        have up : ∀ {F L σ H ρ st}, Rl K mg Γ F L σ H ρ st → Rl K mg { Γ with x := some (i, a, .ref C, some d) } F L σ H ρ st := fun r =>
          ⟨r.sto, r.stp, r.sl, r.so, r.sd, fun j c fs h => (by
            obtain ⟨_, _, _, z, _⟩ := r.sx j c fs h
            rw [hx0] at z
            cases z), r.len⟩
        have rl2 := (up rl').set i (.exc c' fs) (some (.ref a)) (fun e q => by cases q) (fun e q => by cases q) (fun c2 fs2 q => by cases q; exact ⟨a, _, _, rfl, rfl, ex⟩)
        have down : ∀ {F L σ H ρ st}, Rl K mg { Γ with x := some (i, a, .ref C, some d) } F L σ H ρ st → Rl K mg Γ F L (σ.set i none) H (ρ.set i .un) st := fun r => by
          have r' := r.setU i none
          refine ⟨r'.sto, r'.stp, r'.sl, r'.so, r'.sd, fun j c fs h => ?_, r'.len⟩
          obtain ⟨_, _, _, z, _⟩ := r'.sx j c fs h
          cases z
          rcases set_get h with ⟨_, z, _⟩ | ⟨z, _⟩
          · cases z
          · exact absurd rfl z
        refine ⟨F', L', _, st', rl2, ?_⟩
        cases hh : mh (ρ'.set i (.exc c' fs)) st' with
        | nx ρ2 st2 => rw [hh] at q; exact fun F3 L3 σ3 H3 r3 => q F3 L3 _ H3 (down r3)
        | bk ρ2 st2 => rw [hh] at q; exact fun F3 L3 σ3 H3 r3 => q F3 L3 _ H3 (down r3)
        | ct ρ2 st2 => rw [hh] at q; exact fun F3 L3 σ3 H3 r3 => q F3 L3 _ H3 (down r3)
        | rt d2 st2 => rw [hh] at q; exact fun F3 L3 σ3 H3 ρ3 v r3 kv => q F3 L3 _ H3 _ v (down r3) kv
        | exc c2 fs2 ρ2 st2 => rw [hh] at q; exact q.elim
        | bad => rw [hh] at q; exact q.elim
      · rw [if_neg (of_decide_eq_false hn)] at q
        exact q F' L' σ' H' _ _ rl' ex
    · exact q.elim
  | _ => rw [hm] at q; exact q
def tLamTry (X : Cx) (K : PySem.W.Frag) (mg : Glob) (Γ : Ent) (i ie : Nat) (all cs : List Str) (t : LamT) (m : EDen) (mh : SDen) : L2.TS := fun D σ H => ∃ F L ρ st f, Rl K mg Γ F L σ H ρ st ∧ σ[i]? = some (some f) ∧ LamF X F t f ∧ SPost K mg Γ W0 D (sTryAs ie all cs (lamBody m) mh ρ st)
theorem lam_try {t : LamT} {i ie : Nat} {n x : Str} {all cs : List Str} {body suite : List Stmt} {b₀ : Stmt} {pos pos' np : Pos} {m : EDen} {mh : SDen} (T : TEm X.K X.mg x all cs) (hx0 : Γ.x = none) (hN : X.N.Nodup)
    (hb : ∀ (W : WX) (pn : List (Addr × Obj)) (xe : Value → Shared → Prop), Takes (X.tr pn xe) W → PassesOwn (model X.prog X.w) X.A X.env xe → PSs (X.tr pn xe) body (tCallRet X X.K X.mg Γ i t m W))
    (hsu : ∀ (a : Addr) (oe : Obj) (cls : Value) (d : Option Addr) (pn : List (Addr × Obj)), Zc cls d oe → (∃ vs, oe.data = .fields vs) → PSs (X.suite a ((a, oe) :: pn)) (b₀ :: suite) (tsG X.K X.mg { Γ with x := some (ie, a, cls, d) } W0 mh))
    (hs : X.stack = X.env :: X.outer := by rfl) (hf : X.env.frame = some X.env.locals := by rfl) (hg : Gl X x := by rfl) (hdb : (x == ("__debug__" : Str)) = false := by decide)
    (hi : X.N[ie]? = some n := by rfl) (hln : X.env.kindOf n = some .local := by rfl) :
    PS X (.Try body [.ExceptHandler (some (.Name x np)) (some n) (b₀ :: suite) pos'] [] [] pos) (tLamTry X X.K X.mg Γ i ie all cs t m mh) := by
  obtain ⟨C, h1, h2⟩ := T
  refine ps_imp (ps_try_as (ts := fun a cls d => tsG X.K X.mg { Γ with x := some (ie, a, cls, d) } W0 mh) (tb := fun W => tCallRet X X.K X.mg Γ i t m W) hs hf hN hi hln ⟨hg, hdb, .inl h1⟩ takesW hb hsu) fun D' σ H ⟨F, L, ρ, st, f, rl, hσ, lf, q⟩ => ⟨F, L, ρ, st, f, rl, hσ, lf, ?_⟩
  exact try_post (x := x) hx0 h2 q
/-! ### the loop -/
def goLams (i j ie : Nat) (all cs : List Str) (mh : SDen) : List EDen → List D → REnv → Store → SR
  | m :: ms, d :: ds, ρ, st => if i < ρ.length then (match sTryAs ie all cs (lamBody m) mh ((ρ.set i .un).set j (.val d)) st with
    | .nx ρ2 st2 => goLams i j ie all cs mh ms ds ρ2 st2
    | .ct ρ2 st2 => goLams i j ie all cs mh ms ds ρ2 st2
    | .bk ρ2 st2 => .nx ρ2 st2
    | r => r) else .bad
  | [], [], ρ, st => .nx ρ st
  | _, _, _, _ => .bad
def sLams (i j ie : Nat) (all cs : List Str) (ms : List EDen) (mws : ADen) (mh : SDen) : SDen := fun ρ st => match mws ρ st with
  | .ok ds st1 => if flatL ds = true ∧ ds.length < 1000 then goLams i j ie all cs mh ms ds ρ st1 else .bad
  | _ => .bad
/-- each try of the loop by its lambda -/
def AllTry (X : Cx) (st0 : Stmt) (K : PySem.W.Frag) (mg : Glob) (Γ : Ent) (i ie : Nat) (all cs : List Str) (mh : SDen) : List LamT → List EDen → Prop
  | t :: ts, m :: ms => PS X st0 (tLamTry X K mg Γ i ie all cs t m mh) ∧ AllTry X st0 K mg Γ i ie all cs mh ts ms
  | [], [] => True
  | _, _ => False
def tLamTurn (X : Cx) (K : PySem.W.Frag) (mg : Glob) (Γ : Ent) (i ie : Nat) (all cs : List Str) (mh : SDen) (ts : List LamT) (ms : List EDen) : L2.TS := fun D σ H => ∃ (k : Nat) (t : LamT) (m : EDen), ts[k]? = some t ∧ ms[k]? = some m ∧ tLamTry X K mg Γ i ie all cs t m mh D σ H
theorem AllTry.run {st0 : Stmt} {i ie : Nat} {all cs : List Str} {mh : SDen} : ∀ {ts : List LamT} {ms : List EDen}, AllTry X st0 K mg Γ i ie all cs mh ts ms → PS X st0 (tLamTurn X K mg Γ i ie all cs mh ts ms)
  | t :: ts, m :: ms, h => by
    have ih := h.2.run
    refine ⟨fun pins s σ H D I ⟨k, t', m', h1, h2, q⟩ => ?_⟩
    cases k with
    | zero =>
      cases h1
      cases h2
      exact h.1.run pins s σ H D I q
    | succ k => exact ih.run pins s σ H D I ⟨k, t', m', by simpa using h1, by simpa using h2, q⟩
  | [], [], _ => ⟨fun pins s σ H D I ⟨k, t', m', h1, h2, q⟩ => by cases h1⟩
  | [], _ :: _, h => h.elim
  | _ :: _, [], h => h.elim
theorem AllTry.len {st0 : Stmt} {i ie : Nat} {all cs : List Str} {mh : SDen} : ∀ {ts : List LamT} {ms : List EDen}, AllTry X st0 K mg Γ i ie all cs mh ts ms → ts.length = ms.length
  | t :: ts, m :: ms, h => by
    have := h.2.len
    simp only [List.length_cons]
    omega
  | [], [], _ => rfl
  | [], _ :: _, h => h.elim
  | _ :: _, [], h => h.elim
theorem pairs_at {ts : List LamT} : ∀ {ts : List LamT} {ds : List D} {vs : List V} {k : Nat} {v : V}, PairsF X K mg F ts ds vs → vs[k]? = some v → ∃ t d, ts[k]? = some t ∧ ds[k]? = some d ∧ PairF X K mg F t d v
  | [], [], vs, k, v, h, e => by
    have h : vs = [] := h
    subst h
    simp at e
  | t :: ts, d :: ds, vs, 0, v, h, e => by
    obtain ⟨u, r, rfl, h2, _⟩ := h
    cases e
    exact ⟨t, d, rfl, rfl, h2⟩
  | t :: ts, d :: ds, vs, k + 1, v, h, e => by
    obtain ⟨u, r, rfl, _, h3⟩ := h
    obtain ⟨t', d', e1, e2, e3⟩ := pairs_at (ts := ts) h3 (by simpa using e)
    exact ⟨t', d', by simpa using e1, by simpa using e2, e3⟩
  | [], _ :: _, _, _, _, h, _ => h.elim
  | _ :: _, [], _, _, _, h, _ => h.elim
theorem drop_at {α : Type} {l : List α} {k : Nat} {x : α} (h : l[k]? = some x) : l.drop k = x :: l.drop (k + 1) := by
  obtain ⟨h1, h2⟩ := List.getElem?_eq_some_iff.mp h
  rw [List.drop_eq_getElem_cons h1, h2]
/-- the whole loop; what is wished at its start -/
def tLamFor (X : Cx) (K : PySem.W.Frag) (mg : Glob) (Γ : Ent) (P : Addr) (i j ie : Nat) (all cs : List Str) (ms : List EDen) (mws : ADen) (mh : SDen) : L2.TS := fun D σ H => ∃ F L ρ st, Rl K mg Γ F L σ H ρ st ∧ TbF X P H F ∧ Γ.H0 P = none ∧ SPost K mg Γ W0 D (sLams i j ie all cs ms mws mh ρ st)
theorem ps_lams {i j ie : Nat} {all cs : List Str} {ts : List LamT} {ms : List EDen} {mws : ADen} {mh : SDen} {es : List Expr} {x y : Str} {px py tpos pos2 pos : Pos} {kt k2 : Nat} {st0 : Stmt} (hp : PassesOwn (model X.prog X.w) X.A X.env X.xe) (hc : X.calm = true) (hN : X.N.Nodup)
    (he : PA X es (tPairs X X.K mg Γ P ts mws)) (hb : ∀ Γ' : Ent, Γ'.x = Γ.x → AllTry X st0 X.K mg Γ' i ie all cs mh ts ms) (hi : X.N[i]? = some x := by rfl) (hj : X.N[j]? = some y := by rfl) (hij : i ≠ j := by decide)
    (lx : Loc X.env.scope x := by first | exact Or.inl rfl | exact Or.inr rfl) (ly : Loc X.env.scope y := by first | exact Or.inl rfl | exact Or.inr rfl)
    (fx : X.fn x = true ∨ X.env.scope.names.lookup x = some .local := by first | exact .inl rfl | exact .inr rfl | assumption) (fy : X.fn y = true ∨ X.env.scope.names.lookup y = some .local := by first | exact .inl rfl | exact .inr rfl | assumption)
    (hn : (assignEach [.Name x px, .Name y py] X.env).length = 2 := by rfl) (hst : (assignEach [.Name x px, .Name y py] X.env).findIdx? (·.1) = none := by rfl)
    (h1 : (assignEach [.Name x px, .Name y py] X.env).map (·.2) = assign (.Name x px) X.env :: (assignEach [.Name y py] X.env).map (·.2) := by rfl) (h2 : (assignEach [.Name y py] X.env).map (·.2) = assign (.Name y py) X.env :: (assignEach ([] : List Expr) X.env).map (·.2) := by rfl)
    (hs : ∀ x, foldedSetIterable (.Tuple es k2 pos2) X.env x = pure x := by intro _; rfl) :
    PS X (.For (.Tuple [.Name x px, .Name y py] kt tpos) (.Tuple es k2 pos2) [st0] [] pos) (tLamFor X X.K mg Γ P i j ie all cs ms mws mh) := by
  have g : PG X (.Tuple [.Name x px, .Name y py] kt tpos) (gTup X.K 2 (gCons (gName i) (gCons (gName j) gNil))) := pg_tup hc (pgs_cons (pg_name hN hi lx fx) (pgs_cons (pg_name hN hj ly fy) pgs_nil h2) h1) hn hst
  have b : PSs X [st0] (fun D σ H => ∃ Γ' : Ent, Γ'.x = Γ.x ∧ tLamTurn X X.K mg Γ' i ie all cs mh ts ms D σ H) := pss_one ⟨fun pins s σ H D I ⟨Γ', e, q⟩ => (hb Γ' e).run.run pins s σ H D I q⟩
  refine ps_imp (ps_for hp hc (pi_tup (tg := .Tuple [.Name x px, .Name y py] kt tpos) (pe_tup (pos := pos2) (x1 := k2) he)) g b hs) fun D' σ H ⟨F, L, ρ, st, rl, tb, n0, q⟩ => ?_
  refine ⟨F, L, ρ, st, rl, tb, n0, ?_⟩
  unfold sLams at q
  cases hw : mws ρ st with
  | bad => rw [hw] at q; exact q.elim
  | exc c fs st2 => rw [hw] at q; exact q.elim
  | ok ds st1 =>
    rw [hw] at q
    dsimp only at q ⊢
    split at q
    · rename_i hf
      refine ⟨hf.1, fun F1 L1 H1 vs rl1 ex1 tb1 pr => ?_⟩
      obtain ⟨e1, e2⟩ := pr.len
      have e3 := (hb Γ rfl).len
      refine ⟨by rw [e1, sizeLine_eq]; omega, fun p np => ⟨p, rfl, ⟨vs, .inl (.inl upd_same)⟩, ?_⟩⟩
      have ly := rl1.sto.lay (o := .tup vs) np
      have rl2 := rl1.step ly.1 ly.2
      have ex3 : Ex F1 (upd F1 p (.tup vs)) := Ex.new (rl1.sto.ex.free np)
      have pr2 := pr.mono ex3
      have an := rl2.anchor
      have qa := q.anchor rl2
      obtain ⟨F2, hF2⟩ : ∃ F2, F2 = upd F1 p (.tup vs) := ⟨_, rfl⟩
      rw [← hF2] at an qa pr2
      have pF : F2 p = some (.tup vs) := by rw [hF2]; exact upd_same
      refine ⟨fun a m σ' H' => m + a = vs.length ∧ ∃ F' L' ρ' st', Rl X.K mg (Γ.at F2) F' L' σ' H' ρ' st' ∧ SPost X.K mg (Γ.at F2) W0 D' (goLams i j ie all cs mh (ms.drop a) (ds.drop a) ρ' st'), ⟨vs.length, rfl, F2, L1, ρ, st1, an, qa⟩, ?_⟩
      rintro a m σ' H' ⟨hm, F', L', ρ', st', rl', q'⟩
      have inH : H' p = some (.tup vs) := by
        rcases rl'.sto.ex _ _ (rl'.stp.ex _ _ pF) with z | ⟨_, _, z, _⟩
        · exact z
        · cases z
      have sq : SqT X.K H' p vs := .inl (.inl inH)
      by_cases ha : a < vs.length
      · right
        have hv : vs[a]? = some vs[a] := List.getElem?_eq_getElem ha
        obtain ⟨t, d, k1, k2, pa⟩ := pairs_at (ts := ts) (pr2.mono rl'.stp.ex) hv
        obtain ⟨b', u, w, eb, eF, lf, rw_⟩ := pa
        have hmsl : a < ms.length := by omega
        have k3 : ms[a]? = some ms[a] := List.getElem?_eq_getElem hmsl
        rw [drop_at k3, drop_at k2] at q'
        refine ⟨⟨vs, _, sq, hv⟩, ?_⟩
        refine ⟨fun σ2 H2 => (m - 1) + (a + 1) = vs.length ∧ ∃ F' L' ρ' st', Rl X.K mg (Γ.at F2) F' L' σ2 H2 ρ' st' ∧ SPost X.K mg (Γ.at F2) W0 D' (goLams i j ie all cs mh (ms.drop (a + 1)) (ds.drop (a + 1)) ρ' st'), fun σ2 H2 h => ⟨m - 1, by omega, h⟩, ?_⟩
        rintro xx H2 ⟨rfl, yl⟩
        have ex : vs[a] = xx := by
          have := yl vs sq
          rw [hv] at this
          exact Option.some.inj this
        rw [eb] at ex
        subst ex
        have inHb : H2 b' = some (.tup [u, w]) := by
          rcases rl'.sto.ex _ _ eF with z | ⟨_, _, z, _⟩
          · exact z
          · cases z
        refine ⟨b', [u, w], rfl, .inl (.inl inHb), rfl, u, [w], rfl, w, [], rfl, rfl, Γ.at F2, rfl, a, t, ms[a], k1, k3, ?_⟩
        have rl3 := (rl'.setU i (some u)).setV (d := d) (v := w) j (.inr rw_)
        have q' : SPost X.K mg (Γ.at F2) W0 D' (if i < ρ'.length then (match sTryAs ie all cs (lamBody ms[a]) mh ((ρ'.set i .un).set j (.val d)) st' with
            | .nx ρ2 st2 => goLams i j ie all cs mh (ms.drop (a + 1)) (ds.drop (a + 1)) ρ2 st2
            | .ct ρ2 st2 => goLams i j ie all cs mh (ms.drop (a + 1)) (ds.drop (a + 1)) ρ2 st2
            | .bk ρ2 st2 => .nx ρ2 st2
            | r => r) else .bad) := q'
        by_cases hlen : i < ρ'.length
        case neg => rw [if_neg hlen] at q'; exact q'.elim
        rw [if_pos hlen] at q'
        have hlen : i < σ'.length := by rw [← rl'.len]; exact hlen
        refine ⟨F', L', _, st', u, rl3, ?_, lf, ?_⟩
        · rw [List.getElem?_set_ne (Ne.symm hij), List.getElem?_set_self hlen]
        · cases ht : sTryAs ie all cs (lamBody ms[a]) mh ((ρ'.set i .un).set j (.val d)) st' with
          | nx ρ2 st2 => rw [ht] at q'; exact fun F3 L3 σ3 H3 r3 => ⟨by omega, F3, L3, ρ2, st2, r3, q'⟩
          | ct ρ2 st2 => rw [ht] at q'; exact fun F3 L3 σ3 H3 r3 => ⟨by omega, F3, L3, ρ2, st2, r3, q'⟩
          | bk ρ2 st2 => rw [ht] at q'; exact q'
          | rt d2 st2 => rw [ht] at q'; exact q'
          | exc c2 fs2 ρ2 st2 => rw [ht] at q'; exact q'
          | bad => rw [ht] at q'; exact q'.elim
      · left
        have z1 : ms.drop a = [] := List.drop_eq_nil_iff.mpr (by omega)
        have z2 : ds.drop a = [] := List.drop_eq_nil_iff.mpr (by omega)
        rw [z1, z2] at q'
        exact ⟨⟨vs, sq, by omega⟩, q' F' L' σ' H' rl'⟩
    · exact q.elim
end
end Gh
/-! Gh37: the end of a law whose last loop is over lambdas. -/
namespace Gh
open L2 PyProof.Rows PySem.Spec PySem
open LamX (CodeO TabB LamS lamEnv lamCx OwnTab LawAtS)
abbrev Ent.hid (Γ : Ent) (P : Addr) : Ent := { Γ with H0 := fun a => if a = P then none else Γ.H0 a }
section
variable {X : Cx} {K : PySem.W.Frag} {mg : Glob} {Γ : Ent} {W : WX} {F H : Hp} {L : List Addr} {σ : St} {ρ : REnv} {st : Store} {P : Addr} {sa sb : SDen} {st0 : Stmt} {rest : List Stmt} {u : L2.TS}
theorem Rl.hid (r : Rl K mg Γ F L σ H ρ st) (P : Addr) : Rl K mg (Γ.hid P) F L σ H ρ st := by
  refine ⟨r.sto, ⟨r.stp.ex, r.stp.pre, fun a o h n => ?_⟩, r.sl, fun i d h => ?_, r.sd, r.sx, r.len⟩
  · have h : (if a = P then none else Γ.H0 a) = some o := h
    by_cases z : a = P
    · rw [if_pos z] at h; cases h
    · rw [if_neg z] at h
      exact r.stp.kp a o h n
  · obtain ⟨a, h1, h2, h3, h4, h5⟩ := r.so i d h
    refine ⟨a, h1, h2, h3, ?_, h5⟩
    show (if a = P then none else Γ.H0 a) = none
    split
    · rfl
    · exact h4
/-- some statements, then what u tells -/
def tsT (K : PySem.W.Frag) (mg : Glob) (Γ : Ent) (W : WX) (m : SDen) (u : L2.TS) : L2.TS := fun D σ H => tsG K mg Γ W m { D with nx := fun σ' H' => u D σ' H' } σ H
theorem c_end (h : PSs X rest u) : PSs X rest (tsT K mg Γ W sNil u) := pss_imp h fun D σ H ⟨F, L, ρ, st, rl, q⟩ => q F L σ H rl
theorem c_cons (h1 : PS X st0 (tsG K mg Γ W sa)) (h2 : PSs X rest (tsT K mg Γ W sb u)) : PSs X (st0 :: rest) (tsT K mg Γ W (sSeq sa sb) u) := by
  refine pss_imp (pss_cons h1 h2) fun D σ H ⟨F, L, ρ, st, rl, q⟩ => ⟨F, L, ρ, st, rl, ?_⟩
  unfold sSeq at q
  cases h : sa ρ st with
  | nx ρ' st' => rw [h] at q; exact fun F' L' σ' H' rl' => ⟨F', L', ρ', st', rl', q⟩
  | _ => rw [h] at q; exact q
/-- the tail: the loop over lambdas, return True -/
def tTail (X : Cx) (K : PySem.W.Frag) (mg : Glob) (Γ : Ent) (P : Addr) (i j ie : Nat) (all cs : List Str) (ms : List EDen) (mws : ADen) (mh : SDen) : L2.TS := tSeq (tLamFor X K mg (Γ.hid P) P i j ie all cs ms mws mh) (tsG K mg (Γ.hid P) W0 (sRet (eC (.bl true))))
theorem t_tail {i j ie : Nat} {all cs : List Str} {ms : List EDen} {mws : ADen} {mh : SDen} {s1 s2 : Stmt} (h1 : PS X s1 (tLamFor X K mg (Γ.hid P) P i j ie all cs ms mws mh)) (h2 : PS X s2 (tsG K mg (Γ.hid P) W0 (sRet (eC (.bl true))))) : PSs X [s1, s2] (tTail X K mg Γ P i j ie all cs ms mws mh) := pss_cons h1 (pss_one h2)
theorem tail_go {D : Ends} {i j ie : Nat} {all cs : List Str} {ms : List EDen} {mws : ADen} {mh bp : SDen} {s2 : Store} (hF : Γ.F0 P = none) (hL : Γ.L0 = []) (hH : Γ.H0 P = some (.tbl #[])) (rl : Rl K mg Γ F L σ H ρ st) (hD : ∀ H', D.rt (.bl true) H')
    (hp : sSeq bp (sSeq (sLams i j ie all cs ms mws mh) (sRet (eC (.bl true)))) ρ st = .rt (.bl true) s2) : tsT K mg Γ W bp (tTail X K mg Γ P i j ie all cs ms mws mh) D σ H := by
  refine ⟨F, L, ρ, st, rl, ?_⟩
  unfold sSeq at hp
  cases h : bp ρ st with
  | nx ρ1 st1 =>
    rw [h] at hp
    dsimp only at hp
    intro F1 L1 σ1 H1 rl1
    obtain ⟨k1, k2, k3⟩ := rl1.stp.kp P _ hH (by rw [hL]; simp)
    refine ⟨F1, L1, ρ1, st1, rl1.hid P, ⟨k2.trans hF, #[], k1, True.intro, fun p cv e => ?_⟩, if_pos rfl, ?_⟩
    · have e : codeAmong p [] = some cv := e
      simp [codeAmong] at e
    · cases h2 : sLams i j ie all cs ms mws mh ρ1 st1 with
      | nx ρ2 st2 => exact fun F2 L2 σ2 H2 rl2 => ⟨F2, L2, ρ2, st2, rl2, fun F3 L3 σ3 H3 ρ3 v rl3 kv => by rw [kv.bl]; exact hD H3⟩
      | rt d st2 =>
        rw [h2] at hp
        cases hp
        exact fun F3 L3 σ3 H3 ρ3 v rl3 kv => by rw [kv.bl]; exact hD H3
      | bk ρ2 st2 => rw [h2] at hp; cases hp
      | ct ρ2 st2 => rw [h2] at hp; cases hp
      | exc c fs ρ2 st2 => rw [h2] at hp; cases hp
      | bad => rw [h2] at hp; cases hp
  | rt d st2 =>
    rw [h] at hp
    cases hp
    exact fun F3 L3 σ3 H3 ρ3 v rl3 kv => by rw [kv.bl]; exact hD H3
  | bk ρ2 st2 => rw [h] at hp; cases hp
  | ct ρ2 st2 => rw [h] at hp; cases hp
  | exc c fs ρ2 st2 => rw [h] at hp; cases hp
  | bad => rw [h] at hp; cases hp
end
/-- the k-th lambda of a loop's display -/
def lamAt (st : Stmt) (k : Nat) : Option LamT := match st with
  | .For _ (.Tuple es _ _) _ _ _ => (match es[k]? with
    | some (.Tuple (.Lambda ps bd sc _ :: _) _ _) => some ⟨ps, bd, sc⟩
    | _ => none)
  | _ => none
/-! ### law's entry -/
/-- a list of at most 63 ints is handed in, the table at P is empty: True comes out -/
def spLawT (K : PySem.W.Frag) (P : Addr) : Sp := fun vs H Q _ => ∃ (a : Addr) (ns : List Int), vs = [.ref a] ∧ SqL K H a (ns.map V.int) ∧ ns.length ≤ 63 ∧ H P = some (.tbl #[]) ∧ ∀ H', Q (.bl true) H'
/-- what the top has written of law, with its code object and its table -/
def TL (K : PySem.W.Frag) (mg : Glob) (x qual : Str) (st : Stmt) (c P : Addr) : Prop := ∃ f oc od kV doc pm an ct osl, mg x = some (.ref f) ∧ K.lookup f = some ⟨oc, od, .func (PySem.W.fnOf x qual (defArgs st) (defBody st) (defScope st) .none kV doc pm an (.ref c) ct), osl⟩ ∧
  PySem.W.codeIn K (.ref c) qual = true ∧ PySem.W.keepIn K (.ref f) = true ∧ PySem.W.codeHdIn K c P = true ∧ K.lookup P = none
theorem tl_mk {K : PySem.W.Frag} {mg : Glob} {h : Heap} {x qual : Str} {st : Stmt} {f c P : Addr} {oc : Value} {od an : Option Addr} {osl : Array (Option Value)} {kV doc pm ct : Value} (X : K.In h) (G : h.Ns mainGlobals mg) (a : PySem.W.nsIn K mainGlobals x = some (some (.ref f))) {e9 : Value} {d9 : Option Addr} {vs9 : Array Value} {s9 : Array (Option Value)}
    (l : K.lookup f = some ⟨oc, od, .func (PySem.W.fnOf x qual (defArgs st) (defBody st) (defScope st) .none kV doc pm an (.ref c) ct), osl⟩) (d : PySem.W.codeIn K (.ref c) qual = true) (k : PySem.W.keepIn K (.ref f) = true) (_lc : K.lookup c = some ⟨e9, d9, .fields vs9, s9⟩) (_lp : vs9[11]? = some (.ref P)) (hd : PySem.W.codeHdIn K c P = true) (no : K.lookup P = none) : TL K mg x qual st c P :=
  ⟨f, oc, od, kV, doc, pm, an, ct, osl, PySem.W.mg_of X G a, l, d, k, hd, no⟩
theorem law_fnT {Pr : Program} {w : World} {K : PySem.W.Frag} {mg : Glob} {base : Heap} {x qual : Str} {st : Stmt} {c P f : Addr} {oc : Value} {od an : Option Addr} {osl : Array (Option Value)} {kV doc pm ct : Value} {N : List Str} {k nl i j ie : Nat} {all cs : List Str} {ms : List EDen} {mws : ADen} {mh bp : SDen}
    (l : K.lookup f = some ⟨oc, od, .func (PySem.W.fnOf x qual (defArgs st) (defBody st) (defScope st) .none kV doc pm an (.ref c) ct), osl⟩) (hcd : PySem.W.codeIn K (.ref c) qual = true) (S : FnScope N ["script"] (defScope st)) (hnl : nl = N.length)
    (hp : ∀ ns : List Int, ns.length ≤ 63 → ∃ s2, sSeq bp (sSeq (sLams i j ie all cs ms mws mh) (sRet (eC (.bl true)))) (.val (.scr (ns.map D.int)) :: List.replicate (nl - 1) Sl.un) [] = .rt (.bl true) s2)
    (hb : ∀ (A : Around) (outer : List Env) (s : Shared) (H : Hp) (E : XK), Room k (A.deeper (envOfC qual (defScope st) s.heap.objs.size f (.ref c))) → ∀ Γ : Ent, Γ.x = none →
      PSs (cxOf (L2.CX Pr w) Pr w K mg base N qual (defScope st) f (.ref c) A outer s H E) (defBody st) (tsT K mg Γ (fun c d _ H' => E c d H') bp (tTail (cxOf (L2.CX Pr w) Pr w K mg base N qual (defScope st) f (.ref c) A outer s H E) K mg Γ P i j ie all cs ms mws mh))) :
    FnOk Pr w K mg base (L2.CX Pr w) (k + 1) f (PySem.W.fnOf x qual (defArgs st) (defBody st) (defScope st) .none kV doc pm an (.ref c) ct) ["script"] (spLawT K P) := by
  refine fn_of l hcd S (fun vs H Q E h => ?_) fun A outer s H vs Q E hr h => ?_
  · obtain ⟨a, ns, rfl, _⟩ := h
    rfl
  · obtain ⟨a, ns, rfl, h1, h2, h3, h4⟩ := h
    have sqF : SqL K (fun b => if b = P then none else H b) a (ns.map V.int) := by
      rcases h1 with (h1 | ⟨o, h1⟩) | h1
      · have aP : a ≠ P := fun z => by rw [z, h3] at h1; cases h1
        exact .inl (.inl ((if_neg aP).trans h1))
      · have aP : a ≠ P := fun z => by rw [z, h3] at h1; cases h1
        exact .inl (.inr ⟨o, (if_neg aP).trans h1⟩)
      · exact .inr h1
    refine ⟨_, hb A outer s H E hr ⟨fun b => if b = P then none else H b, [], H, none⟩ rfl, ?_⟩
    obtain ⟨s2, hp⟩ := hp ns h2
    refine tail_go (F := fun b => if b = P then none else H b) (L := []) (if_pos rfl) rfl h3 ?_ h4 hp
    have sto : Sto K mg (fun b => if b = P then none else H b) [] H [] := ⟨fun b o e => by
      have e : (if b = P then none else H b) = some o := e
      split at e
      · cases e
      · exact .inl e, List.nodup_nil, rfl, fun n a d e => by cases e⟩
    exact Rl.start (mg := mg) (N := N) (nl := nl) (ds := [.scr (ns.map D.int)]) (vs := [.ref a]) sto ⟨_, [], rfl, .inr ⟨a, _, rfl, sqF, repl_ints ns⟩, rfl⟩ hnl
/-- law's own entry, with its table -/
def LawBT (Pr : Program) (w : World) (K : PySem.W.Frag) (mg : Glob) (k : Nat) (x : Str) : Prop := ∃ f fd c P oc od osl, mg x = some (.ref f) ∧ (∀ (s : Shared) (u : Value), BindsTo s fd ⟨[u], []⟩ [("script", u)]) ∧ K.lookup f = some ⟨oc, od, .func fd, osl⟩ ∧ fd.code = .ref c ∧
  PySem.W.codeHdIn K c P = true ∧ K.lookup P = none ∧ ∀ base : Heap, K.In base → base.Ns mainGlobals mg → TabB base mg c P → FnOk Pr w K mg base (L2.CX Pr w) k f fd ["script"] (spLawT K P)
theorem law_walkT {l : PySem.W.OpenLaw} {k : Nat} {q : Program} {loose : List Str} {XP : (Str → Option Value) → Heap → Prop} {YP : World → Heap → Prop} {d : DefRec} {K : Params → PySem.W.Frag} (hn : l.most = some 63) (hdf : d.params.defaults = []) (hr : Room k callerA)
    (hrec : ((recsOf q).any fun e => e.name == d.name) = true) (hY : ∀ (w : World) (h : Heap), YP w h → (K w.params).In h)
    (B : ∀ (w : World) (mg : Glob) (h : Heap), (K w.params).In h → h.Ns mainGlobals mg → LawBT l.prog w (K w.params) mg k d.name) :
    PySem.W.WalkO q loose XP YP l.row.toRowW d [] (fun f vs => PySem.call f vs) := by
  refine LamX.walk_ofOwn (n := 63) (k := k) (x := "script") (CX := fun w => L2.CX l.prog w) hn (by decide) hdf hr hrec hY (fun w mg fa h _ KX G hfa own => ?_) ?_
  · obtain ⟨f, fd, c, P, oc, od, osl, h1, h2, h3, h4, h5, h6, h7⟩ := B w mg h KX G
    rw [h1] at hfa
    cases hfa
    have tab : h.get? P = some { cls := .none, data := .fields #[] } := by
      have e := h5
      unfold PySem.W.codeHdIn at e
      split at e
      · rename_i vs sl hk
        simp only [Bool.and_eq_true] at e
        obtain ⟨⟨⟨⟨⟨e1, _⟩, _⟩, _⟩, _⟩, _⟩ := e
        split at e1
        · rename_i P' hP
          have : P' = P := by simpa using e1
          subst this
          exact own c P' _ fd _ _ vs _ h3 rfl h4 hk hP
        · cases e1
      · cases e
    refine ⟨fd, [(c, P)], spLawT (K w.params) P, fun p hp => ?_, fun p hp => ?_, fun p hp => ?_, h2, fun H a ns hl _ hT hS => ⟨a, ns, rfl, hS, hl, hT _ (List.mem_singleton.mpr rfl), fun _ => rfl⟩, fun base b1 b2 tb => h7 base b1 b2 (tb _ (List.mem_singleton.mpr rfl))⟩
    · rw [List.mem_singleton.mp hp]; exact tab
    · rw [List.mem_singleton.mp hp]; exact h6
    · rw [List.mem_singleton.mp hp]; exact PySem.W.codeHd_of_K KX h5
  · rintro w H s e s' ⟨_, _, _, _, _, _, _, _, _, _, _, _, z⟩
    exact z
end Gh
namespace Lw
open Gh L2 PyProof.Rows PySem.Spec PySem
def top (i : Nat) : Stmt := PySem.Challenge.pw_watchedhands_k41_windows_of_falls.main.body.getD i (.Pass ⟨0, 0, 0, 0⟩)
abbrev s_Bears___bool__ : Stmt := inClass (top 17) 1
abbrev s_Bears___eq__ : Stmt := inClass (top 17) 2
abbrev s_Bears___init__ : Stmt := inClass (top 17) 0
abbrev s_Passed___eq__ : Stmt := inClass (top 18) 2
abbrev s_Passed___init__ : Stmt := inClass (top 18) 0
abbrev s_check_faults : Stmt := top 10
abbrev s_is_integer : Stmt := top 4
abbrev s_is_number : Stmt := top 6
abbrev s_check_number : Stmt := top 7
abbrev s_check_bound : Stmt := top 19
abbrev s_most_within : Stmt := top 20
abbrev s_soonest : Stmt := top 15
abbrev s_judge_bound : Stmt := top 21
abbrev s_Bears_shows : Stmt := inClass (top 17) 3
abbrev s_Faults___init__ : Stmt := inClass (top 9) 0
abbrev s_Passed___bool__ : Stmt := inClass (top 18) 1
abbrev s_is_row : Stmt := top 5
abbrev s_check_falls : Stmt := top 11
abbrev s_within : Stmt := top 12
abbrev s_are_within : Stmt := top 13
abbrev s_first_beyond : Stmt := top 14
abbrev s_Passed_shows : Stmt := inClass (top 18) 3
abbrev s__law_number : Stmt := top 25
abbrev s__law_take : Stmt := top 26
abbrev s__law_falls : Stmt := top 28
abbrev s__law_most : Stmt := top 27
abbrev s__law_passed : Stmt := top 29
abbrev s_greatest_ticks : Stmt := top 23
abbrev s_least_most : Stmt := top 22
abbrev s_span_of : Stmt := top 16
abbrev s_law : Stmt := top 30
abbrev s_BadPart___init__ : Stmt := inClass (top 2) 0
/-- what the top has written -/
structure Txt (K : PySem.W.Frag) (mg : Glob) : Prop where
  m_Bears___bool__ : TM K mg "Bears" "__bool__" "Bears.__bool__" s_Bears___bool__
  m_Bears___eq__ : TM K mg "Bears" "__eq__" "Bears.__eq__" s_Bears___eq__
  m_Bears___init__ : TM K mg "Bears" "__init__" "Bears.__init__" s_Bears___init__
  m_Passed___eq__ : TM K mg "Passed" "__eq__" "Passed.__eq__" s_Passed___eq__
  m_Passed___init__ : TM K mg "Passed" "__init__" "Passed.__init__" s_Passed___init__
  g_check_faults : TG K mg "check_faults" "check_faults" s_check_faults
  g_is_integer : TG K mg "is_integer" "is_integer" s_is_integer
  g_is_number : TG K mg "is_number" "is_number" s_is_number
  g_check_number : TG K mg "check_number" "check_number" s_check_number
  g_check_bound : TG K mg "check_bound" "check_bound" s_check_bound
  g_most_within : TG K mg "most_within" "most_within" s_most_within
  g_soonest : TG K mg "soonest" "soonest" s_soonest
  g_judge_bound : TG K mg "judge_bound" "judge_bound" s_judge_bound
  m_Bears_shows : TM K mg "Bears" "shows" "Bears.shows" s_Bears_shows
  m_Faults___init__ : TM K mg "Faults" "__init__" "Faults.__init__" s_Faults___init__
  m_Passed___bool__ : TM K mg "Passed" "__bool__" "Passed.__bool__" s_Passed___bool__
  g_is_row : TG K mg "is_row" "is_row" s_is_row
  g_check_falls : TG K mg "check_falls" "check_falls" s_check_falls
  g_within : TG K mg "within" "within" s_within
  g_are_within : TG K mg "are_within" "are_within" s_are_within
  g_first_beyond : TG K mg "first_beyond" "first_beyond" s_first_beyond
  m_Passed_shows : TM K mg "Passed" "shows" "Passed.shows" s_Passed_shows
  g__law_number : TG K mg "_law_number" "_law_number" s__law_number
  g__law_take : TG K mg "_law_take" "_law_take" s__law_take
  g__law_falls : TG K mg "_law_falls" "_law_falls" s__law_falls
  g__law_most : TG K mg "_law_most" "_law_most" s__law_most
  g__law_passed : TG K mg "_law_passed" "_law_passed" s__law_passed
  g_greatest_ticks : TG K mg "greatest_ticks" "greatest_ticks" s_greatest_ticks
  g_least_most : TG K mg "least_most" "least_most" s_least_most
  g_span_of : TG K mg "span_of" "span_of" s_span_of
  c_Faults : TC K mg "Faults"
  c_Bears : TC K mg "Bears"
  c_Passed : TC K mg "Passed"
  a_falls_Passed : AttOk K mg "falls" ["Passed"]
  a_many_Bears : AttOk K mg "many" ["Bears"]
  a_many_Faults : AttOk K mg "many" ["Faults"]
  a_ticks_Faults : AttOk K mg "ticks" ["Faults"]
  i_Bears__Bears__Passed : TIs K mg "Bears" ["Bears"] ["Passed"]
  i_Faults__Faults__ : TIs K mg "Faults" ["Faults"] []
  i_Passed__Passed__Bears : TIs K mg "Passed" ["Passed"] ["Bears"]
  i_bool : TIb K mg "bool" []
  i_int : TIb K mg "int" []
  i_list_tuple : TIb2 K mg "list" "tuple" []
  n_Bears_Passed__Bears : TNf K mg ["Bears", "Passed"] ["Bears"]
  n_Bears_Passed__Bears_Passed : TNf K mg ["Bears", "Passed"] ["Bears", "Passed"]
  e_Bears : TNe K mg "Bears"
  e_Passed : TNe K mg "Passed"
  x_BadPart : TX K mg "BadPart" "BadPart.__init__" ["part", "place"] s_BadPart___init__
  x_BadPart__BadPart__BadPart : TEm K mg "BadPart" ["BadPart"] ["BadPart"]
  z_all : mg "all" = none
  z_bool : mg "bool" = none
  z_enumerate : mg "enumerate" = none
  z_int : mg "int" = none
  z_isinstance : mg "isinstance" = none
  z_len : mg "len" = none
  z_list : mg "list" = none
  z_max : mg "max" = none
  z_range : mg "range" = none
  z_tuple : mg "tuple" = none
section
variable {P : Program} {w : World} {K : PySem.W.Frag} {mg : Glob} {base : Heap}
theorem okx_BadPart (T : Txt K mg) : OkX P w K mg base 1 "BadPart" ["part", "place"] :=
  okX2_of T.x_BadPart (⟨rfl, rfl, rfl, by decide +kernel, rfl, by decide +kernel, by decide +kernel⟩ : FnScope ["self", "part", "place"] ["self", "part", "place"] (defScope s_BadPart___init__)) (fun f fd F => F.binds fun _ _ _ _ _ _ us hl => match us, hl with | [_, _, _], _ => rfl) fun f cdv A outer s H E => (pss_cons (ps_ost (x_var 0) (x_var 1)) (pss_one (ps_ost (x_var 0) (x_var 2))))
/-! Bears.__bool__ -/
def b_Bears___bool__ : SDen :=
  (sRet (eC (.bl true)))
def m_Bears___bool__ : CallF := callD 1 1 b_Bears___bool__
theorem sc_Bears___bool__ : FnScope ["self"] ["self"] (defScope s_Bears___bool__) := ⟨rfl, rfl, rfl, by decide +kernel, rfl, by decide +kernel, by decide +kernel⟩
theorem fn_Bears___bool__ (T : Txt K mg) {f : Addr} {fd : FuncData} (F : Fun K "__bool__" "Bears.__bool__" s_Bears___bool__ f fd) : FnOk P w K mg base (L2.CX P w) 1 f fd ["self"] (spG K mg m_Bears___bool__) := by
  have nd := (sc_Bears___bool__).nd
  refine Fun.den (m := b_Bears___bool__) (N := ["self"]) (np := 1) (nl := 1) F sc_Bears___bool__ rfl rfl fun cdv A outer s H E hr Γ hx => ?_
  have tk := takes_body (P := P) (w := w) (K := K) (mg := mg) (base := base) (N := ["self"]) (qual := "Bears.__bool__") (sc := defScope s_Bears___bool__) (f := f) (cdv := cdv) (A := A) (outer := outer) (s := s) (H := H) (E := E)
  have ow := own_body (P := P) (w := w) (K := K) (mg := mg) (base := base) (N := ["self"]) (qual := "Bears.__bool__") (sc := defScope s_Bears___bool__) (f := f) (cdv := cdv) (A := A) (outer := outer) (s := s) (H := H) (E := E)
  exact (s_one (s_ret g_bl))
theorem ok_Bears___bool__ (T : Txt K mg) : OkM P w K mg base 1 "Bears" "__bool__" ["self"] m_Bears___bool__ := okM_of T.c_Bears T.m_Bears___bool__ (fun f fd F => F.binds fun _ _ _ _ _ _ us hl => match us, hl with | [_], _ => rfl) fun f fd F => fn_Bears___bool__ T F
/-! Bears.__eq__ -/
def b_Bears___eq__ : SDen :=
  (sRet (eAnd (e1 (gIsi [] ["Bears"] ["Passed"]) (ePeek 1)) (e2 gEq (e1 (eAttC "many" ["Bears"]) (eVar 0)) (e1 (eAttC "many" ["Bears"]) (eVar 1)))))
def m_Bears___eq__ : CallF := callD 2 2 b_Bears___eq__
theorem sc_Bears___eq__ : FnScope ["self", "other"] ["self", "other"] (defScope s_Bears___eq__) := ⟨rfl, rfl, rfl, by decide +kernel, rfl, by decide +kernel, by decide +kernel⟩
theorem fn_Bears___eq__ (T : Txt K mg) {f : Addr} {fd : FuncData} (F : Fun K "__eq__" "Bears.__eq__" s_Bears___eq__ f fd) : FnOk P w K mg base (L2.CX P w) 1 f fd ["self", "other"] (spG K mg m_Bears___eq__) := by
  have nd := (sc_Bears___eq__).nd
  refine Fun.den (m := b_Bears___eq__) (N := ["self", "other"]) (np := 2) (nl := 2) F sc_Bears___eq__ rfl rfl fun cdv A outer s H E hr Γ hx => ?_
  have tk := takes_body (P := P) (w := w) (K := K) (mg := mg) (base := base) (N := ["self", "other"]) (qual := "Bears.__eq__") (sc := defScope s_Bears___eq__) (f := f) (cdv := cdv) (A := A) (outer := outer) (s := s) (H := H) (E := E)
  have ow := own_body (P := P) (w := w) (K := K) (mg := mg) (base := base) (N := ["self", "other"]) (qual := "Bears.__eq__") (sc := defScope s_Bears___eq__) (f := f) (cdv := cdv) (A := A) (outer := outer) (s := s) (H := H) (E := E)
  exact (s_one (s_ret (g_andV rfl (f_isiC T.i_Bears__Bears__Passed T.z_isinstance (g_peek 1)) (g_one (g_cmp (op_eqU hr.units) sem_eq (g_vr (g_att (cs := ["Bears"]) rfl T.a_many_Bears (g_var 0))) (g_vr (g_att (cs := ["Bears"]) rfl T.a_many_Bears (g_var 1))) rfl)))))
theorem ok_Bears___eq__ (T : Txt K mg) : OkM P w K mg base 1 "Bears" "__eq__" ["self", "other"] m_Bears___eq__ := okM_of T.c_Bears T.m_Bears___eq__ (fun f fd F => F.binds fun _ _ _ _ _ _ us hl => match us, hl with | [_, _], _ => rfl) fun f fd F => fn_Bears___eq__ T F
/-! Bears.__init__ -/
def b_Bears___init__ : SDen :=
  (sAtt "many" ["Bears"] (eVar 0) (eVar 1))
def m_Bears___init__ : CallF := callD 2 2 b_Bears___init__
theorem sc_Bears___init__ : FnScope ["self", "many"] ["self", "many"] (defScope s_Bears___init__) := ⟨rfl, rfl, rfl, by decide +kernel, rfl, by decide +kernel, by decide +kernel⟩
theorem fn_Bears___init__ (T : Txt K mg) {f : Addr} {fd : FuncData} (F : Fun K "__init__" "Bears.__init__" s_Bears___init__ f fd) : FnOk P w K mg base (L2.CX P w) 1 f fd ["self", "many"] (spG K mg m_Bears___init__) := by
  have nd := (sc_Bears___init__).nd
  refine Fun.den (m := b_Bears___init__) (N := ["self", "many"]) (np := 2) (nl := 2) F sc_Bears___init__ rfl rfl fun cdv A outer s H E hr Γ hx => ?_
  have tk := takes_body (P := P) (w := w) (K := K) (mg := mg) (base := base) (N := ["self", "many"]) (qual := "Bears.__init__") (sc := defScope s_Bears___init__) (f := f) (cdv := cdv) (A := A) (outer := outer) (s := s) (H := H) (E := E)
  have ow := own_body (P := P) (w := w) (K := K) (mg := mg) (base := base) (N := ["self", "many"]) (qual := "Bears.__init__") (sc := defScope s_Bears___init__) (f := f) (cdv := cdv) (A := A) (outer := outer) (s := s) (H := H) (E := E)
  exact (s_one (s_att (cs := ["Bears"]) rfl T.a_many_Bears (g_var 0) (g_var 1)))
theorem ok_Bears___init__ (T : Txt K mg) : OkM P w K mg base 1 "Bears" "__init__" ["self", "many"] m_Bears___init__ := okM_of T.c_Bears T.m_Bears___init__ (fun f fd F => F.binds fun _ _ _ _ _ _ us hl => match us, hl with | [_, _], _ => rfl) fun f fd F => fn_Bears___init__ T F
/-! Passed.__eq__ -/
def b_Passed___eq__ : SDen :=
  (sRet (eAnd (e1 (gIsi [] ["Passed"] ["Bears"]) (ePeek 1)) (e2 gEq (e1 (eAttC "falls" ["Passed"]) (eVar 0)) (e1 (eAttC "falls" ["Passed"]) (eVar 1)))))
def m_Passed___eq__ : CallF := callD 2 2 b_Passed___eq__
theorem sc_Passed___eq__ : FnScope ["self", "other"] ["self", "other"] (defScope s_Passed___eq__) := ⟨rfl, rfl, rfl, by decide +kernel, rfl, by decide +kernel, by decide +kernel⟩
theorem fn_Passed___eq__ (T : Txt K mg) {f : Addr} {fd : FuncData} (F : Fun K "__eq__" "Passed.__eq__" s_Passed___eq__ f fd) : FnOk P w K mg base (L2.CX P w) 1 f fd ["self", "other"] (spG K mg m_Passed___eq__) := by
  have nd := (sc_Passed___eq__).nd
  refine Fun.den (m := b_Passed___eq__) (N := ["self", "other"]) (np := 2) (nl := 2) F sc_Passed___eq__ rfl rfl fun cdv A outer s H E hr Γ hx => ?_
  have tk := takes_body (P := P) (w := w) (K := K) (mg := mg) (base := base) (N := ["self", "other"]) (qual := "Passed.__eq__") (sc := defScope s_Passed___eq__) (f := f) (cdv := cdv) (A := A) (outer := outer) (s := s) (H := H) (E := E)
  have ow := own_body (P := P) (w := w) (K := K) (mg := mg) (base := base) (N := ["self", "other"]) (qual := "Passed.__eq__") (sc := defScope s_Passed___eq__) (f := f) (cdv := cdv) (A := A) (outer := outer) (s := s) (H := H) (E := E)
  exact (s_one (s_ret (g_andV rfl (f_isiC T.i_Passed__Passed__Bears T.z_isinstance (g_peek 1)) (g_one (g_cmp (op_eqU hr.units) sem_eq (g_vr (g_att (cs := ["Passed"]) rfl T.a_falls_Passed (g_var 0))) (g_vr (g_att (cs := ["Passed"]) rfl T.a_falls_Passed (g_var 1))) rfl)))))
theorem ok_Passed___eq__ (T : Txt K mg) : OkM P w K mg base 1 "Passed" "__eq__" ["self", "other"] m_Passed___eq__ := okM_of T.c_Passed T.m_Passed___eq__ (fun f fd F => F.binds fun _ _ _ _ _ _ us hl => match us, hl with | [_, _], _ => rfl) fun f fd F => fn_Passed___eq__ T F
/-! Passed.__init__ -/
def b_Passed___init__ : SDen :=
  (sAtt "falls" ["Passed"] (eVar 0) (eN gTuple (aCons (ePeek 1) aNil)))
def m_Passed___init__ : CallF := callD 2 2 b_Passed___init__
theorem sc_Passed___init__ : FnScope ["self", "falls"] ["self", "falls"] (defScope s_Passed___init__) := ⟨rfl, rfl, rfl, by decide +kernel, rfl, by decide +kernel, by decide +kernel⟩
theorem fn_Passed___init__ (T : Txt K mg) {f : Addr} {fd : FuncData} (F : Fun K "__init__" "Passed.__init__" s_Passed___init__ f fd) : FnOk P w K mg base (L2.CX P w) 1 f fd ["self", "falls"] (spG K mg m_Passed___init__) := by
  have nd := (sc_Passed___init__).nd
  refine Fun.den (m := b_Passed___init__) (N := ["self", "falls"]) (np := 2) (nl := 2) F sc_Passed___init__ rfl rfl fun cdv A outer s H E hr Γ hx => ?_
  have tk := takes_body (P := P) (w := w) (K := K) (mg := mg) (base := base) (N := ["self", "falls"]) (qual := "Passed.__init__") (sc := defScope s_Passed___init__) (f := f) (cdv := cdv) (A := A) (outer := outer) (s := s) (H := H) (E := E)
  have ow := own_body (P := P) (w := w) (K := K) (mg := mg) (base := base) (N := ["self", "falls"]) (qual := "Passed.__init__") (sc := defScope s_Passed___init__) (f := f) (cdv := cdv) (A := A) (outer := outer) (s := s) (H := H) (E := E)
  exact (s_one (s_att (cs := ["Passed"]) rfl T.a_falls_Passed (g_var 0) (g_callTy call_tuple_of kV_late sem_tuple T.z_tuple (by decide +kernel) (r_cons (g_peek 1) r_nil))))
theorem ok_Passed___init__ (T : Txt K mg) : OkM P w K mg base 1 "Passed" "__init__" ["self", "falls"] m_Passed___init__ := okM_of T.c_Passed T.m_Passed___init__ (fun f fd F => F.binds fun _ _ _ _ _ _ us hl => match us, hl with | [_, _], _ => rfl) fun f fd F => fn_Passed___init__ T F
/-! check_faults -/
def b_check_faults : SDen :=
  (sIf (tNot (tTr (e1 (gIsi [] ["Faults"] []) (ePeek 0)))) (sRaise "BadPart" ["part", "place"] (aCons (eC (.str "faults")) (aCons (eC .non) aNil))) sNil)
def m_check_faults : CallF := callD 1 1 b_check_faults
theorem sc_check_faults : FnScope ["faults"] ["faults"] (defScope s_check_faults) := ⟨rfl, rfl, rfl, by decide +kernel, rfl, by decide +kernel, by decide +kernel⟩
theorem fn_check_faults (T : Txt K mg) {f : Addr} {fd : FuncData} (F : Fun K "check_faults" "check_faults" s_check_faults f fd) : FnOk P w K mg base (L2.CX P w) 3 f fd ["faults"] (spG K mg m_check_faults) := by
  have nd := (sc_check_faults).nd
  refine Fun.den (m := b_check_faults) (N := ["faults"]) (np := 1) (nl := 1) F sc_check_faults rfl rfl fun cdv A outer s H E hr Γ hx => ?_
  have tk := takes_body (P := P) (w := w) (K := K) (mg := mg) (base := base) (N := ["faults"]) (qual := "check_faults") (sc := defScope s_check_faults) (f := f) (cdv := cdv) (A := A) (outer := outer) (s := s) (H := H) (E := E)
  have ow := own_body (P := P) (w := w) (K := K) (mg := mg) (base := base) (N := ["faults"]) (qual := "check_faults") (sc := defScope s_check_faults) (f := f) (cdv := cdv) (A := A) (outer := outer) (s := s) (H := H) (E := E)
  exact (s_one (s_if (g_not (g_tr rfl (g_vr (f_isiC T.i_Faults__Faults__ T.z_isinstance (g_peek 0))))) (s_one (f_raise2 (okx_BadPart T) (hr.mono (by decide)) rfl tk (g_cons g_str (g_cons g_non g_nil)))) s_nil))
theorem ok_check_faults (T : Txt K mg) : OkG P w K mg base 3 "check_faults" ["faults"] m_check_faults := okG_of T.g_check_faults (fun f fd F => F.binds fun _ _ _ _ _ _ us hl => match us, hl with | [_], _ => rfl) fun f fd F => fn_check_faults T F
/-! is_integer -/
def b_is_integer : SDen :=
  (sRet (eAnd (e1 (gIsi ["int"] [] []) (ePeek 0)) (eNot (e1 (gIsi ["bool"] [] []) (ePeek 0)))))
def m_is_integer : CallF := callD 1 1 b_is_integer
theorem sc_is_integer : FnScope ["thing"] ["thing"] (defScope s_is_integer) := ⟨rfl, rfl, rfl, by decide +kernel, rfl, by decide +kernel, by decide +kernel⟩
theorem fn_is_integer (T : Txt K mg) {f : Addr} {fd : FuncData} (F : Fun K "is_integer" "is_integer" s_is_integer f fd) : FnOk P w K mg base (L2.CX P w) 1 f fd ["thing"] (spG K mg m_is_integer) := by
  have nd := (sc_is_integer).nd
  refine Fun.den (m := b_is_integer) (N := ["thing"]) (np := 1) (nl := 1) F sc_is_integer rfl rfl fun cdv A outer s H E hr Γ hx => ?_
  have tk := takes_body (P := P) (w := w) (K := K) (mg := mg) (base := base) (N := ["thing"]) (qual := "is_integer") (sc := defScope s_is_integer) (f := f) (cdv := cdv) (A := A) (outer := outer) (s := s) (H := H) (E := E)
  have ow := own_body (P := P) (w := w) (K := K) (mg := mg) (base := base) (N := ["thing"]) (qual := "is_integer") (sc := defScope s_is_integer) (f := f) (cdv := cdv) (A := A) (outer := outer) (s := s) (H := H) (E := E)
  exact (s_one (s_ret (g_andV rfl (f_isiB T.i_int T.z_isinstance T.z_int (by decide +kernel) (g_peek 0)) (g_one (g_notV rfl (g_vr (f_isiB T.i_bool T.z_isinstance T.z_bool (by decide +kernel) (g_peek 0))))))))
theorem ok_is_integer (T : Txt K mg) : OkG P w K mg base 1 "is_integer" ["thing"] m_is_integer := okG_of T.g_is_integer (fun f fd F => F.binds fun _ _ _ _ _ _ us hl => match us, hl with | [_], _ => rfl) fun f fd F => fn_is_integer T F
/-! is_number -/
def b_is_number : SDen :=
  (sRet (eAnd (eCall m_is_integer (aCons (eVar 0) aNil)) (eChain gLe gLe (ePeek 1) (ePeek 0) (ePeek 2))))
def m_is_number : CallF := callD 3 3 b_is_number
theorem sc_is_number : FnScope ["thing", "low", "high"] ["thing", "low", "high"] (defScope s_is_number) := ⟨rfl, rfl, rfl, by decide +kernel, rfl, by decide +kernel, by decide +kernel⟩
theorem fn_is_number (T : Txt K mg) {f : Addr} {fd : FuncData} (F : Fun K "is_number" "is_number" s_is_number f fd) : FnOk P w K mg base (L2.CX P w) 2 f fd ["thing", "low", "high"] (spG K mg m_is_number) := by
  have nd := (sc_is_number).nd
  refine Fun.den (m := b_is_number) (N := ["thing", "low", "high"]) (np := 3) (nl := 3) F sc_is_number rfl rfl fun cdv A outer s H E hr Γ hx => ?_
  have tk := takes_body (P := P) (w := w) (K := K) (mg := mg) (base := base) (N := ["thing", "low", "high"]) (qual := "is_number") (sc := defScope s_is_number) (f := f) (cdv := cdv) (A := A) (outer := outer) (s := s) (H := H) (E := E)
  have ow := own_body (P := P) (w := w) (K := K) (mg := mg) (base := base) (N := ["thing", "low", "high"]) (qual := "is_number") (sc := defScope s_is_number) (f := f) (cdv := cdv) (A := A) (outer := outer) (s := s) (H := H) (E := E)
  exact (s_one (s_ret (g_andV rfl (f_call (ok_is_integer T) (hr.mono (by decide)) tk (g_cons (g_var 0) g_nil)) (g_one (g_chain op_le op_le sem_le sem_le (g_peek 1) (g_peek 0) (g_peek 2))))))
theorem ok_is_number (T : Txt K mg) : OkG P w K mg base 2 "is_number" ["thing", "low", "high"] m_is_number := okG_of T.g_is_number (fun f fd F => F.binds fun _ _ _ _ _ _ us hl => match us, hl with | [_, _, _], _ => rfl) fun f fd F => fn_is_number T F
/-! check_number -/
def b_check_number : SDen :=
  (sIf (tNot (tTr (eCall m_is_number (aCons (eVar 1) (aCons (eVar 2) (aCons (eVar 3) aNil)))))) (sRaise "BadPart" ["part", "place"] (aCons (eVar 0) (aCons (eC .non) aNil))) sNil)
def m_check_number : CallF := callD 4 4 b_check_number
theorem sc_check_number : FnScope ["part", "thing", "low", "high"] ["part", "thing", "low", "high"] (defScope s_check_number) := ⟨rfl, rfl, rfl, by decide +kernel, rfl, by decide +kernel, by decide +kernel⟩
theorem fn_check_number (T : Txt K mg) {f : Addr} {fd : FuncData} (F : Fun K "check_number" "check_number" s_check_number f fd) : FnOk P w K mg base (L2.CX P w) 3 f fd ["part", "thing", "low", "high"] (spG K mg m_check_number) := by
  have nd := (sc_check_number).nd
  refine Fun.den (m := b_check_number) (N := ["part", "thing", "low", "high"]) (np := 4) (nl := 4) F sc_check_number rfl rfl fun cdv A outer s H E hr Γ hx => ?_
  have tk := takes_body (P := P) (w := w) (K := K) (mg := mg) (base := base) (N := ["part", "thing", "low", "high"]) (qual := "check_number") (sc := defScope s_check_number) (f := f) (cdv := cdv) (A := A) (outer := outer) (s := s) (H := H) (E := E)
  have ow := own_body (P := P) (w := w) (K := K) (mg := mg) (base := base) (N := ["part", "thing", "low", "high"]) (qual := "check_number") (sc := defScope s_check_number) (f := f) (cdv := cdv) (A := A) (outer := outer) (s := s) (H := H) (E := E)
  exact (s_one (s_if (g_not (g_tr rfl (g_vr (f_call (ok_is_number T) (hr.mono (by decide)) tk (g_cons (g_var 1) (g_cons (g_var 2) (g_cons (g_var 3) g_nil))))))) (s_one (f_raise2 (okx_BadPart T) (hr.mono (by decide)) rfl tk (g_cons (g_var 0) (g_cons g_non g_nil)))) s_nil))
theorem ok_check_number (T : Txt K mg) : OkG P w K mg base 3 "check_number" ["part", "thing", "low", "high"] m_check_number := okG_of T.g_check_number (fun f fd F => F.binds fun _ _ _ _ _ _ us hl => match us, hl with | [_, _, _, _], _ => rfl) fun f fd F => fn_check_number T F
/-! check_bound -/
def b_check_bound : SDen :=
  (sSeq (sDrop (eCall m_check_number (aCons (eC (.str "most")) (aCons (eVar 0) (aCons (eC (.int 0)) (aCons (eC (.int 99)) aNil))))))
  (sSeq (sDrop (eCall m_check_number (aCons (eC (.str "ticks")) (aCons (eVar 1) (aCons (eC (.int 1)) (aCons (eC (.int 99)) aNil))))))
  (sDrop (eCall m_check_faults (aCons (eVar 2) aNil)))))
def m_check_bound : CallF := callD 3 3 b_check_bound
theorem sc_check_bound : FnScope ["most", "ticks", "faults"] ["most", "ticks", "faults"] (defScope s_check_bound) := ⟨rfl, rfl, rfl, by decide +kernel, rfl, by decide +kernel, by decide +kernel⟩
theorem fn_check_bound (T : Txt K mg) {f : Addr} {fd : FuncData} (F : Fun K "check_bound" "check_bound" s_check_bound f fd) : FnOk P w K mg base (L2.CX P w) 4 f fd ["most", "ticks", "faults"] (spG K mg m_check_bound) := by
  have nd := (sc_check_bound).nd
  refine Fun.den (m := b_check_bound) (N := ["most", "ticks", "faults"]) (np := 3) (nl := 3) F sc_check_bound rfl rfl fun cdv A outer s H E hr Γ hx => ?_
  have tk := takes_body (P := P) (w := w) (K := K) (mg := mg) (base := base) (N := ["most", "ticks", "faults"]) (qual := "check_bound") (sc := defScope s_check_bound) (f := f) (cdv := cdv) (A := A) (outer := outer) (s := s) (H := H) (E := E)
  have ow := own_body (P := P) (w := w) (K := K) (mg := mg) (base := base) (N := ["most", "ticks", "faults"]) (qual := "check_bound") (sc := defScope s_check_bound) (f := f) (cdv := cdv) (A := A) (outer := outer) (s := s) (H := H) (E := E)
  exact (s_cons (s_drop (f_call (ok_check_number T) (hr.mono (by decide)) tk (g_cons g_str (g_cons (g_var 0) (g_cons g_int (g_cons g_int g_nil))))))
    (s_cons (s_drop (f_call (ok_check_number T) (hr.mono (by decide)) tk (g_cons g_str (g_cons (g_var 1) (g_cons g_int (g_cons g_int g_nil))))))
    (s_one (s_drop (f_call (ok_check_faults T) (hr.mono (by decide)) tk (g_cons (g_var 2) g_nil))))))
theorem ok_check_bound (T : Txt K mg) : OkG P w K mg base 4 "check_bound" ["most", "ticks", "faults"] m_check_bound := okG_of T.g_check_bound (fun f fd F => F.binds fun _ _ _ _ _ _ us hl => match us, hl with | [_, _, _], _ => rfl) fun f fd F => fn_check_bound T F
/-! most_within -/
def b_most_within : SDen :=
  (sSeq (sDrop (eCall m_check_number (aCons (eC (.str "ticks")) (aCons (eVar 0) (aCons (eC (.int 1)) (aCons (eC (.int 999)) aNil))))))
  (sSeq (sDrop (eCall m_check_faults (aCons (eVar 1) aNil)))
  (sRet (e2 gMul (e2 gFdiv (e2 gSub (e2 gAddI (ePeek 0) (e1 (eAttC "ticks" ["Faults"]) (eVar 1))) (eC (.int 1))) (e1 (eAttC "ticks" ["Faults"]) (eVar 1))) (e1 (eAttC "many" ["Faults"]) (eVar 1))))))
def m_most_within : CallF := callD 2 2 b_most_within
theorem sc_most_within : FnScope ["ticks", "faults"] ["ticks", "faults"] (defScope s_most_within) := ⟨rfl, rfl, rfl, by decide +kernel, rfl, by decide +kernel, by decide +kernel⟩
theorem fn_most_within (T : Txt K mg) {f : Addr} {fd : FuncData} (F : Fun K "most_within" "most_within" s_most_within f fd) : FnOk P w K mg base (L2.CX P w) 4 f fd ["ticks", "faults"] (spG K mg m_most_within) := by
  have nd := (sc_most_within).nd
  refine Fun.den (m := b_most_within) (N := ["ticks", "faults"]) (np := 2) (nl := 2) F sc_most_within rfl rfl fun cdv A outer s H E hr Γ hx => ?_
  have tk := takes_body (P := P) (w := w) (K := K) (mg := mg) (base := base) (N := ["ticks", "faults"]) (qual := "most_within") (sc := defScope s_most_within) (f := f) (cdv := cdv) (A := A) (outer := outer) (s := s) (H := H) (E := E)
  have ow := own_body (P := P) (w := w) (K := K) (mg := mg) (base := base) (N := ["ticks", "faults"]) (qual := "most_within") (sc := defScope s_most_within) (f := f) (cdv := cdv) (A := A) (outer := outer) (s := s) (H := H) (E := E)
  exact (s_cons (s_drop (f_call (ok_check_number T) (hr.mono (by decide)) tk (g_cons g_str (g_cons (g_var 0) (g_cons g_int (g_cons g_int g_nil))))))
    (s_cons (s_drop (f_call (ok_check_faults T) (hr.mono (by decide)) tk (g_cons (g_var 1) g_nil)))
    (s_one (s_ret (g_bin op_mul kV_late sem_mul (g_vr (g_bin op_fdiv kV_late sem_fdiv (g_vr (g_bin op_sub kV_late sem_sub (g_vr (g_bin op_add kV_late sem_addI (g_peek 0) (g_vr (g_att (cs := ["Faults"]) rfl T.a_ticks_Faults (g_var 1))))) (g_vr g_int))) (g_vr (g_att (cs := ["Faults"]) rfl T.a_ticks_Faults (g_var 1))))) (g_vr (g_att (cs := ["Faults"]) rfl T.a_many_Faults (g_var 1))))))))
theorem ok_most_within (T : Txt K mg) : OkG P w K mg base 4 "most_within" ["ticks", "faults"] m_most_within := okG_of T.g_most_within (fun f fd F => F.binds fun _ _ _ _ _ _ us hl => match us, hl with | [_, _], _ => rfl) fun f fd F => fn_most_within T F
/-! soonest -/
def ce_soonest_0 : EDen :=
  (e2 gMul (e2 gFdiv (ePeek 2) (e1 (eAttC "many" ["Faults"]) (eVar 0))) (e1 (eAttC "ticks" ["Faults"]) (eVar 0)))
theorem u_ce_soonest_0 (ρ : REnv) (st : Store) : ce_soonest_0 ρ st = (e2 gMul (e2 gFdiv (ePeek 2) (e1 (eAttC "many" ["Faults"]) (eVar 0))) (e1 (eAttC "ticks" ["Faults"]) (eVar 0))) ρ st := rfl
def b_soonest : SDen :=
  (sSeq (sDrop (eCall m_check_faults (aCons (eVar 0) aNil)))
  (sSeq (sDrop (eCall m_check_number (aCons (eC (.str "many")) (aCons (eVar 1) (aCons (eC (.int 0)) (aCons (eC (.int 999)) aNil))))))
  (sSeq (sIf (tB (e2 gEq (e1 (eAttC "many" ["Faults"]) (eVar 0)) (eC (.int 0)))) (sRet (eIf (tB (e2 gEq (ePeek 1) (eC (.int 0)))) (eLst aNil) (eC .non))) sNil)
  (sRet (eComp (lRange1 (aCons (eVar 1) aNil)) (bName 2) tYes ce_soonest_0 [2])))))
def m_soonest : CallF := callD 2 3 b_soonest
theorem sc_soonest : FnScope ["faults", "many", "number"] ["faults", "many"] (defScope s_soonest) := ⟨rfl, rfl, rfl, by decide +kernel, rfl, by decide +kernel, by decide +kernel⟩
theorem fn_soonest (T : Txt K mg) {f : Addr} {fd : FuncData} (F : Fun K "soonest" "soonest" s_soonest f fd) : FnOk P w K mg base (L2.CX P w) 4 f fd ["faults", "many"] (spG K mg m_soonest) := by
  have nd := (sc_soonest).nd
  refine Fun.den (m := b_soonest) (N := ["faults", "many", "number"]) (np := 2) (nl := 3) F sc_soonest rfl rfl fun cdv A outer s H E hr Γ hx => ?_
  have tk := takes_body (P := P) (w := w) (K := K) (mg := mg) (base := base) (N := ["faults", "many", "number"]) (qual := "soonest") (sc := defScope s_soonest) (f := f) (cdv := cdv) (A := A) (outer := outer) (s := s) (H := H) (E := E)
  have ow := own_body (P := P) (w := w) (K := K) (mg := mg) (base := base) (N := ["faults", "many", "number"]) (qual := "soonest") (sc := defScope s_soonest) (f := f) (cdv := cdv) (A := A) (outer := outer) (s := s) (H := H) (E := E)
  exact (s_cons (s_drop (f_call (ok_check_faults T) (hr.mono (by decide)) tk (g_cons (g_var 0) g_nil)))
    (s_cons (s_drop (f_call (ok_check_number T) (hr.mono (by decide)) tk (g_cons g_str (g_cons (g_var 1) (g_cons g_int (g_cons g_int g_nil))))))
    (s_cons (s_if (g_tcmp (op_eqU hr.units) sem_eq (g_vr (g_att (cs := ["Faults"]) rfl T.a_many_Faults (g_var 0))) (g_vr g_int) rfl) (s_one (s_ret (g_if kV_late (g_tcmp (op_eqU hr.units) sem_eq (g_peek 1) (g_vr g_int) rfl) (g_ov (g_lst g_nil)) g_non))) s_nil)
    (s_one (s_ret (g_ov (g_lc (own := [("number", 2)]) rfl nd (i_gc (i_range1 T.z_range (g_cons (g_var 1) g_nil))) (blkOk_by (by kernel_rfl)) (fun _ _ _ _ _ => (b_name 2 nd)) (fun _ _ _ _ _ => ts_nil) (fun _ _ _ _ _ => (g_bin op_mul kV_late sem_mul (g_vr (g_bin op_fdiv kV_late sem_fdiv (g_peek 2) (g_vr (g_att (cs := ["Faults"]) rfl T.a_many_Faults (g_var 0))))) (g_vr (g_att (cs := ["Faults"]) rfl T.a_ticks_Faults (g_var 0))))))))))))
theorem ok_soonest (T : Txt K mg) : OkG P w K mg base 4 "soonest" ["faults", "many"] m_soonest := okG_of T.g_soonest (fun f fd F => F.binds fun _ _ _ _ _ _ us hl => match us, hl with | [_, _], _ => rfl) fun f fd F => fn_soonest T F
/-! judge_bound -/
def b_judge_bound : SDen :=
  (sSeq (sDrop (eCall m_check_bound (aCons (eVar 0) (aCons (eVar 1) (aCons (eVar 2) aNil)))))
  (sSeq (sAsg 3 (eCall m_most_within (aCons (eVar 1) (aCons (eVar 2) aNil))))
  (sRet (eIf (tB (e2 gLe (ePeek 3) (ePeek 0))) (eMake "Bears" m_Bears___init__ (aCons (eVar 3) aNil)) (eMake "Passed" m_Passed___init__ (aCons (eCall m_soonest (aCons (eVar 2) (aCons (e2 gAddI (ePeek 0) (eC (.int 1))) aNil))) aNil))))))
def m_judge_bound : CallF := callD 3 4 b_judge_bound
theorem sc_judge_bound : FnScope ["most", "ticks", "faults", "many"] ["most", "ticks", "faults"] (defScope s_judge_bound) := ⟨rfl, rfl, rfl, by decide +kernel, rfl, by decide +kernel, by decide +kernel⟩
theorem fn_judge_bound (T : Txt K mg) {f : Addr} {fd : FuncData} (F : Fun K "judge_bound" "judge_bound" s_judge_bound f fd) : FnOk P w K mg base (L2.CX P w) 5 f fd ["most", "ticks", "faults"] (spG K mg m_judge_bound) := by
  have nd := (sc_judge_bound).nd
  refine Fun.den (m := b_judge_bound) (N := ["most", "ticks", "faults", "many"]) (np := 3) (nl := 4) F sc_judge_bound rfl rfl fun cdv A outer s H E hr Γ hx => ?_
  have tk := takes_body (P := P) (w := w) (K := K) (mg := mg) (base := base) (N := ["most", "ticks", "faults", "many"]) (qual := "judge_bound") (sc := defScope s_judge_bound) (f := f) (cdv := cdv) (A := A) (outer := outer) (s := s) (H := H) (E := E)
  have ow := own_body (P := P) (w := w) (K := K) (mg := mg) (base := base) (N := ["most", "ticks", "faults", "many"]) (qual := "judge_bound") (sc := defScope s_judge_bound) (f := f) (cdv := cdv) (A := A) (outer := outer) (s := s) (H := H) (E := E)
  exact (s_cons (s_drop (f_call (ok_check_bound T) (hr.mono (by decide)) tk (g_cons (g_var 0) (g_cons (g_var 1) (g_cons (g_var 2) g_nil)))))
    (s_cons (s_asg nd (f_call (ok_most_within T) (hr.mono (by decide)) tk (g_cons (g_var 1) (g_cons (g_var 2) g_nil))))
    (s_one (s_ret (g_if kV_late (g_tcmp op_le sem_le (g_peek 3) (g_peek 0) rfl) (f_make (okC_of T.c_Bears (ok_Bears___init__ T)) (hr.mono (by decide)) tk (g_cons (g_var 3) g_nil)) (f_make (okC_of T.c_Passed (ok_Passed___init__ T)) (hr.mono (by decide)) tk (g_cons (f_call (ok_soonest T) (hr.mono (by decide)) tk (g_cons (g_var 2) (g_cons (g_bin op_add kV_late sem_addI (g_peek 0) (g_vr g_int)) g_nil))) g_nil)))))))
theorem ok_judge_bound (T : Txt K mg) : OkG P w K mg base 5 "judge_bound" ["most", "ticks", "faults"] m_judge_bound := okG_of T.g_judge_bound (fun f fd F => F.binds fun _ _ _ _ _ _ us hl => match us, hl with | [_, _, _], _ => rfl) fun f fd F => fn_judge_bound T F
/-! Bears.shows -/
def b_Bears_shows : SDen :=
  (sRet (e2 (gEqI (fun c => List.lookup c [("Bears", m_Bears___eq__), ("Passed", m_Passed___eq__)]) ["Bears"]) (eCall m_judge_bound (aCons (eVar 1) (aCons (eVar 2) (aCons (eVar 3) aNil)))) (eVar 0)))
def m_Bears_shows : CallF := callD 4 4 b_Bears_shows
theorem sc_Bears_shows : FnScope ["self", "most", "ticks", "faults"] ["self", "most", "ticks", "faults"] (defScope s_Bears_shows) := ⟨rfl, rfl, rfl, by decide +kernel, rfl, by decide +kernel, by decide +kernel⟩
theorem fn_Bears_shows (T : Txt K mg) {f : Addr} {fd : FuncData} (F : Fun K "shows" "Bears.shows" s_Bears_shows f fd) : FnOk P w K mg base (L2.CX P w) 6 f fd ["self", "most", "ticks", "faults"] (spG K mg m_Bears_shows) := by
  have nd := (sc_Bears_shows).nd
  refine Fun.den (m := b_Bears_shows) (N := ["self", "most", "ticks", "faults"]) (np := 4) (nl := 4) F sc_Bears_shows rfl rfl fun cdv A outer s H E hr Γ hx => ?_
  have tk := takes_body (P := P) (w := w) (K := K) (mg := mg) (base := base) (N := ["self", "most", "ticks", "faults"]) (qual := "Bears.shows") (sc := defScope s_Bears_shows) (f := f) (cdv := cdv) (A := A) (outer := outer) (s := s) (H := H) (E := E)
  have ow := own_body (P := P) (w := w) (K := K) (mg := mg) (base := base) (N := ["self", "most", "ticks", "faults"]) (qual := "Bears.shows") (sc := defScope s_Bears_shows) (f := f) (cdv := cdv) (A := A) (outer := outer) (s := s) (H := H) (E := E)
  exact (s_one (s_ret (f_eqI (l := [("Bears", m_Bears___eq__), ("Passed", m_Passed___eq__)]) (cs := ["Bears"]) (.cons ((ok_Bears___eq__ T).mono (k := 1) (by decide)) (.cons ((ok_Passed___eq__ T).mono (k := 1) (by decide)) .nil)) T.n_Bears_Passed__Bears (hr.mono (by decide)) (f_call (ok_judge_bound T) (hr.mono (by decide)) tk (g_cons (g_var 1) (g_cons (g_var 2) (g_cons (g_var 3) g_nil)))) (g_var 0))))
theorem ok_Bears_shows (T : Txt K mg) : OkM P w K mg base 6 "Bears" "shows" ["self", "most", "ticks", "faults"] m_Bears_shows := okM_of T.c_Bears T.m_Bears_shows (fun f fd F => F.binds fun _ _ _ _ _ _ us hl => match us, hl with | [_, _, _, _], _ => rfl) fun f fd F => fn_Bears_shows T F
/-! Faults.__init__ -/
def b_Faults___init__ : SDen :=
  (sSeq (sDrop (eCall m_check_number (aCons (eC (.str "many")) (aCons (eVar 1) (aCons (eC (.int 0)) (aCons (eC (.int 999)) aNil))))))
  (sSeq (sDrop (eCall m_check_number (aCons (eC (.str "ticks")) (aCons (eVar 2) (aCons (eC (.int 1)) (aCons (eC (.int 99)) aNil))))))
  (sSeq (sAtt "many" ["Faults"] (eVar 0) (eVar 1))
  (sAtt "ticks" ["Faults"] (eVar 0) (eVar 2)))))
def m_Faults___init__ : CallF := callD 3 3 b_Faults___init__
theorem sc_Faults___init__ : FnScope ["self", "many", "ticks"] ["self", "many", "ticks"] (defScope s_Faults___init__) := ⟨rfl, rfl, rfl, by decide +kernel, rfl, by decide +kernel, by decide +kernel⟩
theorem fn_Faults___init__ (T : Txt K mg) {f : Addr} {fd : FuncData} (F : Fun K "__init__" "Faults.__init__" s_Faults___init__ f fd) : FnOk P w K mg base (L2.CX P w) 4 f fd ["self", "many", "ticks"] (spG K mg m_Faults___init__) := by
  have nd := (sc_Faults___init__).nd
  refine Fun.den (m := b_Faults___init__) (N := ["self", "many", "ticks"]) (np := 3) (nl := 3) F sc_Faults___init__ rfl rfl fun cdv A outer s H E hr Γ hx => ?_
  have tk := takes_body (P := P) (w := w) (K := K) (mg := mg) (base := base) (N := ["self", "many", "ticks"]) (qual := "Faults.__init__") (sc := defScope s_Faults___init__) (f := f) (cdv := cdv) (A := A) (outer := outer) (s := s) (H := H) (E := E)
  have ow := own_body (P := P) (w := w) (K := K) (mg := mg) (base := base) (N := ["self", "many", "ticks"]) (qual := "Faults.__init__") (sc := defScope s_Faults___init__) (f := f) (cdv := cdv) (A := A) (outer := outer) (s := s) (H := H) (E := E)
  exact (s_cons (s_drop (f_call (ok_check_number T) (hr.mono (by decide)) tk (g_cons g_str (g_cons (g_var 1) (g_cons g_int (g_cons g_int g_nil))))))
    (s_cons (s_drop (f_call (ok_check_number T) (hr.mono (by decide)) tk (g_cons g_str (g_cons (g_var 2) (g_cons g_int (g_cons g_int g_nil))))))
    (s_cons (s_att (cs := ["Faults"]) rfl T.a_many_Faults (g_var 0) (g_var 1))
    (s_one (s_att (cs := ["Faults"]) rfl T.a_ticks_Faults (g_var 0) (g_var 2))))))
theorem ok_Faults___init__ (T : Txt K mg) : OkM P w K mg base 4 "Faults" "__init__" ["self", "many", "ticks"] m_Faults___init__ := okM_of T.c_Faults T.m_Faults___init__ (fun f fd F => F.binds fun _ _ _ _ _ _ us hl => match us, hl with | [_, _, _], _ => rfl) fun f fd F => fn_Faults___init__ T F
/-! Passed.__bool__ -/
def b_Passed___bool__ : SDen :=
  (sRet (eC (.bl false)))
def m_Passed___bool__ : CallF := callD 1 1 b_Passed___bool__
theorem sc_Passed___bool__ : FnScope ["self"] ["self"] (defScope s_Passed___bool__) := ⟨rfl, rfl, rfl, by decide +kernel, rfl, by decide +kernel, by decide +kernel⟩
theorem fn_Passed___bool__ (T : Txt K mg) {f : Addr} {fd : FuncData} (F : Fun K "__bool__" "Passed.__bool__" s_Passed___bool__ f fd) : FnOk P w K mg base (L2.CX P w) 1 f fd ["self"] (spG K mg m_Passed___bool__) := by
  have nd := (sc_Passed___bool__).nd
  refine Fun.den (m := b_Passed___bool__) (N := ["self"]) (np := 1) (nl := 1) F sc_Passed___bool__ rfl rfl fun cdv A outer s H E hr Γ hx => ?_
  have tk := takes_body (P := P) (w := w) (K := K) (mg := mg) (base := base) (N := ["self"]) (qual := "Passed.__bool__") (sc := defScope s_Passed___bool__) (f := f) (cdv := cdv) (A := A) (outer := outer) (s := s) (H := H) (E := E)
  have ow := own_body (P := P) (w := w) (K := K) (mg := mg) (base := base) (N := ["self"]) (qual := "Passed.__bool__") (sc := defScope s_Passed___bool__) (f := f) (cdv := cdv) (A := A) (outer := outer) (s := s) (H := H) (E := E)
  exact (s_one (s_ret g_bl))
theorem ok_Passed___bool__ (T : Txt K mg) : OkM P w K mg base 1 "Passed" "__bool__" ["self"] m_Passed___bool__ := okM_of T.c_Passed T.m_Passed___bool__ (fun f fd F => F.binds fun _ _ _ _ _ _ us hl => match us, hl with | [_], _ => rfl) fun f fd F => fn_Passed___bool__ T F
/-! is_row -/
def b_is_row : SDen :=
  (sRet (e1 (gIsi ["list", "tuple"] [] []) (ePeek 0)))
def m_is_row : CallF := callD 1 1 b_is_row
theorem sc_is_row : FnScope ["thing"] ["thing"] (defScope s_is_row) := ⟨rfl, rfl, rfl, by decide +kernel, rfl, by decide +kernel, by decide +kernel⟩
theorem fn_is_row (T : Txt K mg) {f : Addr} {fd : FuncData} (F : Fun K "is_row" "is_row" s_is_row f fd) : FnOk P w K mg base (L2.CX P w) 1 f fd ["thing"] (spG K mg m_is_row) := by
  have nd := (sc_is_row).nd
  refine Fun.den (m := b_is_row) (N := ["thing"]) (np := 1) (nl := 1) F sc_is_row rfl rfl fun cdv A outer s H E hr Γ hx => ?_
  have tk := takes_body (P := P) (w := w) (K := K) (mg := mg) (base := base) (N := ["thing"]) (qual := "is_row") (sc := defScope s_is_row) (f := f) (cdv := cdv) (A := A) (outer := outer) (s := s) (H := H) (E := E)
  have ow := own_body (P := P) (w := w) (K := K) (mg := mg) (base := base) (N := ["thing"]) (qual := "is_row") (sc := defScope s_is_row) (f := f) (cdv := cdv) (A := A) (outer := outer) (s := s) (H := H) (E := E)
  exact (s_one (s_ret (f_isiB2 T.i_list_tuple T.z_isinstance T.z_list (by decide +kernel) T.z_tuple (by decide +kernel) (g_peek 0))))
theorem ok_is_row (T : Txt K mg) : OkG P w K mg base 1 "is_row" ["thing"] m_is_row := okG_of T.g_is_row (fun f fd F => F.binds fun _ _ _ _ _ _ us hl => match us, hl with | [_], _ => rfl) fun f fd F => fn_is_row T F
/-! check_falls -/
def lb_check_falls_0 : SDen :=
  (sSeq (sIf (tNot (tTr (eCall m_is_number (aCons (eVar 3) (aCons (eVar 1) (aCons (eC (.int 99999)) aNil)))))) (sRaise "BadPart" ["part", "place"] (aCons (eC (.str "falls")) (aCons (eVar 2) aNil))) sNil)
  (sAsg 1 (eVar 3)))
theorem u_lb_check_falls_0 (ρ : REnv) (st : Store) : lb_check_falls_0 ρ st = (sSeq (sIf (tNot (tTr (eCall m_is_number (aCons (eVar 3) (aCons (eVar 1) (aCons (eC (.int 99999)) aNil)))))) (sRaise "BadPart" ["part", "place"] (aCons (eC (.str "falls")) (aCons (eVar 2) aNil))) sNil)
  (sAsg 1 (eVar 3))) ρ st := rfl
def b_check_falls : SDen :=
  (sSeq (sIf (tNot (tTr (eCall m_is_row (aCons (eVar 0) aNil)))) (sRaise "BadPart" ["part", "place"] (aCons (eC (.str "falls")) (aCons (eC .non) aNil))) sNil)
  (sSeq (sAsg 1 (eC (.int 0)))
  (sFor (lEnumU (aCons (eVar 0) aNil)) (bTup 2 (bCons (bName 2) (bCons (bName 3) bNil))) lb_check_falls_0)))
def m_check_falls : CallF := callD 1 4 b_check_falls
theorem sc_check_falls : FnScope ["falls", "last", "place", "tick"] ["falls"] (defScope s_check_falls) := ⟨rfl, rfl, rfl, by decide +kernel, rfl, by decide +kernel, by decide +kernel⟩
theorem fn_check_falls (T : Txt K mg) {f : Addr} {fd : FuncData} (F : Fun K "check_falls" "check_falls" s_check_falls f fd) : FnOk P w K mg base (L2.CX P w) 3 f fd ["falls"] (spG K mg m_check_falls) := by
  have nd := (sc_check_falls).nd
  refine Fun.den (m := b_check_falls) (N := ["falls", "last", "place", "tick"]) (np := 1) (nl := 4) F sc_check_falls rfl rfl fun cdv A outer s H E hr Γ hx => ?_
  have tk := takes_body (P := P) (w := w) (K := K) (mg := mg) (base := base) (N := ["falls", "last", "place", "tick"]) (qual := "check_falls") (sc := defScope s_check_falls) (f := f) (cdv := cdv) (A := A) (outer := outer) (s := s) (H := H) (E := E)
  have ow := own_body (P := P) (w := w) (K := K) (mg := mg) (base := base) (N := ["falls", "last", "place", "tick"]) (qual := "check_falls") (sc := defScope s_check_falls) (f := f) (cdv := cdv) (A := A) (outer := outer) (s := s) (H := H) (E := E)
  exact (s_cons (s_if (g_not (g_tr rfl (g_vr (f_call (ok_is_row T) (hr.mono (by decide)) tk (g_cons (g_var 0) g_nil))))) (s_one (f_raise2 (okx_BadPart T) (hr.mono (by decide)) rfl tk (g_cons g_str (g_cons g_non g_nil)))) s_nil)
    (s_cons (s_asg nd g_int)
    (s_one (s_for ow rfl (i_enumU rfl T.z_enumerate (g_cons (g_var 0) g_nil)) (fun Γ => (b_tup rfl rfl (b_cons (b_name 2 nd) (b_cons (b_name 3 nd) b_nil)))) (fun Γ q0 => (s_cons (s_if (g_not (g_tr rfl (g_vr (f_call (ok_is_number T) (hr.mono (by decide)) tk (g_cons (g_var 3) (g_cons (g_var 1) (g_cons g_int g_nil))))))) (s_one (f_raise2 (okx_BadPart T) (hr.mono (by decide)) rfl tk (g_cons g_str (g_cons (g_var 2) g_nil)))) s_nil)
    (s_one (s_asg nd (g_var 3)))))))))
theorem ok_check_falls (T : Txt K mg) : OkG P w K mg base 3 "check_falls" ["falls"] m_check_falls := okG_of T.g_check_falls (fun f fd F => F.binds fun _ _ _ _ _ _ us hl => match us, hl with | [_], _ => rfl) fun f fd F => fn_check_falls T F
/-! within -/
def ct_within_0 : TDen :=
  (tB (e2 gGt (ePeek 3) (e2 gSub (ePeek 1) (ePeek 2))))
theorem u_ct_within_0 (ρ : REnv) (st : Store) : ct_within_0 ρ st = (tB (e2 gGt (ePeek 3) (e2 gSub (ePeek 1) (ePeek 2)))) ρ st := rfl
def b_within : SDen :=
  (sRet (eN gTuple (aCons (eComp (lSeq (eVar 0)) (bName 3) ct_within_0 (eVar 3) [3]) aNil)))
def m_within : CallF := callD 3 4 b_within
theorem sc_within : FnScope ["falls", "now", "ticks", "tick"] ["falls", "now", "ticks"] (defScope s_within) := ⟨rfl, rfl, rfl, by decide +kernel, rfl, by decide +kernel, by decide +kernel⟩
theorem fn_within (T : Txt K mg) {f : Addr} {fd : FuncData} (F : Fun K "within" "within" s_within f fd) : FnOk P w K mg base (L2.CX P w) 1 f fd ["falls", "now", "ticks"] (spG K mg m_within) := by
  have nd := (sc_within).nd
  refine Fun.den (m := b_within) (N := ["falls", "now", "ticks", "tick"]) (np := 3) (nl := 4) F sc_within rfl rfl fun cdv A outer s H E hr Γ hx => ?_
  have tk := takes_body (P := P) (w := w) (K := K) (mg := mg) (base := base) (N := ["falls", "now", "ticks", "tick"]) (qual := "within") (sc := defScope s_within) (f := f) (cdv := cdv) (A := A) (outer := outer) (s := s) (H := H) (E := E)
  have ow := own_body (P := P) (w := w) (K := K) (mg := mg) (base := base) (N := ["falls", "now", "ticks", "tick"]) (qual := "within") (sc := defScope s_within) (f := f) (cdv := cdv) (A := A) (outer := outer) (s := s) (H := H) (E := E)
  exact (s_one (s_ret (g_callTy call_tuple_of kV_late sem_tuple T.z_tuple (by decide +kernel) (r_cons (g_vr (g_ov (g_lc (own := [("tick", 3)]) rfl nd (i_gc (i_seq rfl (g_var 0))) (blkOk_by (by kernel_rfl)) (fun _ _ _ _ _ => (b_name 3 nd)) (fun _ _ _ _ _ => (ts_one (g_tcmp op_gt sem_gt (g_peek 3) (g_vr (g_bin op_sub kV_late sem_sub (g_peek 1) (g_peek 2))) rfl))) (fun _ _ _ _ _ => (g_var 3))))) r_nil))))
theorem ok_within (T : Txt K mg) : OkG P w K mg base 1 "within" ["falls", "now", "ticks"] m_within := okG_of T.g_within (fun f fd F => F.binds fun _ _ _ _ _ _ us hl => match us, hl with | [_, _, _], _ => rfl) fun f fd F => fn_within T F
/-! are_within -/
def ce_are_within_0 : EDen :=
  (e2 gLe (eN gLen (aCons (eCall m_within (aCons (eCutL (eN gList (aCons (ePeek 1) aNil)) oNone (oSome (e2 gAdd (ePeek 2) (eC (.int 1))))) (aCons (eVar 3) (aCons (e1 (eAttC "ticks" ["Faults"]) (eVar 0)) aNil)))) aNil)) (e1 (eAttC "many" ["Faults"]) (eVar 0)))
theorem u_ce_are_within_0 (ρ : REnv) (st : Store) : ce_are_within_0 ρ st = (e2 gLe (eN gLen (aCons (eCall m_within (aCons (eCutL (eN gList (aCons (ePeek 1) aNil)) oNone (oSome (e2 gAdd (ePeek 2) (eC (.int 1))))) (aCons (eVar 3) (aCons (e1 (eAttC "ticks" ["Faults"]) (eVar 0)) aNil)))) aNil)) (e1 (eAttC "many" ["Faults"]) (eVar 0))) ρ st := rfl
def b_are_within : SDen :=
  (sSeq (sDrop (eCall m_check_faults (aCons (eVar 0) aNil)))
  (sSeq (sDrop (eCall m_check_falls (aCons (eVar 1) aNil)))
  (sRet (eN gAll (aCons (eComp (lEnumU (aCons (eVar 1) aNil)) (bTup 2 (bCons (bName 2) (bCons (bName 3) bNil))) tYes ce_are_within_0 [2, 3]) aNil)))))
def m_are_within : CallF := callD 2 4 b_are_within
theorem sc_are_within : FnScope ["faults", "falls", "place", "tick"] ["faults", "falls"] (defScope s_are_within) := ⟨rfl, rfl, rfl, by decide +kernel, rfl, by decide +kernel, by decide +kernel⟩
theorem fn_are_within (T : Txt K mg) {f : Addr} {fd : FuncData} (F : Fun K "are_within" "are_within" s_are_within f fd) : FnOk P w K mg base (L2.CX P w) 4 f fd ["faults", "falls"] (spG K mg m_are_within) := by
  have nd := (sc_are_within).nd
  refine Fun.den (m := b_are_within) (N := ["faults", "falls", "place", "tick"]) (np := 2) (nl := 4) F sc_are_within rfl rfl fun cdv A outer s H E hr Γ hx => ?_
  have tk := takes_body (P := P) (w := w) (K := K) (mg := mg) (base := base) (N := ["faults", "falls", "place", "tick"]) (qual := "are_within") (sc := defScope s_are_within) (f := f) (cdv := cdv) (A := A) (outer := outer) (s := s) (H := H) (E := E)
  have ow := own_body (P := P) (w := w) (K := K) (mg := mg) (base := base) (N := ["faults", "falls", "place", "tick"]) (qual := "are_within") (sc := defScope s_are_within) (f := f) (cdv := cdv) (A := A) (outer := outer) (s := s) (H := H) (E := E)
  exact (s_cons (s_drop (f_call (ok_check_faults T) (hr.mono (by decide)) tk (g_cons (g_var 0) g_nil)))
    (s_cons (s_drop (f_call (ok_check_falls T) (hr.mono (by decide)) tk (g_cons (g_var 1) g_nil)))
    (s_one (s_ret (g_callB (cr_all rfl) kV_late sem_all T.z_all (by decide +kernel) (r_cons (g_vr (g_ov (g_lc (own := [("place", 2), ("tick", 3)]) rfl nd (i_gc (i_enumU rfl T.z_enumerate (g_cons (g_var 1) g_nil))) (blkOk_by (by kernel_rfl)) (fun _ _ _ _ _ => (b_tup rfl rfl (b_cons (b_name 2 nd) (b_cons (b_name 3 nd) b_nil)))) (fun _ _ _ _ _ => ts_nil) (fun _ _ _ _ _ => (g_cmp op_le sem_le (g_vr (g_callB call_lenU kV_late sem_len T.z_len (by decide +kernel) (r_cons (g_vr (f_call (ok_within T) (hr.mono (by decide)) takesW (g_cons (g_ov (g_cutL rfl (g_vr (g_ov (g_callTy call_list_of kO_late sem_list T.z_list (by decide +kernel) (r_cons (g_peek 1) r_nil)))) o_none (o_some (g_vr (g_bin op_addU kV_late sem_add (g_peek 2) (g_vr g_int)))))) (g_cons (g_var 3) (g_cons (g_att (cs := ["Faults"]) rfl T.a_ticks_Faults (g_var 0)) g_nil))))) r_nil))) (g_vr (g_att (cs := ["Faults"]) rfl T.a_many_Faults (g_var 0))) rfl))))) r_nil))))))
theorem ok_are_within (T : Txt K mg) : OkG P w K mg base 4 "are_within" ["faults", "falls"] m_are_within := okG_of T.g_are_within (fun f fd F => F.binds fun _ _ _ _ _ _ us hl => match us, hl with | [_, _], _ => rfl) fun f fd F => fn_are_within T F
/-! first_beyond -/
def lb_first_beyond_0 : SDen :=
  (sIf (tB (e2 gGt (eN gLen (aCons (eCall m_within (aCons (eCutL (eN gList (aCons (ePeek 2) aNil)) oNone (oSome (e2 gAdd (ePeek 3) (eC (.int 1))))) (aCons (eVar 4) (aCons (eVar 1) aNil)))) aNil)) (ePeek 0))) (sRet (eVar 3)) sNil)
theorem u_lb_first_beyond_0 (ρ : REnv) (st : Store) : lb_first_beyond_0 ρ st = (sIf (tB (e2 gGt (eN gLen (aCons (eCall m_within (aCons (eCutL (eN gList (aCons (ePeek 2) aNil)) oNone (oSome (e2 gAdd (ePeek 3) (eC (.int 1))))) (aCons (eVar 4) (aCons (eVar 1) aNil)))) aNil)) (ePeek 0))) (sRet (eVar 3)) sNil) ρ st := rfl
def b_first_beyond : SDen :=
  (sSeq (sDrop (eCall m_check_number (aCons (eC (.str "most")) (aCons (eVar 0) (aCons (eC (.int 0)) (aCons (eC (.int 99)) aNil))))))
  (sSeq (sDrop (eCall m_check_number (aCons (eC (.str "ticks")) (aCons (eVar 1) (aCons (eC (.int 1)) (aCons (eC (.int 99)) aNil))))))
  (sSeq (sDrop (eCall m_check_falls (aCons (eVar 2) aNil)))
  (sSeq (sFor (lEnumU (aCons (eVar 2) aNil)) (bTup 2 (bCons (bName 3) (bCons (bName 4) bNil))) lb_first_beyond_0)
  (sRet (eC .non))))))
def m_first_beyond : CallF := callD 3 5 b_first_beyond
theorem sc_first_beyond : FnScope ["most", "ticks", "falls", "place", "tick"] ["most", "ticks", "falls"] (defScope s_first_beyond) := ⟨rfl, rfl, rfl, by decide +kernel, rfl, by decide +kernel, by decide +kernel⟩
theorem fn_first_beyond (T : Txt K mg) {f : Addr} {fd : FuncData} (F : Fun K "first_beyond" "first_beyond" s_first_beyond f fd) : FnOk P w K mg base (L2.CX P w) 4 f fd ["most", "ticks", "falls"] (spG K mg m_first_beyond) := by
  have nd := (sc_first_beyond).nd
  refine Fun.den (m := b_first_beyond) (N := ["most", "ticks", "falls", "place", "tick"]) (np := 3) (nl := 5) F sc_first_beyond rfl rfl fun cdv A outer s H E hr Γ hx => ?_
  have tk := takes_body (P := P) (w := w) (K := K) (mg := mg) (base := base) (N := ["most", "ticks", "falls", "place", "tick"]) (qual := "first_beyond") (sc := defScope s_first_beyond) (f := f) (cdv := cdv) (A := A) (outer := outer) (s := s) (H := H) (E := E)
  have ow := own_body (P := P) (w := w) (K := K) (mg := mg) (base := base) (N := ["most", "ticks", "falls", "place", "tick"]) (qual := "first_beyond") (sc := defScope s_first_beyond) (f := f) (cdv := cdv) (A := A) (outer := outer) (s := s) (H := H) (E := E)
  exact (s_cons (s_drop (f_call (ok_check_number T) (hr.mono (by decide)) tk (g_cons g_str (g_cons (g_var 0) (g_cons g_int (g_cons g_int g_nil))))))
    (s_cons (s_drop (f_call (ok_check_number T) (hr.mono (by decide)) tk (g_cons g_str (g_cons (g_var 1) (g_cons g_int (g_cons g_int g_nil))))))
    (s_cons (s_drop (f_call (ok_check_falls T) (hr.mono (by decide)) tk (g_cons (g_var 2) g_nil)))
    (s_cons (s_for ow rfl (i_enumU rfl T.z_enumerate (g_cons (g_var 2) g_nil)) (fun Γ => (b_tup rfl rfl (b_cons (b_name 3 nd) (b_cons (b_name 4 nd) b_nil)))) (fun Γ q0 => (s_one (s_if (g_tcmp op_gt sem_gt (g_vr (g_callB call_lenU kV_late sem_len T.z_len (by decide +kernel) (r_cons (g_vr (f_call (ok_within T) (hr.mono (by decide)) tk (g_cons (g_ov (g_cutL rfl (g_vr (g_ov (g_callTy call_list_of kO_late sem_list T.z_list (by decide +kernel) (r_cons (g_peek 2) r_nil)))) o_none (o_some (g_vr (g_bin op_addU kV_late sem_add (g_peek 3) (g_vr g_int)))))) (g_cons (g_var 4) (g_cons (g_var 1) g_nil))))) r_nil))) (g_peek 0) rfl) (s_one (s_ret (g_var 3))) s_nil))))
    (s_one (s_ret g_non))))))
theorem ok_first_beyond (T : Txt K mg) : OkG P w K mg base 4 "first_beyond" ["most", "ticks", "falls"] m_first_beyond := okG_of T.g_first_beyond (fun f fd F => F.binds fun _ _ _ _ _ _ us hl => match us, hl with | [_, _, _], _ => rfl) fun f fd F => fn_first_beyond T F
/-! Passed.shows -/
def lb_Passed_shows_0 : SDen :=
  (sSeq (sIf (tNot (tTr (eCall m_is_number (aCons (eVar 5) (aCons (eVar 4) (aCons (eC (.int 99999)) aNil)))))) (sRet (eC (.bl false))) sNil)
  (sAsg 4 (eVar 5)))
theorem u_lb_Passed_shows_0 (ρ : REnv) (st : Store) : lb_Passed_shows_0 ρ st = (sSeq (sIf (tNot (tTr (eCall m_is_number (aCons (eVar 5) (aCons (eVar 4) (aCons (eC (.int 99999)) aNil)))))) (sRet (eC (.bl false))) sNil)
  (sAsg 4 (eVar 5))) ρ st := rfl
def b_Passed_shows : SDen :=
  (sSeq (sDrop (eCall m_check_bound (aCons (eVar 1) (aCons (eVar 2) (aCons (eVar 3) aNil)))))
  (sSeq (sAsg 4 (eC (.int 0)))
  (sSeq (sFor (lSeq (e1 (eAttC "falls" ["Passed"]) (eVar 0))) (bName 5) lb_Passed_shows_0)
  (sSeq (sIf (tNot (tTr (eCall m_are_within (aCons (eVar 3) (aCons (e1 (eAttC "falls" ["Passed"]) (eVar 0)) aNil))))) (sRet (eC (.bl false))) sNil)
  (sRet (eAnd (e2 gEq (eCall m_first_beyond (aCons (eVar 1) (aCons (eVar 2) (aCons (e1 (eAttC "falls" ["Passed"]) (eVar 0)) aNil)))) (e2 gSub (eN gLen (aCons (e1 (eAttC "falls" ["Passed"]) (eVar 0)) aNil)) (eC (.int 1)))) (e2 gNe (e1 (eAttC "falls" ["Passed"]) (eVar 0)) (eTup aNil))))))))
def m_Passed_shows : CallF := callD 4 6 b_Passed_shows
theorem sc_Passed_shows : FnScope ["self", "most", "ticks", "faults", "last", "tick"] ["self", "most", "ticks", "faults"] (defScope s_Passed_shows) := ⟨rfl, rfl, rfl, by decide +kernel, rfl, by decide +kernel, by decide +kernel⟩
theorem fn_Passed_shows (T : Txt K mg) {f : Addr} {fd : FuncData} (F : Fun K "shows" "Passed.shows" s_Passed_shows f fd) : FnOk P w K mg base (L2.CX P w) 5 f fd ["self", "most", "ticks", "faults"] (spG K mg m_Passed_shows) := by
  have nd := (sc_Passed_shows).nd
  refine Fun.den (m := b_Passed_shows) (N := ["self", "most", "ticks", "faults", "last", "tick"]) (np := 4) (nl := 6) F sc_Passed_shows rfl rfl fun cdv A outer s H E hr Γ hx => ?_
  have tk := takes_body (P := P) (w := w) (K := K) (mg := mg) (base := base) (N := ["self", "most", "ticks", "faults", "last", "tick"]) (qual := "Passed.shows") (sc := defScope s_Passed_shows) (f := f) (cdv := cdv) (A := A) (outer := outer) (s := s) (H := H) (E := E)
  have ow := own_body (P := P) (w := w) (K := K) (mg := mg) (base := base) (N := ["self", "most", "ticks", "faults", "last", "tick"]) (qual := "Passed.shows") (sc := defScope s_Passed_shows) (f := f) (cdv := cdv) (A := A) (outer := outer) (s := s) (H := H) (E := E)
  exact (s_cons (s_drop (f_call (ok_check_bound T) (hr.mono (by decide)) tk (g_cons (g_var 1) (g_cons (g_var 2) (g_cons (g_var 3) g_nil)))))
    (s_cons (s_asg nd g_int)
    (s_cons (s_for ow rfl (i_seq rfl (g_att (cs := ["Passed"]) rfl T.a_falls_Passed (g_var 0))) (fun Γ => (b_name 5 nd)) (fun Γ q0 => (s_cons (s_if (g_not (g_tr rfl (g_vr (f_call (ok_is_number T) (hr.mono (by decide)) tk (g_cons (g_var 5) (g_cons (g_var 4) (g_cons g_int g_nil))))))) (s_one (s_ret g_bl)) s_nil)
    (s_one (s_asg nd (g_var 5))))))
    (s_cons (s_if (g_not (g_tr rfl (g_vr (f_call (ok_are_within T) (hr.mono (by decide)) tk (g_cons (g_var 3) (g_cons (g_att (cs := ["Passed"]) rfl T.a_falls_Passed (g_var 0)) g_nil)))))) (s_one (s_ret g_bl)) s_nil)
    (s_one (s_ret (g_andV rfl (g_cmp (op_eqU hr.units) sem_eq (g_vr (f_call (ok_first_beyond T) (hr.mono (by decide)) tk (g_cons (g_var 1) (g_cons (g_var 2) (g_cons (g_att (cs := ["Passed"]) rfl T.a_falls_Passed (g_var 0)) g_nil))))) (g_vr (g_bin op_sub kV_late sem_sub (g_vr (g_callB call_lenU kV_late sem_len T.z_len (by decide +kernel) (r_cons (g_vr (g_att (cs := ["Passed"]) rfl T.a_falls_Passed (g_var 0))) r_nil))) (g_vr g_int))) rfl) (g_one (g_cmp (op_neU hr.units) sem_ne (g_vr (g_att (cs := ["Passed"]) rfl T.a_falls_Passed (g_var 0))) (g_vr (g_tup g_nil)) rfl)))))))))
theorem ok_Passed_shows (T : Txt K mg) : OkM P w K mg base 5 "Passed" "shows" ["self", "most", "ticks", "faults"] m_Passed_shows := okM_of T.c_Passed T.m_Passed_shows (fun f fd F => F.binds fun _ _ _ _ _ _ us hl => match us, hl with | [_, _, _, _], _ => rfl) fun f fd F => fn_Passed_shows T F
/-! _law_number -/
def lb__law_number_0 : SDen :=
  (sAsg 4 (e2 gFdiv (ePeek 4) (eC (.int 1009))))
theorem u_lb__law_number_0 (ρ : REnv) (st : Store) : lb__law_number_0 ρ st = (sAsg 4 (e2 gFdiv (ePeek 4) (eC (.int 1009)))) ρ st := rfl
def b__law_number : SDen :=
  (sSeq (sAsgT (bTup 2 (bCons (bName 2) (bCons (bName 3) bNil))) (eIf (tB (e2 gNe (ePeek 0) (eLst aNil))) (eTup (aCons (e2 gIx (ePeek 0) (e2 gMod (ePeek 1) (eN gLen (aCons (ePeek 0) aNil)))) (aCons (e2 gFdiv (ePeek 1) (eN gLen (aCons (ePeek 0) aNil))) aNil))) (eTup (aCons (eC (.int 12345)) (aCons (eC (.int 0)) aNil)))))
  (sSeq (sAsg 4 (eIf (tB (e2 gLt (ePeek 3) (eC (.int 60)))) (e2 gSub (ePeek 2) (e2 gPow (eC (.int 10)) (eC (.int 18)))) (eC (.int 0))))
  (sSeq (sFor (lRange1 (aCons (e2 gMod (eN gInt (aCons (ePeek 3) aNil)) (eC (.int 60))) aNil)) (bName 5) lb__law_number_0)
  (sSeq (sIf (tB (e2 gGt (ePeek 4) (eC (.int 0)))) (sRet (e2 gMod (eN gInt (aCons (ePeek 4) aNil)) (eC (.int 1009)))) sNil)
  (sSeq (sAsg 6 (e2 gMod (e2 gAddI (e2 gMul (eN gInt (aCons (e2 gAddI (ePeek 2) (e2 gMul (eC (.int 977)) (ePeek 1))) aNil)) (eC (.int 48271))) (e2 gMul (eC (.int 31)) (eN gLen (aCons (ePeek 0) aNil)))) (eC (.int 2147483647))))
  (sSeq (sAsg 6 (e2 gMod (e2 gAddI (e2 gMul (ePeek 6) (ePeek 6)) (e2 gMul (eC (.int 40503)) (ePeek 1))) (eC (.int 2147483629))))
  (sRet (eN gInt (aCons (e2 gMod (e2 gAddI (e2 gMul (ePeek 6) (eC (.int 69621))) (e2 gFdiv (ePeek 6) (eC (.int 977)))) (eC (.int 2147483587))) aNil)))))))))
def m__law_number : CallF := callD 2 7 b__law_number
theorem sc__law_number : FnScope ["script", "index", "cell", "turn", "rest", "step", "blend"] ["script", "index"] (defScope s__law_number) := ⟨rfl, rfl, rfl, by decide +kernel, rfl, by decide +kernel, by decide +kernel⟩
theorem fn__law_number (T : Txt K mg) {f : Addr} {fd : FuncData} (F : Fun K "_law_number" "_law_number" s__law_number f fd) : FnOk P w K mg base (L2.CX P w) 1 f fd ["script", "index"] (spG K mg m__law_number) := by
  have nd := (sc__law_number).nd
  refine Fun.den (m := b__law_number) (N := ["script", "index", "cell", "turn", "rest", "step", "blend"]) (np := 2) (nl := 7) F sc__law_number rfl rfl fun cdv A outer s H E hr Γ hx => ?_
  have tk := takes_body (P := P) (w := w) (K := K) (mg := mg) (base := base) (N := ["script", "index", "cell", "turn", "rest", "step", "blend"]) (qual := "_law_number") (sc := defScope s__law_number) (f := f) (cdv := cdv) (A := A) (outer := outer) (s := s) (H := H) (E := E)
  have ow := own_body (P := P) (w := w) (K := K) (mg := mg) (base := base) (N := ["script", "index", "cell", "turn", "rest", "step", "blend"]) (qual := "_law_number") (sc := defScope s__law_number) (f := f) (cdv := cdv) (A := A) (outer := outer) (s := s) (H := H) (E := E)
  exact (s_cons (s_asgT (g_if kV_late (g_tcmp (op_neU hr.units) sem_ne (g_peek 0) (g_vr (g_ov (g_lst g_nil))) rfl) (g_tup (g_cons (g_sub rfl (hu_of hr) (g_peek 0) (g_vr (g_bin op_mod kV_late sem_mod (g_peek 1) (g_vr (g_callB call_lenU kV_late sem_len T.z_len (by decide +kernel) (r_cons (g_peek 0) r_nil)))))) (g_cons (g_bin op_fdiv kV_late sem_fdiv (g_peek 1) (g_vr (g_callB call_lenU kV_late sem_len T.z_len (by decide +kernel) (r_cons (g_peek 0) r_nil)))) g_nil))) (g_tup (g_cons g_int (g_cons g_int g_nil)))) (b_tup rfl rfl (b_cons (b_name 2 nd) (b_cons (b_name 3 nd) b_nil))))
    (s_cons (s_asg nd (g_if kV_late (g_tcmp op_lt sem_lt (g_peek 3) (g_vr g_int) rfl) (g_bin op_sub kV_late sem_sub (g_peek 2) (g_vr (g_bin op_pow kV_late sem_pow (g_vr g_int) (g_vr g_int)))) g_int))
    (s_cons (s_for ow rfl (i_range1 T.z_range (g_cons (g_bin op_mod kV_late sem_mod (g_vr (g_callTy call_int1 kV_late sem_int T.z_int (by decide +kernel) (r_cons (g_peek 3) r_nil))) (g_vr g_int)) g_nil)) (fun Γ => (b_name 5 nd)) (fun Γ q0 => (s_one (s_asg nd (g_bin op_fdiv kV_late sem_fdiv (g_peek 4) (g_vr g_int))))))
    (s_cons (s_if (g_tcmp op_gt sem_gt (g_peek 4) (g_vr g_int) rfl) (s_one (s_ret (g_bin op_mod kV_late sem_mod (g_vr (g_callTy call_int1 kV_late sem_int T.z_int (by decide +kernel) (r_cons (g_peek 4) r_nil))) (g_vr g_int)))) s_nil)
    (s_cons (s_asg nd (g_bin op_mod kV_late sem_mod (g_vr (g_bin op_add kV_late sem_addI (g_vr (g_bin op_mul kV_late sem_mul (g_vr (g_callTy call_int1 kV_late sem_int T.z_int (by decide +kernel) (r_cons (g_vr (g_bin op_add kV_late sem_addI (g_peek 2) (g_vr (g_bin op_mul kV_late sem_mul (g_vr g_int) (g_peek 1))))) r_nil))) (g_vr g_int))) (g_vr (g_bin op_mul kV_late sem_mul (g_vr g_int) (g_vr (g_callB call_lenU kV_late sem_len T.z_len (by decide +kernel) (r_cons (g_peek 0) r_nil))))))) (g_vr g_int)))
    (s_cons (s_asg nd (g_bin op_mod kV_late sem_mod (g_vr (g_bin op_add kV_late sem_addI (g_vr (g_bin op_mul kV_late sem_mul (g_peek 6) (g_peek 6))) (g_vr (g_bin op_mul kV_late sem_mul (g_vr g_int) (g_peek 1))))) (g_vr g_int)))
    (s_one (s_ret (g_callTy call_int1 kV_late sem_int T.z_int (by decide +kernel) (r_cons (g_vr (g_bin op_mod kV_late sem_mod (g_vr (g_bin op_add kV_late sem_addI (g_vr (g_bin op_mul kV_late sem_mul (g_peek 6) (g_vr g_int))) (g_vr (g_bin op_fdiv kV_late sem_fdiv (g_peek 6) (g_vr g_int))))) (g_vr g_int))) r_nil))))))))))
theorem ok__law_number (T : Txt K mg) : OkG P w K mg base 1 "_law_number" ["script", "index"] m__law_number := okG_of T.g__law_number (fun f fd F => F.binds fun _ _ _ _ _ _ us hl => match us, hl with | [_, _], _ => rfl) fun f fd F => fn__law_number T F
/-! _law_take -/
def b__law_take : SDen :=
  (sSeq (sAugI (eVar 0) (eC (.int 1)) gAddI (eC (.int 1)))
  (sRet (e2 gMod (eN gInt (aCons (eCall m__law_number (aCons (e2 gIx (ePeek 0) (eC (.int 0))) (aCons (eN gInt (aCons (e2 gIx (ePeek 0) (eC (.int 1))) aNil)) aNil))) aNil)) (ePeek 1))))
def m__law_take : CallF := callD 2 2 b__law_take
theorem sc__law_take : FnScope ["draw", "many"] ["draw", "many"] (defScope s__law_take) := ⟨rfl, rfl, rfl, by decide +kernel, rfl, by decide +kernel, by decide +kernel⟩
theorem fn__law_take (T : Txt K mg) {f : Addr} {fd : FuncData} (F : Fun K "_law_take" "_law_take" s__law_take f fd) : FnOk P w K mg base (L2.CX P w) 2 f fd ["draw", "many"] (spG K mg m__law_take) := by
  have nd := (sc__law_take).nd
  refine Fun.den (m := b__law_take) (N := ["draw", "many"]) (np := 2) (nl := 2) F sc__law_take rfl rfl fun cdv A outer s H E hr Γ hx => ?_
  have tk := takes_body (P := P) (w := w) (K := K) (mg := mg) (base := base) (N := ["draw", "many"]) (qual := "_law_take") (sc := defScope s__law_take) (f := f) (cdv := cdv) (A := A) (outer := outer) (s := s) (H := H) (E := E)
  have ow := own_body (P := P) (w := w) (K := K) (mg := mg) (base := base) (N := ["draw", "many"]) (qual := "_law_take") (sc := defScope s__law_take) (f := f) (cdv := cdv) (A := A) (outer := outer) (s := s) (H := H) (E := E)
  exact (s_cons (s_augI rfl (g_var 0) g_int g_int iop_add sem_addI)
    (s_one (s_ret (g_bin op_mod kV_late sem_mod (g_vr (g_callTy call_int1 kV_late sem_int T.z_int (by decide +kernel) (r_cons (g_vr (f_call (ok__law_number T) (hr.mono (by decide)) tk (g_cons (g_sub rfl (hu_of hr) (g_peek 0) (g_vr g_int)) (g_cons (g_callTy call_int1 kV_late sem_int T.z_int (by decide +kernel) (r_cons (g_vr (g_sub rfl (hu_of hr) (g_peek 0) (g_vr g_int))) r_nil)) g_nil)))) r_nil))) (g_peek 1)))))
theorem ok__law_take (T : Txt K mg) : OkG P w K mg base 2 "_law_take" ["draw", "many"] m__law_take := okG_of T.g__law_take (fun f fd F => F.binds fun _ _ _ _ _ _ us hl => match us, hl with | [_, _], _ => rfl) fun f fd F => fn__law_take T F
/-! _law_falls -/
def lb__law_falls_0 : SDen :=
  (sPar [1, 2] (mVal (e2 gAdd (ePeek 1) (eLst (aCons (eVar 2) aNil))) (mVal (e2 gAddI (ePeek 2) (eCall m__law_take (aCons (eVar 0) (aCons (eC (.int 4)) aNil)))) mNil)))
theorem u_lb__law_falls_0 (ρ : REnv) (st : Store) : lb__law_falls_0 ρ st = (sPar [1, 2] (mVal (e2 gAdd (ePeek 1) (eLst (aCons (eVar 2) aNil))) (mVal (e2 gAddI (ePeek 2) (eCall m__law_take (aCons (eVar 0) (aCons (eC (.int 4)) aNil)))) mNil))) ρ st := rfl
def b__law_falls : SDen :=
  (sSeq (sPar [1, 2] (mVal (eLst aNil) (mVal (eCall m__law_take (aCons (eVar 0) (aCons (eC (.int 5)) aNil))) mNil)))
  (sSeq (sFor (lRange1 (aCons (eCall m__law_take (aCons (eVar 0) (aCons (eC (.int 9)) aNil))) aNil)) (bName 3) lb__law_falls_0)
  (sRet (eVar 1))))
def m__law_falls : CallF := callD 1 4 b__law_falls
theorem sc__law_falls : FnScope ["draw", "found", "tick", "turn"] ["draw"] (defScope s__law_falls) := ⟨rfl, rfl, rfl, by decide +kernel, rfl, by decide +kernel, by decide +kernel⟩
theorem fn__law_falls (T : Txt K mg) {f : Addr} {fd : FuncData} (F : Fun K "_law_falls" "_law_falls" s__law_falls f fd) : FnOk P w K mg base (L2.CX P w) 3 f fd ["draw"] (spG K mg m__law_falls) := by
  have nd := (sc__law_falls).nd
  refine Fun.den (m := b__law_falls) (N := ["draw", "found", "tick", "turn"]) (np := 1) (nl := 4) F sc__law_falls rfl rfl fun cdv A outer s H E hr Γ hx => ?_
  have tk := takes_body (P := P) (w := w) (K := K) (mg := mg) (base := base) (N := ["draw", "found", "tick", "turn"]) (qual := "_law_falls") (sc := defScope s__law_falls) (f := f) (cdv := cdv) (A := A) (outer := outer) (s := s) (H := H) (E := E)
  have ow := own_body (P := P) (w := w) (K := K) (mg := mg) (base := base) (N := ["draw", "found", "tick", "turn"]) (qual := "_law_falls") (sc := defScope s__law_falls) (f := f) (cdv := cdv) (A := A) (outer := outer) (s := s) (H := H) (E := E)
  exact (s_cons (s_par2 (i := 1) (j := 2) rfl nd (m_val (g_ov (g_lst g_nil)) (m_val (f_call (ok__law_take T) (hr.mono (by decide)) tk (g_cons (g_var 0) (g_cons g_int g_nil))) m_nil)))
    (s_cons (s_for ow rfl (i_range1 T.z_range (g_cons (f_call (ok__law_take T) (hr.mono (by decide)) tk (g_cons (g_var 0) (g_cons g_int g_nil))) g_nil)) (fun Γ => (b_name 3 nd)) (fun Γ q0 => (s_one (s_par2 (i := 1) (j := 2) rfl nd (m_val (g_bin op_addU kV_late sem_add (g_peek 1) (g_vr (g_ov (g_lst (g_cons (g_var 2) g_nil))))) (m_val (g_bin op_add kV_late sem_addI (g_peek 2) (g_vr (f_call (ok__law_take T) (hr.mono (by decide)) tk (g_cons (g_var 0) (g_cons g_int g_nil))))) m_nil))))))
    (s_one (s_ret (g_var 1)))))
theorem ok__law_falls (T : Txt K mg) : OkG P w K mg base 3 "_law_falls" ["draw"] m__law_falls := okG_of T.g__law_falls (fun f fd F => F.binds fun _ _ _ _ _ _ us hl => match us, hl with | [_], _ => rfl) fun f fd F => fn__law_falls T F
/-! _law_most -/
def ct__law_most_0 : TDen :=
  (tB (e2 gGt (ePeek 4) (e2 gSub (ePeek 3) (ePeek 1))))
theorem u_ct__law_most_0 (ρ : REnv) (st : Store) : ct__law_most_0 ρ st = (tB (e2 gGt (ePeek 4) (e2 gSub (ePeek 3) (ePeek 1)))) ρ st := rfl
def ce__law_most_1 : EDen :=
  (eN gLen (aCons (eComp (lSeq (eCutL (ePeek 0) oNone (oSome (e2 gAddI (ePeek 2) (eC (.int 1)))))) (bName 4) ct__law_most_0 (eVar 4) [4]) aNil))
theorem u_ce__law_most_1 (ρ : REnv) (st : Store) : ce__law_most_1 ρ st = (eN gLen (aCons (eComp (lSeq (eCutL (ePeek 0) oNone (oSome (e2 gAddI (ePeek 2) (eC (.int 1)))))) (bName 4) ct__law_most_0 (eVar 4) [4]) aNil)) ρ st := rfl
def b__law_most : SDen :=
  (sRet (eN gMax (aCons (e2 gAdd (eComp (lEnumU (aCons (eVar 0) aNil)) (bTup 2 (bCons (bName 2) (bCons (bName 3) bNil))) tYes ce__law_most_1 [2, 3]) (eLst (aCons (eC (.int 0)) aNil))) aNil)))
def m__law_most : CallF := callD 2 5 b__law_most
theorem sc__law_most : FnScope ["falls", "ticks", "at", "tick", "one"] ["falls", "ticks"] (defScope s__law_most) := ⟨rfl, rfl, rfl, by decide +kernel, rfl, by decide +kernel, by decide +kernel⟩
theorem fn__law_most (T : Txt K mg) {f : Addr} {fd : FuncData} (F : Fun K "_law_most" "_law_most" s__law_most f fd) : FnOk P w K mg base (L2.CX P w) 1 f fd ["falls", "ticks"] (spG K mg m__law_most) := by
  have nd := (sc__law_most).nd
  refine Fun.den (m := b__law_most) (N := ["falls", "ticks", "at", "tick", "one"]) (np := 2) (nl := 5) F sc__law_most rfl rfl fun cdv A outer s H E hr Γ hx => ?_
  have tk := takes_body (P := P) (w := w) (K := K) (mg := mg) (base := base) (N := ["falls", "ticks", "at", "tick", "one"]) (qual := "_law_most") (sc := defScope s__law_most) (f := f) (cdv := cdv) (A := A) (outer := outer) (s := s) (H := H) (E := E)
  have ow := own_body (P := P) (w := w) (K := K) (mg := mg) (base := base) (N := ["falls", "ticks", "at", "tick", "one"]) (qual := "_law_most") (sc := defScope s__law_most) (f := f) (cdv := cdv) (A := A) (outer := outer) (s := s) (H := H) (E := E)
  exact (s_one (s_ret (g_callB (cr_max rfl) kV_late sem_max T.z_max (by decide +kernel) (r_cons (g_vr (g_bin op_addU kV_late sem_add (g_vr (g_ov (g_lc (own := [("at", 2), ("tick", 3)]) rfl nd (i_gc (i_enumU rfl T.z_enumerate (g_cons (g_var 0) g_nil))) (blkOk_by (by kernel_rfl)) (fun _ _ _ _ _ => (b_tup rfl rfl (b_cons (b_name 2 nd) (b_cons (b_name 3 nd) b_nil)))) (fun _ _ _ _ _ => ts_nil) (fun _ _ _ _ _ => (g_callB call_lenU kV_late sem_len T.z_len (by decide +kernel) (r_cons (g_vr (g_ov (g_lc (own := [("one", 4)]) rfl nd (i_gc (i_seq rfl (g_ov (g_cutL rfl (g_peek 0) o_none (o_some (g_vr (g_bin op_add kV_late sem_addI (g_peek 2) (g_vr g_int)))))))) (blkOk_by (by kernel_rfl)) (fun _ _ _ _ _ => (b_name 4 nd)) (fun _ _ _ _ _ => (ts_one (g_tcmp op_gt sem_gt (g_peek 4) (g_vr (g_bin op_sub kV_late sem_sub (g_peek 3) (g_peek 1))) rfl))) (fun _ _ _ _ _ => (g_var 4))))) r_nil)))))) (g_vr (g_ov (g_lst (g_cons g_int g_nil)))))) r_nil))))
theorem ok__law_most (T : Txt K mg) : OkG P w K mg base 1 "_law_most" ["falls", "ticks"] m__law_most := okG_of T.g__law_most (fun f fd F => F.binds fun _ _ _ _ _ _ us hl => match us, hl with | [_, _], _ => rfl) fun f fd F => fn__law_most T F
/-! _law_passed -/
def b__law_passed : SDen :=
  (sSeq (sIf (tOr (tB (e2 gEq (ePeek 4) (eLst aNil))) (tB (e2 gGt (eCall m__law_most (aCons (eVar 4) (aCons (eVar 3) aNil))) (ePeek 2)))) (sRet (eC (.bl false))) sNil)
  (sRet (eAnd (e2 gGt (eCall m__law_most (aCons (eVar 4) (aCons (eVar 1) aNil))) (ePeek 0)) (e2 gLe (eCall m__law_most (aCons (eCutL (ePeek 4) oNone (oSome (e1 gNeg (eC (.int 1))))) (aCons (eVar 1) aNil))) (ePeek 0)))))
def m__law_passed : CallF := callD 5 5 b__law_passed
theorem sc__law_passed : FnScope ["most", "ticks", "many", "long", "falls"] ["most", "ticks", "many", "long", "falls"] (defScope s__law_passed) := ⟨rfl, rfl, rfl, by decide +kernel, rfl, by decide +kernel, by decide +kernel⟩
theorem fn__law_passed (T : Txt K mg) {f : Addr} {fd : FuncData} (F : Fun K "_law_passed" "_law_passed" s__law_passed f fd) : FnOk P w K mg base (L2.CX P w) 2 f fd ["most", "ticks", "many", "long", "falls"] (spG K mg m__law_passed) := by
  have nd := (sc__law_passed).nd
  refine Fun.den (m := b__law_passed) (N := ["most", "ticks", "many", "long", "falls"]) (np := 5) (nl := 5) F sc__law_passed rfl rfl fun cdv A outer s H E hr Γ hx => ?_
  have tk := takes_body (P := P) (w := w) (K := K) (mg := mg) (base := base) (N := ["most", "ticks", "many", "long", "falls"]) (qual := "_law_passed") (sc := defScope s__law_passed) (f := f) (cdv := cdv) (A := A) (outer := outer) (s := s) (H := H) (E := E)
  have ow := own_body (P := P) (w := w) (K := K) (mg := mg) (base := base) (N := ["most", "ticks", "many", "long", "falls"]) (qual := "_law_passed") (sc := defScope s__law_passed) (f := f) (cdv := cdv) (A := A) (outer := outer) (s := s) (H := H) (E := E)
  exact (s_cons (s_if (PW.pt (g_or (g_tcmp (op_eqU hr.units) sem_eq (g_peek 4) (g_vr (g_ov (g_lst g_nil))) rfl) (pw_or1 (g_tcmp op_gt sem_gt (g_vr (f_call (ok__law_most T) (hr.mono (by decide)) tk (g_cons (g_var 4) (g_cons (g_var 3) g_nil)))) (g_peek 2) rfl)))) (s_one (s_ret g_bl)) s_nil)
    (s_one (s_ret (g_andV rfl (g_cmp op_gt sem_gt (g_vr (f_call (ok__law_most T) (hr.mono (by decide)) tk (g_cons (g_var 4) (g_cons (g_var 1) g_nil)))) (g_peek 0) rfl) (g_one (g_cmp op_le sem_le (g_vr (f_call (ok__law_most T) (hr.mono (by decide)) tk (g_cons (g_ov (g_cutL rfl (g_peek 4) o_none (o_some (g_vr (g_un un_neg kV_late sem_neg (g_vr g_int)))))) (g_cons (g_var 1) g_nil)))) (g_peek 0) rfl))))))
theorem ok__law_passed (T : Txt K mg) : OkG P w K mg base 2 "_law_passed" ["most", "ticks", "many", "long", "falls"] m__law_passed := okG_of T.g__law_passed (fun f fd F => F.binds fun _ _ _ _ _ _ us hl => match us, hl with | [_, _, _, _, _], _ => rfl) fun f fd F => fn__law_passed T F
/-! greatest_ticks -/
def ct_greatest_ticks_0 : TDen :=
  (tB (e2 gLe (eCall m_most_within (aCons (eVar 3) (aCons (eVar 1) aNil))) (ePeek 0)))
theorem u_ct_greatest_ticks_0 (ρ : REnv) (st : Store) : ct_greatest_ticks_0 ρ st = (tB (e2 gLe (eCall m_most_within (aCons (eVar 3) (aCons (eVar 1) aNil))) (ePeek 0))) ρ st := rfl
def b_greatest_ticks : SDen :=
  (sSeq (sDrop (eCall m_check_number (aCons (eC (.str "most")) (aCons (eVar 0) (aCons (eC (.int 0)) (aCons (eC (.int 99)) aNil))))))
  (sSeq (sDrop (eCall m_check_faults (aCons (eVar 1) aNil)))
  (sSeq (sVal 2 (sAsgO 2 (eComp (lRange2 (aCons (eC (.int 1)) (aCons (eC (.int 100)) aNil))) (bName 3) ct_greatest_ticks_0 (eVar 3) [3])))
  (sRet (eIf (tB (e2 gNe (ePeek 2) (eLst aNil))) (e2 gIx (ePeek 2) (e1 gNeg (eC (.int 1)))) (eC (.int 0)))))))
def m_greatest_ticks : CallF := callD 2 4 b_greatest_ticks
theorem sc_greatest_ticks : FnScope ["most", "faults", "good", "ticks"] ["most", "faults"] (defScope s_greatest_ticks) := ⟨rfl, rfl, rfl, by decide +kernel, rfl, by decide +kernel, by decide +kernel⟩
theorem fn_greatest_ticks (T : Txt K mg) {f : Addr} {fd : FuncData} (F : Fun K "greatest_ticks" "greatest_ticks" s_greatest_ticks f fd) : FnOk P w K mg base (L2.CX P w) 5 f fd ["most", "faults"] (spG K mg m_greatest_ticks) := by
  have nd := (sc_greatest_ticks).nd
  refine Fun.den (m := b_greatest_ticks) (N := ["most", "faults", "good", "ticks"]) (np := 2) (nl := 4) F sc_greatest_ticks rfl rfl fun cdv A outer s H E hr Γ hx => ?_
  have tk := takes_body (P := P) (w := w) (K := K) (mg := mg) (base := base) (N := ["most", "faults", "good", "ticks"]) (qual := "greatest_ticks") (sc := defScope s_greatest_ticks) (f := f) (cdv := cdv) (A := A) (outer := outer) (s := s) (H := H) (E := E)
  have ow := own_body (P := P) (w := w) (K := K) (mg := mg) (base := base) (N := ["most", "faults", "good", "ticks"]) (qual := "greatest_ticks") (sc := defScope s_greatest_ticks) (f := f) (cdv := cdv) (A := A) (outer := outer) (s := s) (H := H) (E := E)
  exact (s_cons (s_drop (f_call (ok_check_number T) (hr.mono (by decide)) tk (g_cons g_str (g_cons (g_var 0) (g_cons g_int (g_cons g_int g_nil))))))
    (s_cons (s_drop (f_call (ok_check_faults T) (hr.mono (by decide)) tk (g_cons (g_var 1) g_nil)))
    (s_cons (s_val 2 (s_asgLc (own := [("ticks", 3)]) rfl nd (by rfl) (i_gc (i_range2 T.z_range (g_cons g_int (g_cons g_int g_nil)))) (blkOk_by (by kernel_rfl)) (fun _ _ _ _ _ => (b_name 3 nd)) (fun _ _ _ _ _ => (ts_one (g_tcmp op_le sem_le (g_vr (f_call (ok_most_within T) (hr.mono (by decide)) takesW (g_cons (g_var 3) (g_cons (g_var 1) g_nil)))) (g_peek 0) rfl))) (fun _ _ _ _ _ => (g_var 3))))
    (s_one (s_ret (g_if kV_late (g_tcmp (op_neU hr.units) sem_ne (g_peek 2) (g_vr (g_ov (g_lst g_nil))) rfl) (g_sub rfl (hu_of hr) (g_peek 2) (g_vr (g_un un_neg kV_late sem_neg (g_vr g_int)))) g_int))))))
theorem ok_greatest_ticks (T : Txt K mg) : OkG P w K mg base 5 "greatest_ticks" ["most", "faults"] m_greatest_ticks := okG_of T.g_greatest_ticks (fun f fd F => F.binds fun _ _ _ _ _ _ us hl => match us, hl with | [_, _], _ => rfl) fun f fd F => fn_greatest_ticks T F
/-! least_most -/
def b_least_most : SDen :=
  (sRet (eCall m_most_within (aCons (eVar 0) (aCons (eVar 1) aNil))))
def m_least_most : CallF := callD 2 2 b_least_most
theorem sc_least_most : FnScope ["ticks", "faults"] ["ticks", "faults"] (defScope s_least_most) := ⟨rfl, rfl, rfl, by decide +kernel, rfl, by decide +kernel, by decide +kernel⟩
theorem fn_least_most (T : Txt K mg) {f : Addr} {fd : FuncData} (F : Fun K "least_most" "least_most" s_least_most f fd) : FnOk P w K mg base (L2.CX P w) 5 f fd ["ticks", "faults"] (spG K mg m_least_most) := by
  have nd := (sc_least_most).nd
  refine Fun.den (m := b_least_most) (N := ["ticks", "faults"]) (np := 2) (nl := 2) F sc_least_most rfl rfl fun cdv A outer s H E hr Γ hx => ?_
  have tk := takes_body (P := P) (w := w) (K := K) (mg := mg) (base := base) (N := ["ticks", "faults"]) (qual := "least_most") (sc := defScope s_least_most) (f := f) (cdv := cdv) (A := A) (outer := outer) (s := s) (H := H) (E := E)
  have ow := own_body (P := P) (w := w) (K := K) (mg := mg) (base := base) (N := ["ticks", "faults"]) (qual := "least_most") (sc := defScope s_least_most) (f := f) (cdv := cdv) (A := A) (outer := outer) (s := s) (H := H) (E := E)
  exact (s_one (s_ret (f_call (ok_most_within T) (hr.mono (by decide)) tk (g_cons (g_var 0) (g_cons (g_var 1) g_nil)))))
theorem ok_least_most (T : Txt K mg) : OkG P w K mg base 5 "least_most" ["ticks", "faults"] m_least_most := okG_of T.g_least_most (fun f fd F => F.binds fun _ _ _ _ _ _ us hl => match us, hl with | [_, _], _ => rfl) fun f fd F => fn_least_most T F
/-! span_of -/
def b_span_of : SDen :=
  (sSeq (sAsg 2 (eCall m_soonest (aCons (eVar 0) (aCons (eVar 1) aNil))))
  (sRet (eIf (tB (e2 gIs (ePeek 2) (eC .non))) (eC .non) (eIf (tB (e2 gNe (ePeek 2) (eLst aNil))) (e2 gSub (e2 gIx (ePeek 2) (e1 gNeg (eC (.int 1)))) (e2 gIx (ePeek 2) (eC (.int 0)))) (eC (.int 0))))))
def m_span_of : CallF := callD 2 3 b_span_of
theorem sc_span_of : FnScope ["faults", "many", "found"] ["faults", "many"] (defScope s_span_of) := ⟨rfl, rfl, rfl, by decide +kernel, rfl, by decide +kernel, by decide +kernel⟩
theorem fn_span_of (T : Txt K mg) {f : Addr} {fd : FuncData} (F : Fun K "span_of" "span_of" s_span_of f fd) : FnOk P w K mg base (L2.CX P w) 5 f fd ["faults", "many"] (spG K mg m_span_of) := by
  have nd := (sc_span_of).nd
  refine Fun.den (m := b_span_of) (N := ["faults", "many", "found"]) (np := 2) (nl := 3) F sc_span_of rfl rfl fun cdv A outer s H E hr Γ hx => ?_
  have tk := takes_body (P := P) (w := w) (K := K) (mg := mg) (base := base) (N := ["faults", "many", "found"]) (qual := "span_of") (sc := defScope s_span_of) (f := f) (cdv := cdv) (A := A) (outer := outer) (s := s) (H := H) (E := E)
  have ow := own_body (P := P) (w := w) (K := K) (mg := mg) (base := base) (N := ["faults", "many", "found"]) (qual := "span_of") (sc := defScope s_span_of) (f := f) (cdv := cdv) (A := A) (outer := outer) (s := s) (H := H) (E := E)
  exact (s_cons (s_asg nd (f_call (ok_soonest T) (hr.mono (by decide)) tk (g_cons (g_var 0) (g_cons (g_var 1) g_nil))))
    (s_one (s_ret (g_if kV_late (g_tcmp op_isN sem_is (g_peek 2) (g_vr g_non) rfl) g_non (g_if kV_late (g_tcmp (op_neU hr.units) sem_ne (g_peek 2) (g_vr (g_ov (g_lst g_nil))) rfl) (g_bin op_sub kV_late sem_sub (g_vr (g_sub rfl (hu_of hr) (g_peek 2) (g_vr (g_un un_neg kV_late sem_neg (g_vr g_int))))) (g_vr (g_sub rfl (hu_of hr) (g_peek 2) (g_vr g_int)))) g_int)))))
theorem ok_span_of (T : Txt K mg) : OkG P w K mg base 5 "span_of" ["faults", "many"] m_span_of := okG_of T.g_span_of (fun f fd F => F.binds fun _ _ _ _ _ _ us hl => match us, hl with | [_, _], _ => rfl) fun f fd F => fn_span_of T F
/-! law -/
def x_law_0 : SDen :=
  (sAsg 1 (eAlloc (eLst (aCons (eVar 0) (aCons (eC (.int 0)) aNil)))))
def x_law_1 : SDen :=
  (sPar [3, 4, 5, 6] (mVal (eCall m__law_take (aCons (eVar 1) (aCons (eC (.int 4)) aNil))) (mVal (e2 gAddI (eC (.int 1)) (eCall m__law_take (aCons (eVar 1) (aCons (eC (.int 7)) aNil)))) (mVal (eCall m__law_take (aCons (eVar 1) (aCons (eC (.int 5)) aNil))) (mVal (e2 gAddI (eC (.int 1)) (eCall m__law_take (aCons (eVar 1) (aCons (eC (.int 9)) aNil)))) mNil)))))
def x_law_2 : SDen :=
  (sPar [7, 8] (mVal (eMake "Faults" m_Faults___init__ (aCons (eVar 3) (aCons (eVar 4) aNil))) (mVal (eCall m__law_falls (aCons (eVar 1) aNil)) mNil)))
def x_law_3 : SDen :=
  (sRet (eC (.bl false)))
def x_law_4 : SDen :=
  (sIf (tB (e2 gNe (eCall m_are_within (aCons (eVar 7) (aCons (eVar 8) aNil))) (e2 gLe (eCall m__law_most (aCons (eVar 8) (aCons (eVar 4) aNil))) (ePeek 3)))) x_law_3 sNil)
def ct_law_0 : TDen :=
  (tB (e2 gGt (ePeek 23) (e2 gSub (e2 gIx (ePeek 8) (ePeek 22)) (ePeek 6))))
theorem u_ct_law_0 (ρ : REnv) (st : Store) : ct_law_0 ρ st = (tB (e2 gGt (ePeek 23) (e2 gSub (e2 gIx (ePeek 8) (ePeek 22)) (ePeek 6)))) ρ st := rfl
def ct_law_1 : TDen :=
  (tB (e2 gGt (eN gLen (aCons (eComp (lSeq (eCutL (ePeek 8) oNone (oSome (e2 gAddI (ePeek 22) (eC (.int 1)))))) (bName 23) ct_law_0 (eVar 23) [23]) aNil)) (ePeek 5)))
theorem u_ct_law_1 (ρ : REnv) (st : Store) : ct_law_1 ρ st = (tB (e2 gGt (eN gLen (aCons (eComp (lSeq (eCutL (ePeek 8) oNone (oSome (e2 gAddI (ePeek 22) (eC (.int 1)))))) (bName 23) ct_law_0 (eVar 23) [23]) aNil)) (ePeek 5))) ρ st := rfl
def x_law_7 : SDen :=
  (sVal 9 (sAsgO 9 (eComp (lRange1 (aCons (eN gLen (aCons (ePeek 8) aNil)) aNil)) (bName 22) ct_law_1 (eVar 22) [22])))
def x_law_8 : SDen :=
  (sRet (eC (.bl false)))
def x_law_9 : SDen :=
  (sIf (tB (e2 gNe (eCall m_first_beyond (aCons (eVar 5) (aCons (eVar 6) (aCons (eVar 8) aNil)))) (eIf (tB (e2 gNe (ePeek 9) (eLst aNil))) (e2 gIx (ePeek 9) (eC (.int 0))) (eC .non)))) x_law_8 sNil)
def x_law_10 : SDen :=
  (sPar [10, 11] (mVal (eCall m__law_take (aCons (eVar 1) (aCons (eC (.int 9)) aNil))) (mOwn (eLst aNil) mNil)))
def x_law_11 : SDen :=
  (sApp 11 (eIf (tB (e2 gLt (eN gLen (aCons (ePeek 11) aNil)) (ePeek 3))) (eC (.int 0)) (e2 gAddI (e2 gIx (ePeek 11) (e2 gSub (eN gLen (aCons (ePeek 11) aNil)) (ePeek 3))) (ePeek 4))))
def lb_law_2 : SDen :=
  x_law_11
theorem u_lb_law_2 (ρ : REnv) (st : Store) : lb_law_2 ρ st = x_law_11 ρ st := rfl
def x_law_13 : SDen :=
  (sFor (lRange1 (aCons (eIf (tB (e2 gGt (ePeek 3) (eC (.int 0)))) (eVar 10) (eC (.int 0))) aNil)) (bName 12) lb_law_2)
def x_law_14 : SDen :=
  (sRet (eC (.bl false)))
def x_law_15 : SDen :=
  (sFrz [11] (sIf (tB (e2 gGt (eCall m__law_most (aCons (eVar 11) (aCons (eVar 4) aNil))) (ePeek 3))) x_law_14 sNil))
def x_law_16 : SDen :=
  (sFrz [11] (sAsg 13 (eIf (tOr (tB (e2 gGt (ePeek 3) (eC (.int 0)))) (tB (e2 gEq (ePeek 10) (eC (.int 0))))) (eVar 11) (eC .non))))
def x_law_17 : SDen :=
  (sAsg 14 (eCall m_soonest (aCons (eVar 7) (aCons (eVar 10) aNil))))
def x_law_18 : SDen :=
  (sRet (eC (.bl false)))
def x_law_19 : SDen :=
  (sIf (tOr (tB (e2 gNe (eIf (tB (e2 gIsNot (ePeek 14) (eC .non))) (eN gList (aCons (ePeek 14) aNil)) (eC .non)) (ePeek 13))) (tB (e2 gNe (eCall m_span_of (aCons (eVar 7) (aCons (eVar 10) aNil))) (eIf (tB (e2 gIs (ePeek 13) (eC .non))) (eC .non) (eIf (tB (e2 gNe (ePeek 13) (eLst aNil))) (e2 gSub (e2 gIx (ePeek 13) (e1 gNeg (eC (.int 1)))) (e2 gIx (ePeek 13) (eC (.int 0)))) (eC (.int 0))))))) x_law_18 sNil)
def x_law_20 : SDen :=
  (sAsgO 15 (eLst aNil))
def x_law_21 : SDen :=
  (sApp 15 (eIf (tB (e2 gLt (eN gLen (aCons (ePeek 15) aNil)) (ePeek 3))) (eC (.int 0)) (e2 gAddI (e2 gIx (ePeek 15) (e2 gSub (eN gLen (aCons (ePeek 15) aNil)) (ePeek 3))) (ePeek 4))))
def lb_law_3 : SDen :=
  x_law_21
theorem u_lb_law_3 (ρ : REnv) (st : Store) : lb_law_3 ρ st = x_law_21 ρ st := rfl
def x_law_23 : SDen :=
  (sFor (lRange1 (aCons (eIf (tB (e2 gGt (ePeek 3) (eC (.int 0)))) (eC (.int 60)) (eC (.int 0))) aNil)) (bName 12) lb_law_3)
def ct_law_4 : TDen :=
  (tB (e2 gLt (ePeek 24) (ePeek 6)))
theorem u_ct_law_4 (ρ : REnv) (st : Store) : ct_law_4 ρ st = (tB (e2 gLt (ePeek 24) (ePeek 6))) ρ st := rfl
def x_law_25 : SDen :=
  (sFrz [15] (sAsg 16 (eN gLen (aCons (eComp (lSeq (eVar 15)) (bName 24) ct_law_4 (eVar 24) [24]) aNil))))
def x_law_26 : SDen :=
  (sRet (eC (.bl false)))
def x_law_27 : SDen :=
  (sIf (tOr (tB (e2 gNe (eCall m_most_within (aCons (eVar 6) (aCons (eVar 7) aNil))) (ePeek 16))) (tB (e2 gNe (eCall m_least_most (aCons (eVar 6) (aCons (eVar 7) aNil))) (ePeek 16)))) x_law_26 sNil)
def x_law_28 : SDen :=
  (sAsg 17 (eCall m_judge_bound (aCons (eVar 5) (aCons (eVar 6) (aCons (eVar 7) aNil)))))
def x_law_29 : SDen :=
  (sRet (eC (.bl false)))
def x_law_30 : SDen :=
  (sIf (tOr (tB (e2 gNe (eOwn (fun c => List.lookup c [("Bears", m_Bears___bool__), ("Passed", m_Passed___bool__)]) (eVar 17)) (e2 gLe (ePeek 16) (ePeek 5)))) (tOr (tB (e2 (gNeI (fun c => List.lookup c [("Bears", m_Bears___eq__), ("Passed", m_Passed___eq__)]) ["Bears", "Passed"]) (eVar 17) (eIf (tB (e2 gLe (ePeek 16) (ePeek 5))) (eMake "Bears" m_Bears___init__ (aCons (eVar 16) aNil)) (eMake "Passed" m_Passed___init__ (aCons (eCutL (ePeek 15) oNone (oSome (e2 gAddI (ePeek 5) (eC (.int 1))))) aNil))))) (tOr (tNot (tTr (eMethU [("Bears", m_Bears_shows), ("Passed", m_Passed_shows)] "shows" (eVar 17) (aCons (eVar 5) (aCons (eVar 6) (aCons (eVar 7) aNil)))))) (tOr (tB (e2 gNe (eMethU [("Bears", m_Bears_shows)] "shows" (eMake "Bears" m_Bears___init__ (aCons (eVar 16) aNil)) (aCons (eVar 5) (aCons (eVar 6) (aCons (eVar 7) aNil)))) (e2 gLe (ePeek 16) (ePeek 5)))) (tOr (tTr (eMethU [("Passed", m_Passed_shows)] "shows" (eMake "Passed" m_Passed___init__ (aCons (eTup (aCons (eC .non) aNil)) aNil)) (aCons (eVar 5) (aCons (eVar 6) (aCons (eVar 7) aNil))))) (tTr (eMethU [("Passed", m_Passed_shows)] "shows" (eMake "Passed" m_Passed___init__ (aCons (eTup aNil) aNil)) (aCons (eVar 5) (aCons (eVar 6) (aCons (eVar 7) aNil)))))))))) x_law_29 sNil)
def x_law_31 : SDen :=
  (sRet (eC (.bl false)))
def x_law_32 : SDen :=
  (sIf (tB (e2 gNe (eMethU [("Passed", m_Passed_shows)] "shows" (eMake "Passed" m_Passed___init__ (aCons (eVar 8) aNil)) (aCons (eVar 5) (aCons (eVar 6) (aCons (eVar 7) aNil)))) (eCall m__law_passed (aCons (eVar 5) (aCons (eVar 6) (aCons (eVar 3) (aCons (eVar 4) (aCons (eVar 8) aNil)))))))) x_law_31 sNil)
def ct_law_5 : TDen :=
  (tB (e2 gLt (ePeek 24) (ePeek 23)))
theorem u_ct_law_5 (ρ : REnv) (st : Store) : ct_law_5 ρ st = (tB (e2 gLt (ePeek 24) (ePeek 23))) ρ st := rfl
def ct_law_6 : TDen :=
  (tB (e2 gLe (eN gLen (aCons (eComp (lSeq (e2 gAdd (ePeek 15) (eLst (aCons (eC (.int 999)) aNil)))) (bName 24) ct_law_5 (eVar 24) [24]) aNil)) (ePeek 5)))
theorem u_ct_law_6 (ρ : REnv) (st : Store) : ct_law_6 ρ st = (tB (e2 gLe (eN gLen (aCons (eComp (lSeq (e2 gAdd (ePeek 15) (eLst (aCons (eC (.int 999)) aNil)))) (bName 24) ct_law_5 (eVar 24) [24]) aNil)) (ePeek 5))) ρ st := rfl
def x_law_35 : SDen :=
  (sVal 18 (sAsgO 18 (eComp (lRange2 (aCons (eC (.int 1)) (aCons (eC (.int 100)) aNil))) (bName 23) ct_law_6 (eVar 23) [23])))
def x_law_36 : SDen :=
  (sRet (eC (.bl false)))
def x_law_37 : SDen :=
  (sIf (tAnd (tB (e2 gNe (eCall m_greatest_ticks (aCons (eVar 5) (aCons (eVar 7) aNil))) (eIf (tB (e2 gNe (ePeek 18) (eLst aNil))) (e2 gIx (ePeek 18) (e1 gNeg (eC (.int 1)))) (eC (.int 0))))) (tAnd (tB (e2 gGt (eN gLen (aCons (ePeek 15) aNil)) (eC (.int 50)))) (tB (e2 gGt (e2 gIx (ePeek 15) (e1 gNeg (eC (.int 1)))) (eC (.int 99)))))) x_law_36 sNil)
def lb_law_7 : SDen :=
  (sSeq x_law_1
  (sSeq x_law_2
  (sSeq x_law_4
  (sSeq x_law_7
  (sSeq x_law_9
  (sSeq x_law_10
  (sSeq x_law_13
  (sSeq x_law_15
  (sSeq x_law_16
  (sSeq x_law_17
  (sSeq x_law_19
  (sSeq x_law_20
  (sSeq x_law_23
  (sSeq x_law_25
  (sSeq x_law_27
  (sSeq x_law_28
  (sSeq x_law_30
  (sSeq x_law_32
  (sSeq x_law_35
  x_law_37)))))))))))))))))))
theorem u_lb_law_7 (ρ : REnv) (st : Store) : lb_law_7 ρ st = (sSeq x_law_1
  (sSeq x_law_2
  (sSeq x_law_4
  (sSeq x_law_7
  (sSeq x_law_9
  (sSeq x_law_10
  (sSeq x_law_13
  (sSeq x_law_15
  (sSeq x_law_16
  (sSeq x_law_17
  (sSeq x_law_19
  (sSeq x_law_20
  (sSeq x_law_23
  (sSeq x_law_25
  (sSeq x_law_27
  (sSeq x_law_28
  (sSeq x_law_30
  (sSeq x_law_32
  (sSeq x_law_35
  x_law_37))))))))))))))))))) ρ st := rfl
def x_law_39 : SDen :=
  (sFor (lRange1 (aCons (eC (.int 8)) aNil)) (bName 2) lb_law_7)
def ce_law_8 : EDen :=
  (eMake "Faults" m_Faults___init__ (aCons (eC (.int 1000)) (aCons (eC (.int 1)) aNil)))
theorem u_ce_law_8 (ρ : REnv) (st : Store) : ce_law_8 ρ st = (eMake "Faults" m_Faults___init__ (aCons (eC (.int 1000)) (aCons (eC (.int 1)) aNil))) ρ st := rfl
def x_law_41 : SDen :=
  (sRet (eC (.bl false)))
def x_law_42 : SDen :=
  (sIf (tB (e2 gNe (eTup (aCons (eXf 21 ["BadPart"] "part") (aCons (eXf 21 ["BadPart"] "place") aNil))) (ePeek 20))) x_law_41 sNil)
def lb_law_9 : SDen :=
  x_law_42
theorem u_lb_law_9 (ρ : REnv) (st : Store) : lb_law_9 ρ st = x_law_42 ρ st := rfl
def ce_law_10 : EDen :=
  (eMake "Faults" m_Faults___init__ (aCons (eC (.int 1)) (aCons (eC (.int 0)) aNil)))
theorem u_ce_law_10 (ρ : REnv) (st : Store) : ce_law_10 ρ st = (eMake "Faults" m_Faults___init__ (aCons (eC (.int 1)) (aCons (eC (.int 0)) aNil))) ρ st := rfl
def x_law_45 : SDen :=
  (sRet (eC (.bl false)))
def x_law_46 : SDen :=
  (sIf (tB (e2 gNe (eTup (aCons (eXf 21 ["BadPart"] "part") (aCons (eXf 21 ["BadPart"] "place") aNil))) (ePeek 20))) x_law_45 sNil)
def ce_law_11 : EDen :=
  (eCall m_are_within (aCons (eVar 7) (aCons (eC (.int 3)) aNil)))
theorem u_ce_law_11 (ρ : REnv) (st : Store) : ce_law_11 ρ st = (eCall m_are_within (aCons (eVar 7) (aCons (eC (.int 3)) aNil))) ρ st := rfl
def x_law_48 : SDen :=
  (sRet (eC (.bl false)))
def x_law_49 : SDen :=
  (sIf (tB (e2 gNe (eTup (aCons (eXf 21 ["BadPart"] "part") (aCons (eXf 21 ["BadPart"] "place") aNil))) (ePeek 20))) x_law_48 sNil)
def ce_law_12 : EDen :=
  (eCall m_are_within (aCons (eVar 7) (aCons (eLst (aCons (eC (.int 1)) (aCons (eC (.int 0)) aNil))) aNil)))
theorem u_ce_law_12 (ρ : REnv) (st : Store) : ce_law_12 ρ st = (eCall m_are_within (aCons (eVar 7) (aCons (eLst (aCons (eC (.int 1)) (aCons (eC (.int 0)) aNil))) aNil))) ρ st := rfl
def x_law_51 : SDen :=
  (sRet (eC (.bl false)))
def x_law_52 : SDen :=
  (sIf (tB (e2 gNe (eTup (aCons (eXf 21 ["BadPart"] "part") (aCons (eXf 21 ["BadPart"] "place") aNil))) (ePeek 20))) x_law_51 sNil)
def ce_law_13 : EDen :=
  (eCall m_first_beyond (aCons (eC (.int 100)) (aCons (eC (.int 1)) (aCons (eLst aNil) aNil))))
theorem u_ce_law_13 (ρ : REnv) (st : Store) : ce_law_13 ρ st = (eCall m_first_beyond (aCons (eC (.int 100)) (aCons (eC (.int 1)) (aCons (eLst aNil) aNil)))) ρ st := rfl
def x_law_54 : SDen :=
  (sRet (eC (.bl false)))
def x_law_55 : SDen :=
  (sIf (tB (e2 gNe (eTup (aCons (eXf 21 ["BadPart"] "part") (aCons (eXf 21 ["BadPart"] "place") aNil))) (ePeek 20))) x_law_54 sNil)
def ce_law_14 : EDen :=
  (eCall m_soonest (aCons (eVar 7) (aCons (eC (.int 1000)) aNil)))
theorem u_ce_law_14 (ρ : REnv) (st : Store) : ce_law_14 ρ st = (eCall m_soonest (aCons (eVar 7) (aCons (eC (.int 1000)) aNil))) ρ st := rfl
def x_law_57 : SDen :=
  (sRet (eC (.bl false)))
def x_law_58 : SDen :=
  (sIf (tB (e2 gNe (eTup (aCons (eXf 21 ["BadPart"] "part") (aCons (eXf 21 ["BadPart"] "place") aNil))) (ePeek 20))) x_law_57 sNil)
def ce_law_15 : EDen :=
  (eCall m_most_within (aCons (eC (.int 0)) (aCons (eVar 7) aNil)))
theorem u_ce_law_15 (ρ : REnv) (st : Store) : ce_law_15 ρ st = (eCall m_most_within (aCons (eC (.int 0)) (aCons (eVar 7) aNil))) ρ st := rfl
def x_law_60 : SDen :=
  (sRet (eC (.bl false)))
def x_law_61 : SDen :=
  (sIf (tB (e2 gNe (eTup (aCons (eXf 21 ["BadPart"] "part") (aCons (eXf 21 ["BadPart"] "place") aNil))) (ePeek 20))) x_law_60 sNil)
def ce_law_16 : EDen :=
  (eCall m_judge_bound (aCons (eC (.int 1)) (aCons (eC (.int 1)) (aCons (eC (.int 3)) aNil))))
theorem u_ce_law_16 (ρ : REnv) (st : Store) : ce_law_16 ρ st = (eCall m_judge_bound (aCons (eC (.int 1)) (aCons (eC (.int 1)) (aCons (eC (.int 3)) aNil)))) ρ st := rfl
def x_law_63 : SDen :=
  (sRet (eC (.bl false)))
def x_law_64 : SDen :=
  (sIf (tB (e2 gNe (eTup (aCons (eXf 21 ["BadPart"] "part") (aCons (eXf 21 ["BadPart"] "place") aNil))) (ePeek 20))) x_law_63 sNil)
def L_0 : LamT := (lamAt ((defBody s_law).getD 2 (.Pass ⟨0, 0, 0, 0⟩)) 0).get rfl
def L_1 : LamT := (lamAt ((defBody s_law).getD 2 (.Pass ⟨0, 0, 0, 0⟩)) 1).get rfl
def L_2 : LamT := (lamAt ((defBody s_law).getD 2 (.Pass ⟨0, 0, 0, 0⟩)) 2).get rfl
def L_3 : LamT := (lamAt ((defBody s_law).getD 2 (.Pass ⟨0, 0, 0, 0⟩)) 3).get rfl
def L_4 : LamT := (lamAt ((defBody s_law).getD 2 (.Pass ⟨0, 0, 0, 0⟩)) 4).get rfl
def L_5 : LamT := (lamAt ((defBody s_law).getD 2 (.Pass ⟨0, 0, 0, 0⟩)) 5).get rfl
def L_6 : LamT := (lamAt ((defBody s_law).getD 2 (.Pass ⟨0, 0, 0, 0⟩)) 6).get rfl
def L_7 : LamT := (lamAt ((defBody s_law).getD 2 (.Pass ⟨0, 0, 0, 0⟩)) 7).get rfl
def b_law_pre : SDen :=
  (sSeq x_law_0
  (sSeq x_law_39
  sNil))
def x_lams : SDen :=
  (sLams 19 20 21 ["BadPart"] ["BadPart"] [ce_law_8, ce_law_10, ce_law_11, ce_law_12, ce_law_13, ce_law_14, ce_law_15, ce_law_16] (aCons (eTup (aCons (eC (.str "many")) (aCons (eC .non) aNil))) (aCons (eTup (aCons (eC (.str "ticks")) (aCons (eC .non) aNil))) (aCons (eTup (aCons (eC (.str "falls")) (aCons (eC .non) aNil))) (aCons (eTup (aCons (eC (.str "falls")) (aCons (eC (.int 1)) aNil))) (aCons (eTup (aCons (eC (.str "most")) (aCons (eC .non) aNil))) (aCons (eTup (aCons (eC (.str "many")) (aCons (eC .non) aNil))) (aCons (eTup (aCons (eC (.str "ticks")) (aCons (eC .non) aNil))) (aCons (eTup (aCons (eC (.str "faults")) (aCons (eC .non) aNil))) aNil)))))))) lb_law_9)
def b_law : SDen := sSeq b_law_pre (sSeq x_lams (sRet (eC (.bl true))))
theorem sc_law : FnScope ["script", "draw", "turn", "many", "long", "most", "ticks", "faults", "falls", "beyond", "size", "row", "again", "due", "made", "every", "top", "found", "good", "deed", "what", "fault", "at", "one", "tick"] ["script"] (defScope s_law) := ⟨rfl, rfl, rfl, by decide +kernel, rfl, by decide +kernel, by decide +kernel⟩
theorem law_T (T : Txt K mg) {c P' : Addr} (TLf : TL K mg "law" "law" s_law c P') (hp : ∀ ns : List Int, ns.length ≤ 63 → ∃ s2, b_law (.val (.scr (ns.map D.int)) :: List.replicate 24 Sl.un) [] = .rt (.bl true) s2) : LawBT P w K mg 7 "law" := by
  obtain ⟨f, oc, od, kV, doc, pm, an, ct, osl, h1, l, hcd, kp, hd, no⟩ := TLf
  refine ⟨f, _, c, P', oc, od, osl, h1, fun s u => .of_eq rfl, l, rfl, hd, no, fun base b1 b2 TB => ?_⟩
  refine law_fnT (k := 6) (nl := 25) l hcd sc_law rfl hp fun A outer s H E hr Γ hx => ?_
  have nd := (sc_law).nd
  have tk := takes_body (P := P) (w := w) (K := K) (mg := mg) (base := base) (N := ["script", "draw", "turn", "many", "long", "most", "ticks", "faults", "falls", "beyond", "size", "row", "again", "due", "made", "every", "top", "found", "good", "deed", "what", "fault", "at", "one", "tick"]) (qual := "law") (sc := defScope s_law) (f := f) (cdv := .ref c) (A := A) (outer := outer) (s := s) (H := H) (E := E)
  have ow := own_body (P := P) (w := w) (K := K) (mg := mg) (base := base) (N := ["script", "draw", "turn", "many", "long", "most", "ticks", "faults", "falls", "beyond", "size", "row", "again", "due", "made", "every", "top", "found", "good", "deed", "what", "fault", "at", "one", "tick"]) (qual := "law") (sc := defScope s_law) (f := f) (cdv := .ref c) (A := A) (outer := outer) (s := s) (H := H) (E := E)
  exact (c_cons (s_asg nd (g_alloc (g_lst (g_cons (g_var 0) (g_cons g_int g_nil)))))
    (c_cons (s_for ow rfl (i_range1 T.z_range (g_cons g_int g_nil)) (fun Γ => (b_name 2 nd)) (fun Γ q0 => (s_cons (s_parN rfl rfl (m_val (f_call (ok__law_take T) (hr.mono (by decide)) tk (g_cons (g_var 1) (g_cons g_int g_nil))) (m_val (g_bin op_add kV_late sem_addI (g_vr g_int) (g_vr (f_call (ok__law_take T) (hr.mono (by decide)) tk (g_cons (g_var 1) (g_cons g_int g_nil))))) (m_val (f_call (ok__law_take T) (hr.mono (by decide)) tk (g_cons (g_var 1) (g_cons g_int g_nil))) (m_val (g_bin op_add kV_late sem_addI (g_vr g_int) (g_vr (f_call (ok__law_take T) (hr.mono (by decide)) tk (g_cons (g_var 1) (g_cons g_int g_nil))))) m_nil)))) (n_cons 3 nd (n_cons 4 nd (n_cons 5 nd (n_cons 6 nd n_nil)))) (by decide))
    (s_cons (s_parN rfl rfl (m_val (f_make (okC_of T.c_Faults (ok_Faults___init__ T)) (hr.mono (by decide)) tk (g_cons (g_var 3) (g_cons (g_var 4) g_nil))) (m_val (f_call (ok__law_falls T) (hr.mono (by decide)) tk (g_cons (g_var 1) g_nil)) m_nil)) (n_cons 7 nd (n_cons 8 nd n_nil)) (by decide))
    (s_cons (s_if (g_tcmp (op_neU hr.units) sem_ne (g_vr (f_call (ok_are_within T) (hr.mono (by decide)) tk (g_cons (g_var 7) (g_cons (g_var 8) g_nil)))) (g_vr (g_cmp op_le sem_le (g_vr (f_call (ok__law_most T) (hr.mono (by decide)) tk (g_cons (g_var 8) (g_cons (g_var 4) g_nil)))) (g_peek 3) rfl)) rfl) (s_one (s_ret g_bl)) s_nil)
    (s_cons (s_val 9 (s_asgLc (own := [("at", 22)]) rfl nd (by rfl) (i_gc (i_range1 T.z_range (g_cons (g_callB call_lenU kV_late sem_len T.z_len (by decide +kernel) (r_cons (g_peek 8) r_nil)) g_nil))) (blkOk_by (by kernel_rfl)) (fun _ _ _ _ _ => (b_name 22 nd)) (fun _ _ _ _ _ => (ts_one (g_tcmp op_gt sem_gt (g_vr (g_callB call_lenU kV_late sem_len T.z_len (by decide +kernel) (r_cons (g_vr (g_ov (g_lc (own := [("one", 23)]) rfl nd (i_gc (i_seq rfl (g_ov (g_cutL rfl (g_peek 8) o_none (o_some (g_vr (g_bin op_add kV_late sem_addI (g_peek 22) (g_vr g_int)))))))) (blkOk_by (by kernel_rfl)) (fun _ _ _ _ _ => (b_name 23 nd)) (fun _ _ _ _ _ => (ts_one (g_tcmp op_gt sem_gt (g_peek 23) (g_vr (g_bin op_sub kV_late sem_sub (g_vr (g_sub rfl (hu_of hr) (g_peek 8) (g_peek 22))) (g_peek 6))) rfl))) (fun _ _ _ _ _ => (g_var 23))))) r_nil))) (g_peek 5) rfl))) (fun _ _ _ _ _ => (g_var 22))))
    (s_cons (s_if (g_tcmp (op_neU hr.units) sem_ne (g_vr (f_call (ok_first_beyond T) (hr.mono (by decide)) tk (g_cons (g_var 5) (g_cons (g_var 6) (g_cons (g_var 8) g_nil))))) (g_vr (g_if kV_late (g_tcmp (op_neU hr.units) sem_ne (g_peek 9) (g_vr (g_ov (g_lst g_nil))) rfl) (g_sub rfl (hu_of hr) (g_peek 9) (g_vr g_int)) g_non)) rfl) (s_one (s_ret g_bl)) s_nil)
    (s_cons (s_par2 (i := 10) (j := 11) rfl nd (m_val (f_call (ok__law_take T) (hr.mono (by decide)) tk (g_cons (g_var 1) (g_cons g_int g_nil))) (m_own (g_lst g_nil) m_nil)))
    (s_cons (s_for ow rfl (i_range1 T.z_range (g_cons (g_if kV_late (g_tcmp op_gt sem_gt (g_peek 3) (g_vr g_int) rfl) (g_var 10) g_int) g_nil)) (fun Γ => (b_name 12 nd)) (fun Γ q2 => (s_one (s_app 11 rfl (g_if kV_late (g_tcmp op_lt sem_lt (g_vr (g_callB call_lenU kV_late sem_len T.z_len (by decide +kernel) (r_cons (g_peek 11) r_nil))) (g_peek 3) rfl) g_int (g_bin op_add kV_late sem_addI (g_vr (g_sub rfl (hu_of hr) (g_peek 11) (g_vr (g_bin op_sub kV_late sem_sub (g_vr (g_callB call_lenU kV_late sem_len T.z_len (by decide +kernel) (r_cons (g_peek 11) r_nil))) (g_peek 3))))) (g_peek 4)))))))
    (s_cons (s_frz [11] (s_if (g_tcmp op_gt sem_gt (g_vr (f_call (ok__law_most T) (hr.mono (by decide)) tk (g_cons (g_var 11) (g_cons (g_var 4) g_nil)))) (g_peek 3) rfl) (s_one (s_ret g_bl)) s_nil))
    (s_cons (s_frz [11] (s_asg nd (g_if kV_late (PW.pt (g_or (g_tcmp op_gt sem_gt (g_peek 3) (g_vr g_int) rfl) (pw_or1 (g_tcmp (op_eqU hr.units) sem_eq (g_peek 10) (g_vr g_int) rfl)))) (g_var 11) g_non)))
    (s_cons (s_asg nd (f_call (ok_soonest T) (hr.mono (by decide)) tk (g_cons (g_var 7) (g_cons (g_var 10) g_nil))))
    (s_cons (s_if (PW.pt (g_or (g_tcmp (op_neU hr.units) sem_ne (g_vr (g_if kV_late (g_tcmp op_notN sem_isNot (g_peek 14) (g_vr g_non) rfl) (g_ov (g_callTy call_list_of kO_late sem_list T.z_list (by decide +kernel) (r_cons (g_peek 14) r_nil))) g_non)) (g_peek 13) rfl) (pw_or1 (g_tcmp (op_neU hr.units) sem_ne (g_vr (f_call (ok_span_of T) (hr.mono (by decide)) tk (g_cons (g_var 7) (g_cons (g_var 10) g_nil)))) (g_vr (g_if kV_late (g_tcmp op_isN sem_is (g_peek 13) (g_vr g_non) rfl) g_non (g_if kV_late (g_tcmp (op_neU hr.units) sem_ne (g_peek 13) (g_vr (g_ov (g_lst g_nil))) rfl) (g_bin op_sub kV_late sem_sub (g_vr (g_sub rfl (hu_of hr) (g_peek 13) (g_vr (g_un un_neg kV_late sem_neg (g_vr g_int))))) (g_vr (g_sub rfl (hu_of hr) (g_peek 13) (g_vr g_int)))) g_int))) rfl)))) (s_one (s_ret g_bl)) s_nil)
    (s_cons (s_asgO nd (g_lst g_nil))
    (s_cons (s_for ow rfl (i_range1 T.z_range (g_cons (g_if kV_late (g_tcmp op_gt sem_gt (g_peek 3) (g_vr g_int) rfl) g_int g_int) g_nil)) (fun Γ => (b_name 12 nd)) (fun Γ q3 => (s_one (s_app 15 rfl (g_if kV_late (g_tcmp op_lt sem_lt (g_vr (g_callB call_lenU kV_late sem_len T.z_len (by decide +kernel) (r_cons (g_peek 15) r_nil))) (g_peek 3) rfl) g_int (g_bin op_add kV_late sem_addI (g_vr (g_sub rfl (hu_of hr) (g_peek 15) (g_vr (g_bin op_sub kV_late sem_sub (g_vr (g_callB call_lenU kV_late sem_len T.z_len (by decide +kernel) (r_cons (g_peek 15) r_nil))) (g_peek 3))))) (g_peek 4)))))))
    (s_cons (s_frz [15] (s_asg nd (g_callB call_lenU kV_late sem_len T.z_len (by decide +kernel) (r_cons (g_vr (g_ov (g_lc (own := [("tick", 24)]) rfl nd (i_gc (i_seq rfl (g_var 15))) (blkOk_by (by kernel_rfl)) (fun _ _ _ _ _ => (b_name 24 nd)) (fun _ _ _ _ _ => (ts_one (g_tcmp op_lt sem_lt (g_peek 24) (g_peek 6) rfl))) (fun _ _ _ _ _ => (g_var 24))))) r_nil))))
    (s_cons (s_if (PW.pt (g_or (g_tcmp (op_neU hr.units) sem_ne (g_vr (f_call (ok_most_within T) (hr.mono (by decide)) tk (g_cons (g_var 6) (g_cons (g_var 7) g_nil)))) (g_peek 16) rfl) (pw_or1 (g_tcmp (op_neU hr.units) sem_ne (g_vr (f_call (ok_least_most T) (hr.mono (by decide)) tk (g_cons (g_var 6) (g_cons (g_var 7) g_nil)))) (g_peek 16) rfl)))) (s_one (s_ret g_bl)) s_nil)
    (s_cons (s_asg nd (f_call (ok_judge_bound T) (hr.mono (by decide)) tk (g_cons (g_var 5) (g_cons (g_var 6) (g_cons (g_var 7) g_nil)))))
    (s_cons (s_if (PW.pt (g_or (g_tcmp (op_neU hr.units) sem_ne (g_vr (f_boolOwn (l := [("Bears", m_Bears___bool__), ("Passed", m_Passed___bool__)]) (.cons ((ok_Bears___bool__ T).mono (k := 1) (by decide)) (.cons ((ok_Passed___bool__ T).mono (k := 1) (by decide)) .nil)) (hr.mono (by decide)) T.z_bool (g_var 17))) (g_vr (g_cmp op_le sem_le (g_peek 16) (g_peek 5) rfl)) rfl) (g_or (f_tneI (l := [("Bears", m_Bears___eq__), ("Passed", m_Passed___eq__)]) (cs := ["Bears", "Passed"]) (.cons ((ok_Bears___eq__ T).mono (k := 1) (by decide)) (.cons ((ok_Passed___eq__ T).mono (k := 1) (by decide)) .nil)) T.n_Bears_Passed__Bears_Passed (by intro c hc; simp only [List.map, List.mem_cons, List.not_mem_nil, or_false] at hc; rcases hc with rfl | rfl <;> first | exact T.e_Bears | exact T.e_Passed) (hr.mono (by decide)) (g_var 17) (g_if kV_late (g_tcmp op_le sem_le (g_peek 16) (g_peek 5) rfl) (f_make (okC_of T.c_Bears (ok_Bears___init__ T)) (hr.mono (by decide)) tk (g_cons (g_var 16) g_nil)) (f_make (okC_of T.c_Passed (ok_Passed___init__ T)) (hr.mono (by decide)) tk (g_cons (g_ov (g_cutL rfl (g_peek 15) o_none (o_some (g_vr (g_bin op_add kV_late sem_addI (g_peek 5) (g_vr g_int)))))) g_nil)))) (g_or (g_not (g_tr rfl (g_vr (f_meth (l := [("Bears", m_Bears_shows), ("Passed", m_Passed_shows)]) (.cons ((ok_Bears_shows T).mono (k := 6) (by decide)) (.cons ((ok_Passed_shows T).mono (k := 6) (by decide)) .nil)) (hr.mono (by decide)) tk (g_var 17) (g_cons (g_var 5) (g_cons (g_var 6) (g_cons (g_var 7) g_nil))))))) (g_or (g_tcmp (op_neU hr.units) sem_ne (g_vr (f_meth (l := [("Bears", m_Bears_shows)]) (.cons ((ok_Bears_shows T).mono (k := 6) (by decide)) .nil) (hr.mono (by decide)) tk (f_make (okC_of T.c_Bears (ok_Bears___init__ T)) (hr.mono (by decide)) tk (g_cons (g_var 16) g_nil)) (g_cons (g_var 5) (g_cons (g_var 6) (g_cons (g_var 7) g_nil))))) (g_vr (g_cmp op_le sem_le (g_peek 16) (g_peek 5) rfl)) rfl) (g_or (g_tr rfl (g_vr (f_meth (l := [("Passed", m_Passed_shows)]) (.cons ((ok_Passed_shows T).mono (k := 5) (by decide)) .nil) (hr.mono (by decide)) tk (f_make (okC_of T.c_Passed (ok_Passed___init__ T)) (hr.mono (by decide)) tk (g_cons (g_tup (g_cons g_non g_nil)) g_nil)) (g_cons (g_var 5) (g_cons (g_var 6) (g_cons (g_var 7) g_nil)))))) (pw_or1 (g_tr rfl (g_vr (f_meth (l := [("Passed", m_Passed_shows)]) (.cons ((ok_Passed_shows T).mono (k := 5) (by decide)) .nil) (hr.mono (by decide)) tk (f_make (okC_of T.c_Passed (ok_Passed___init__ T)) (hr.mono (by decide)) tk (g_cons (g_tup g_nil) g_nil)) (g_cons (g_var 5) (g_cons (g_var 6) (g_cons (g_var 7) g_nil))))))))))))) (s_one (s_ret g_bl)) s_nil)
    (s_cons (s_if (g_tcmp (op_neU hr.units) sem_ne (g_vr (f_meth (l := [("Passed", m_Passed_shows)]) (.cons ((ok_Passed_shows T).mono (k := 5) (by decide)) .nil) (hr.mono (by decide)) tk (f_make (okC_of T.c_Passed (ok_Passed___init__ T)) (hr.mono (by decide)) tk (g_cons (g_var 8) g_nil)) (g_cons (g_var 5) (g_cons (g_var 6) (g_cons (g_var 7) g_nil))))) (g_vr (f_call (ok__law_passed T) (hr.mono (by decide)) tk (g_cons (g_var 5) (g_cons (g_var 6) (g_cons (g_var 3) (g_cons (g_var 4) (g_cons (g_var 8) g_nil))))))) rfl) (s_one (s_ret g_bl)) s_nil)
    (s_cons (s_val 18 (s_asgLc (own := [("one", 23)]) rfl nd (by rfl) (i_gc (i_range2 T.z_range (g_cons g_int (g_cons g_int g_nil)))) (blkOk_by (by kernel_rfl)) (fun _ _ _ _ _ => (b_name 23 nd)) (fun _ _ _ _ _ => (ts_one (g_tcmp op_le sem_le (g_vr (g_callB call_lenU kV_late sem_len T.z_len (by decide +kernel) (r_cons (g_vr (g_ov (g_lc (own := [("tick", 24)]) rfl nd (i_gc (i_seq rfl (g_bin op_addU kV_late sem_add (g_peek 15) (g_vr (g_ov (g_lst (g_cons g_int g_nil))))))) (blkOk_by (by kernel_rfl)) (fun _ _ _ _ _ => (b_name 24 nd)) (fun _ _ _ _ _ => (ts_one (g_tcmp op_lt sem_lt (g_peek 24) (g_peek 23) rfl))) (fun _ _ _ _ _ => (g_var 24))))) r_nil))) (g_peek 5) rfl))) (fun _ _ _ _ _ => (g_var 23))))
    (s_one (s_if (PW.pt (g_and (g_tcmp (op_neU hr.units) sem_ne (g_vr (f_call (ok_greatest_ticks T) (hr.mono (by decide)) tk (g_cons (g_var 5) (g_cons (g_var 7) g_nil)))) (g_vr (g_if kV_late (g_tcmp (op_neU hr.units) sem_ne (g_peek 18) (g_vr (g_ov (g_lst g_nil))) rfl) (g_sub rfl (hu_of hr) (g_peek 18) (g_vr (g_un un_neg kV_late sem_neg (g_vr g_int)))) g_int)) rfl) (g_and (g_tcmp op_gt sem_gt (g_vr (g_callB call_lenU kV_late sem_len T.z_len (by decide +kernel) (r_cons (g_peek 15) r_nil))) (g_vr g_int) rfl) (pw_and1 (g_tcmp op_gt sem_gt (g_vr (g_sub rfl (hu_of hr) (g_peek 15) (g_vr (g_un un_neg kV_late sem_neg (g_vr g_int))))) (g_vr g_int) rfl))))) (s_one (s_ret g_bl)) s_nil)))))))))))))))))))))))
    (c_end (t_tail (ps_lams (ts := [L_0, L_1, L_2, L_3, L_4, L_5, L_6, L_7]) ow rfl nd (pp_cons (pe_pair (t := L_0) TB rfl rfl (LamX.lamS_by (by kernel_rfl)) (g_tup (g_cons g_str (g_cons g_non g_nil)))) (pp_cons (pe_pair (t := L_1) TB rfl rfl (LamX.lamS_by (by kernel_rfl)) (g_tup (g_cons g_str (g_cons g_non g_nil)))) (pp_cons (pe_pair (t := L_2) TB rfl rfl (LamX.lamS_by (by kernel_rfl)) (g_tup (g_cons g_str (g_cons g_non g_nil)))) (pp_cons (pe_pair (t := L_3) TB rfl rfl (LamX.lamS_by (by kernel_rfl)) (g_tup (g_cons g_str (g_cons g_int g_nil)))) (pp_cons (pe_pair (t := L_4) TB rfl rfl (LamX.lamS_by (by kernel_rfl)) (g_tup (g_cons g_str (g_cons g_non g_nil)))) (pp_cons (pe_pair (t := L_5) TB rfl rfl (LamX.lamS_by (by kernel_rfl)) (g_tup (g_cons g_str (g_cons g_non g_nil)))) (pp_cons (pe_pair (t := L_6) TB rfl rfl (LamX.lamS_by (by kernel_rfl)) (g_tup (g_cons g_str (g_cons g_non g_nil)))) (pp_cons (pe_pair (t := L_7) TB rfl rfl (LamX.lamS_by (by kernel_rfl)) (g_tup (g_cons g_str (g_cons g_non g_nil)))) pp_nil)))))))) (fun Γ q1 => ⟨lam_try (t := L_0) T.x_BadPart__BadPart__BadPart (q1.trans hx) nd (fun W pn xe tk ow => lam_body (t := L_0) (k := 5) (LamX.lamS_by (by kernel_rfl)) (fun _ _ _ _ _ => rfl) tk (hr.mono (by decide)) (fun A outer s H E f c hr => (f_make (okC_of T.c_Faults (ok_Faults___init__ T)) (hr.mono (by decide)) takes_lam (g_cons g_int (g_cons g_int g_nil))))) (fun a oe cls dd pn hz hf => (s_one (s_if (g_tcmp (op_neU hr.units) sem_ne (g_vr (g_tup (g_cons (f_xf (i := 21) T.x_BadPart (by decide) hz hf) (g_cons (f_xf (i := 21) T.x_BadPart (by decide) hz hf) g_nil)))) (g_peek 20) rfl) (s_one (s_ret g_bl)) s_nil))), ⟨lam_try (t := L_1) T.x_BadPart__BadPart__BadPart (q1.trans hx) nd (fun W pn xe tk ow => lam_body (t := L_1) (k := 5) (LamX.lamS_by (by kernel_rfl)) (fun _ _ _ _ _ => rfl) tk (hr.mono (by decide)) (fun A outer s H E f c hr => (f_make (okC_of T.c_Faults (ok_Faults___init__ T)) (hr.mono (by decide)) takes_lam (g_cons g_int (g_cons g_int g_nil))))) (fun a oe cls dd pn hz hf => (s_one (s_if (g_tcmp (op_neU hr.units) sem_ne (g_vr (g_tup (g_cons (f_xf (i := 21) T.x_BadPart (by decide) hz hf) (g_cons (f_xf (i := 21) T.x_BadPart (by decide) hz hf) g_nil)))) (g_peek 20) rfl) (s_one (s_ret g_bl)) s_nil))), ⟨lam_try (t := L_2) T.x_BadPart__BadPart__BadPart (q1.trans hx) nd (fun W pn xe tk ow => lam_body (t := L_2) (k := 4) (LamX.lamS_by (by kernel_rfl)) (fun _ _ _ _ _ => rfl) tk (hr.mono (by decide)) (fun A outer s H E f c hr => (f_call (ok_are_within T) (hr.mono (by decide)) takes_lam (g_cons (g_var 7) (g_cons g_int g_nil))))) (fun a oe cls dd pn hz hf => (s_one (s_if (g_tcmp (op_neU hr.units) sem_ne (g_vr (g_tup (g_cons (f_xf (i := 21) T.x_BadPart (by decide) hz hf) (g_cons (f_xf (i := 21) T.x_BadPart (by decide) hz hf) g_nil)))) (g_peek 20) rfl) (s_one (s_ret g_bl)) s_nil))), ⟨lam_try (t := L_3) T.x_BadPart__BadPart__BadPart (q1.trans hx) nd (fun W pn xe tk ow => lam_body (t := L_3) (k := 4) (LamX.lamS_by (by kernel_rfl)) (fun _ _ _ _ _ => rfl) tk (hr.mono (by decide)) (fun A outer s H E f c hr => (f_call (ok_are_within T) (hr.mono (by decide)) takes_lam (g_cons (g_var 7) (g_cons (g_ov (g_lst (g_cons g_int (g_cons g_int g_nil)))) g_nil))))) (fun a oe cls dd pn hz hf => (s_one (s_if (g_tcmp (op_neU hr.units) sem_ne (g_vr (g_tup (g_cons (f_xf (i := 21) T.x_BadPart (by decide) hz hf) (g_cons (f_xf (i := 21) T.x_BadPart (by decide) hz hf) g_nil)))) (g_peek 20) rfl) (s_one (s_ret g_bl)) s_nil))), ⟨lam_try (t := L_4) T.x_BadPart__BadPart__BadPart (q1.trans hx) nd (fun W pn xe tk ow => lam_body (t := L_4) (k := 4) (LamX.lamS_by (by kernel_rfl)) (fun _ _ _ _ _ => rfl) tk (hr.mono (by decide)) (fun A outer s H E f c hr => (f_call (ok_first_beyond T) (hr.mono (by decide)) takes_lam (g_cons g_int (g_cons g_int (g_cons (g_ov (g_lst g_nil)) g_nil)))))) (fun a oe cls dd pn hz hf => (s_one (s_if (g_tcmp (op_neU hr.units) sem_ne (g_vr (g_tup (g_cons (f_xf (i := 21) T.x_BadPart (by decide) hz hf) (g_cons (f_xf (i := 21) T.x_BadPart (by decide) hz hf) g_nil)))) (g_peek 20) rfl) (s_one (s_ret g_bl)) s_nil))), ⟨lam_try (t := L_5) T.x_BadPart__BadPart__BadPart (q1.trans hx) nd (fun W pn xe tk ow => lam_body (t := L_5) (k := 4) (LamX.lamS_by (by kernel_rfl)) (fun _ _ _ _ _ => rfl) tk (hr.mono (by decide)) (fun A outer s H E f c hr => (f_call (ok_soonest T) (hr.mono (by decide)) takes_lam (g_cons (g_var 7) (g_cons g_int g_nil))))) (fun a oe cls dd pn hz hf => (s_one (s_if (g_tcmp (op_neU hr.units) sem_ne (g_vr (g_tup (g_cons (f_xf (i := 21) T.x_BadPart (by decide) hz hf) (g_cons (f_xf (i := 21) T.x_BadPart (by decide) hz hf) g_nil)))) (g_peek 20) rfl) (s_one (s_ret g_bl)) s_nil))), ⟨lam_try (t := L_6) T.x_BadPart__BadPart__BadPart (q1.trans hx) nd (fun W pn xe tk ow => lam_body (t := L_6) (k := 4) (LamX.lamS_by (by kernel_rfl)) (fun _ _ _ _ _ => rfl) tk (hr.mono (by decide)) (fun A outer s H E f c hr => (f_call (ok_most_within T) (hr.mono (by decide)) takes_lam (g_cons g_int (g_cons (g_var 7) g_nil))))) (fun a oe cls dd pn hz hf => (s_one (s_if (g_tcmp (op_neU hr.units) sem_ne (g_vr (g_tup (g_cons (f_xf (i := 21) T.x_BadPart (by decide) hz hf) (g_cons (f_xf (i := 21) T.x_BadPart (by decide) hz hf) g_nil)))) (g_peek 20) rfl) (s_one (s_ret g_bl)) s_nil))), ⟨lam_try (t := L_7) T.x_BadPart__BadPart__BadPart (q1.trans hx) nd (fun W pn xe tk ow => lam_body (t := L_7) (k := 5) (LamX.lamS_by (by kernel_rfl)) (fun _ _ _ _ _ => rfl) tk (hr.mono (by decide)) (fun A outer s H E f c hr => (f_call (ok_judge_bound T) (hr.mono (by decide)) takes_lam (g_cons g_int (g_cons g_int (g_cons g_int g_nil)))))) (fun a oe cls dd pn hz hf => (s_one (s_if (g_tcmp (op_neU hr.units) sem_ne (g_vr (g_tup (g_cons (f_xf (i := 21) T.x_BadPart (by decide) hz hf) (g_cons (f_xf (i := 21) T.x_BadPart (by decide) hz hf) g_nil)))) (g_peek 20) rfl) (s_one (s_ret g_bl)) s_nil))), True.intro⟩⟩⟩⟩⟩⟩⟩⟩)) (s_ret g_bl)))))
end
end Lw
namespace Lw
open Gh L2 PyProof.Rows PySem.Spec PySem
def I (ns : List Int) : List D := ns.map D.int
@[simp] theorem I_len (ns : List Int) : (I ns).length = ns.length := List.length_map ..
@[simp] theorem I_nil : I [] = [] := rfl
theorem I_cons (n : Int) (ns : List Int) : I (n :: ns) = .int n :: I ns := rfl
theorem okI (ns : List Int) (k : Nat) : (I ns).all (okD k) = true := by
  induction ns with
  | nil => rfl
  | cons n r ih =>
    show (okD k (.int n) && (I r).all (okD k)) = true
    rw [ih]
    cases k <;> rfl
theorem upto_map (lo : Int) (n : Nat) : upto lo n = (List.range n).map fun (i : Nat) => D.int (lo + (i : Int)) := rfl
theorem atI_I (ns : List Int) (k : Int) (h0 : 0 ≤ k) (h1 : k < ns.length) : atI (I ns) k = some (.int (ns.getD k.toNat 0)) := by
  unfold atI ixN
  rw [if_pos h0, I_len, if_pos h1, Option.bind_some]
  unfold I
  rw [List.getElem?_map]
  have : k.toNat < ns.length := by omega
  simp [List.getElem?_eq_getElem this, List.getD]
/-! ### the law's own numbers -/
theorem ne_scr (ns : List Int) : eqD (.scr (I ns)) (.lst []) = some (decide (ns = [])) := by
  have h : okD 20 (.scr (I ns)) = true := okI ns 19
  have h2 : okD 20 (.lst []) = true := rfl
  show (if okD 20 (.scr (I ns)) = true ∧ okD 20 (.lst []) = true then some (D.eqv (.scr (I ns)) (.lst [])) else none) = _
  rw [if_pos ⟨h, h2⟩]
  cases ns with
  | nil => rfl
  | cons n r => rfl
theorem number_ok (ns : List Int) (k : Int) (h : 0 ≤ k) (hm : ns.length ≤ 63) (st : Store) : ∃ v, m__law_number [.scr (I ns), .int k] st = .ok (.int v) st := by
  have e0 : ∃ c t : Int, 0 ≤ t ∧ (sAsgT (bTup 2 (bCons (bName 2) (bCons (bName 3) bNil))) (eIf (tB (e2 gNe (ePeek 0) (eLst aNil))) (eTup (aCons (e2 gIx (ePeek 0) (e2 gMod (ePeek 1) (eN gLen (aCons (ePeek 0) aNil)))) (aCons (e2 gFdiv (ePeek 1) (eN gLen (aCons (ePeek 0) aNil))) aNil))) (eTup (aCons (eC (.int 12345)) (aCons (eC (.int 0)) aNil))))) [.val (.scr (I ns)), .val (.int k), .un, .un, .un, .un, .un] st = .nx [.val (.scr (I ns)), .val (.int k), .val (.int c), .val (.int t), .un, .un, .un] st := by
    by_cases hn : ns = []
    · subst hn
      refine ⟨12345, 0, by decide, ?_⟩
      simp [gNe, ne_scr [], flatL, isLoc]
      rfl
    · have hl : 0 < ns.length := List.length_pos_iff.mpr hn
      refine ⟨ns.getD (k % (ns.length : Int)).toNat 0, k / (ns.length : Int), Int.ediv_nonneg h (by omega), ?_⟩
      have e1 := atI_I ns (k % (ns.length : Int)) (Int.emod_nonneg _ (by omega)) (Int.emod_lt_of_pos _ (by omega))
      have e2' : gIx (.scr (I ns)) (.int (k % (ns.length : Int))) st = RC.ok (D.int (ns.getD (k % (ns.length : Int)).toNat 0)) st := by
        show (match itemsOf (.scr (I ns)) with | some ds => (match atI ds (k % (ns.length : Int)) with | some d => RC.ok d st | none => .bad) | none => .bad) = _
        show (match atI (I ns) (k % (ns.length : Int)) with | some d => RC.ok d st | none => .bad) = _
        rw [e1]
      have e3 : ∀ st', gLen [.scr (I ns)] st' = RC.ok (D.int (ns.length : Int)) st' := fun st' => by
        show RC.ok (D.int (((I ns).length : Nat) : Int)) st' = _
        rw [I_len]
      have hk : decide (0 < (ns.length : Int) ∧ (ns.length : Int) < 1073741824) = true := by simp; omega
      have hk2 : decide (0 < (ns.length : Int)) = true := by simp; omega
      have h4 : (ns.length : Int) < 1073741824 := by omega
      simp [gNe, ne_scr ns, hn, flatL, isLoc, e2', e3, hl, h4]
  obtain ⟨c, t, ht, e0⟩ := e0
  suffices q : ∃ v, b__law_number [.val (.scr (I ns)), .val (.int k), .un, .un, .un, .un, .un] st = SR.rt (D.int v) st by
    obtain ⟨v, q⟩ := q
    exact ⟨v, callD_rt0 rfl q rfl⟩
  let P : SR → Prop := fun r => ∃ v, r = SR.rt (D.int v) st
  show P (b__law_number _ st)
  unfold b__law_number
  refine seq_P P e0 ?_
  have e1 : ∃ r0 : Int, (sAsg 4 (eIf (tB (e2 gLt (ePeek 3) (eC (.int 60)))) (e2 gSub (ePeek 2) (e2 gPow (eC (.int 10)) (eC (.int 18)))) (eC (.int 0)))) [.val (.scr (I ns)), .val (.int k), .val (.int c), .val (.int t), .un, .un, .un] st = .nx [.val (.scr (I ns)), .val (.int k), .val (.int c), .val (.int t), .val (.int r0), .un, .un] st := by
    by_cases h60 : t < 60
    · refine ⟨c - 10 ^ 18, ?_⟩
      simp [h60]
      rfl
    · exact ⟨0, by simp [h60]⟩
  obtain ⟨r0, e1⟩ := e1
  refine seq_P P e1 ?_
  have z2 : ∃ (r : Int) (x : Sl), (sFor (lRange1 (aCons (e2 gMod (eN gInt (aCons (ePeek 3) aNil)) (eC (.int 60))) aNil)) (bName 5) lb__law_number_0) [.val (.scr (I ns)), .val (.int k), .val (.int c), .val (.int t), .val (.int r0), .un, .un] st = .nx [.val (.scr (I ns)), .val (.int k), .val (.int c), .val (.int t), .val (.int r), x, .un] st := by
    have hi : (lRange1 (aCons (e2 gMod (eN gInt (aCons (ePeek 3) aNil)) (eC (.int 60))) aNil)) [.val (.scr (I ns)), .val (.int k), .val (.int c), .val (.int t), .val (.int r0), .un, .un] st = .ok ((List.range (t % 60).toNat).map fun (i : Nat) => D.int (0 + (i : Int))) st := by
      have h1 := Int.emod_nonneg t (show (60 : Int) ≠ 0 by decide)
      have h2 := Int.emod_lt_of_pos t (show (0 : Int) < 60 by decide)
      have h3 : -1000000000 ≤ t % 60 ∧ t % 60 ≤ 1000000000 := by omega
      simp [gInt, h3.1, h3.2, upto_map]
    obtain ⟨ρ2, st2, e, r, x, rfl, rfl⟩ := forGo_inv (bd := bName 5) (b := lb__law_number_0) (fun (i : Nat) => D.int (0 + (i : Int))) (fun ρ s => ∃ (r : Int) (x : Sl), ρ = [.val (.scr (I ns)), .val (.int k), .val (.int c), .val (.int t), .val (.int r), x, .un] ∧ s = st) (List.range (t % 60).toNat)
      (by
        rintro i _ ρ s ⟨r, x, rfl, rfl⟩
        exact ⟨_, rfl, _, _, by unfold lb__law_number_0; simp; exact ⟨rfl, rfl⟩, _, _, rfl, rfl⟩) [.val (.scr (I ns)), .val (.int k), .val (.int c), .val (.int t), .val (.int r0), .un, .un] st ⟨r0, .un, rfl, rfl⟩
    refine ⟨r, x, ?_⟩
    rw [r_for, hi]
    exact e
  obtain ⟨r, x, z2⟩ := z2
  refine seq_P P z2 ?_
  by_cases hr : 0 < r
  · refine ⟨r % 1009, ?_⟩
    simp [gInt, hr]
  · have e3 : (sIf (tB (e2 gGt (ePeek 4) (eC (.int 0)))) (sRet (e2 gMod (eN gInt (aCons (ePeek 4) aNil)) (eC (.int 1009)))) sNil) [.val (.scr (I ns)), .val (.int k), .val (.int c), .val (.int t), .val (.int r), x, .un] st = .nx [.val (.scr (I ns)), .val (.int k), .val (.int c), .val (.int t), .val (.int r), x, .un] st := by simp [hr]
    refine seq_P P e3 ?_
    have e4 : ∀ s' : Store, gLen [.scr (I ns)] s' = RC.ok (D.int (ns.length : Int)) s' := fun s' => by
      show RC.ok (D.int (((I ns).length : Nat) : Int)) s' = _
      rw [I_len]
    have sm : ∀ z : Int, -(2 ^ 64) < z → z < 2 ^ 64 → Gh.small64 z = true := fun z h1 h2 => by unfold Gh.small64; simp; omega
    have s1 := sm 977 (by decide) (by decide)
    have s2 := sm 48271 (by decide) (by decide)
    have s3 := sm 31 (by decide) (by decide)
    have s4 := sm 40503 (by decide) (by decide)
    have s5 := sm 69621 (by decide) (by decide)
    obtain ⟨b1, hb1⟩ : ∃ b1, b1 = ((c + 977 * k) * 48271 + 31 * (ns.length : Int)) % 2147483647 := ⟨_, rfl⟩
    have g1 : 0 ≤ b1 := by rw [hb1]; exact Int.emod_nonneg _ (by decide)
    have g2 : b1 < 2147483647 := by rw [hb1]; exact Int.emod_lt_of_pos _ (by decide)
    have s6 := sm b1 (by omega) (by omega)
    have e5 : (sAsg 6 (e2 gMod (e2 gAddI (e2 gMul (eN gInt (aCons (e2 gAddI (ePeek 2) (e2 gMul (eC (.int 977)) (ePeek 1))) aNil)) (eC (.int 48271))) (e2 gMul (eC (.int 31)) (eN gLen (aCons (ePeek 0) aNil)))) (eC (.int 2147483647)))) [.val (.scr (I ns)), .val (.int k), .val (.int c), .val (.int t), .val (.int r), x, .un] st = .nx [.val (.scr (I ns)), .val (.int k), .val (.int c), .val (.int t), .val (.int r), x, .val (.int b1)] st := by
      rw [hb1]
      simp [gInt, e4, s1, s2, s3]
    refine seq_P P e5 ?_
    exact ⟨_, by simp [gInt, s4, s5, s6]; rfl⟩
/-- the law's store: the script, how many were drawn; what else stands there -/
abbrev dr (ns : List Int) (k : Int) (R : Store) : Store := .lst [.scr (I ns), .int k] :: R
theorem take_ok (ns : List Int) (k m : Int) (R : Store) (h : 0 ≤ k) (hm : 0 < m) (hl : ns.length ≤ 63) : ∃ v : Int, 0 ≤ v ∧ v < m ∧ m__law_take [.loc 0, .int m] (dr ns k R) = .ok (.int v) (dr ns (k + 1) R) := by
  obtain ⟨v, hv⟩ := number_ok ns (k + 1) (by omega) hl (dr ns (k + 1) R)
  refine ⟨v % m, Int.emod_nonneg _ (by omega), Int.emod_lt_of_pos _ hm, ?_⟩
  suffices q : m__law_take [.loc 0, .int m] (dr ns k R) = .ok (.int (v % m)) ((dr ns (k + 1) R).take (dr ns k R).length) by
    rw [q]
    congr 1
    exact List.take_length (l := dr ns (k + 1) R)
  refine callD_rt (st' := dr ns (k + 1) R) rfl ?_ rfl
  show b__law_take [.val (.loc 0), .val (.int m)] (dr ns k R) = _
  unfold b__law_take
  have e1 : (sAugI (eVar 0) (eC (.int 1)) gAddI (eC (.int 1))) [.val (.loc 0), .val (.int m)] (dr ns k R) = .nx [.val (.loc 0), .val (.int m)] (dr ns (k + 1) R) := rfl
  rw [seq_nx e1]
  have g0 : gIx (.loc 0) (.int 0) (dr ns (k + 1) R) = .ok (.scr (I ns)) (dr ns (k + 1) R) := rfl
  have g1 : gIx (.loc 0) (.int 1) (dr ns (k + 1) R) = .ok (.int (k + 1)) (dr ns (k + 1) R) := rfl
  simp [g0, g1, gInt, hv, hm]
end Lw
namespace Lw
open Gh L2 PyProof.Rows PySem.Spec PySem
/-! ### faults, numbers -/
abbrev FA (m t : Int) : D := .ins "Faults" [("many", .int m), ("ticks", .int t)]
@[simp] theorem att_many (m t : Int) (st : Store) : eAttC "many" ["Faults"] (FA m t) st = .ok (.int m) st := by kernel_rfl
@[simp] theorem att_ticks (m t : Int) (st : Store) : eAttC "ticks" ["Faults"] (FA m t) st = .ok (.int t) st := by kernel_rfl
@[simp] theorem isi_FA (m t : Int) (st : Store) : gIsi [] ["Faults"] [] (FA m t) st = .ok (.bl true) st := by kernel_rfl
@[simp] theorem isi_int (z : Int) (st : Store) : gIsi ["int"] [] [] (.int z) st = .ok (.bl true) st := by kernel_rfl
@[simp] theorem isi_bool (z : Int) (st : Store) : gIsi ["bool"] [] [] (.int z) st = .ok (.bl false) st := by kernel_rfl
@[simp] theorem isi_rowL (ds : List D) (st : Store) : gIsi ["list", "tuple"] [] [] (.lst ds) st = .ok (.bl true) st := by kernel_rfl
@[simp] theorem isi_rowT (ds : List D) (st : Store) : gIsi ["list", "tuple"] [] [] (.tup ds) st = .ok (.bl true) st := by kernel_rfl
@[simp] theorem check_faults_ok (m t : Int) (st : Store) : m_check_faults [FA m t] st = .ok .non st := by
  refine callD_nx0 (ρ' := [.val (FA m t)]) rfl ?_
  show b_check_faults [.val (FA m t)] st = _
  simp [b_check_faults]
@[simp] theorem is_integer_ok (z : Int) (st : Store) : m_is_integer [.int z] st = .ok (.bl true) st := by
  refine callD_rt0 rfl ?_ rfl
  show b_is_integer [.val (.int z)] st = _
  simp [b_is_integer]
@[simp] theorem is_number_ok (z a b : Int) (st : Store) : m_is_number [.int z, .int a, .int b] st = .ok (.bl (decide (a ≤ z) && decide (z ≤ b))) st := by
  refine callD_rt0 rfl ?_ rfl
  show b_is_number [.val (.int z), .val (.int a), .val (.int b)] st = _
  by_cases h : a ≤ z <;> simp [b_is_number, h]
theorem check_number_ok (s : Str) (z a b : Int) (st : Store) (h : a ≤ z ∧ z ≤ b) : m_check_number [.str s, .int z, .int a, .int b] st = .ok .non st := by
  refine callD_nx0 (ρ' := [.val (.str s), .val (.int z), .val (.int a), .val (.int b)]) rfl ?_
  show b_check_number [.val (.str s), .val (.int z), .val (.int a), .val (.int b)] st = _
  simp [b_check_number, h.1, h.2]
@[simp] theorem is_rowL_ok (ds : List D) (st : Store) : m_is_row [.lst ds] st = .ok (.bl true) st := by
  refine callD_rt0 rfl ?_ rfl
  show b_is_row [.val (.lst ds)] st = _
  simp [b_is_row]
@[simp] theorem is_rowT_ok (ds : List D) (st : Store) : m_is_row [.tup ds] st = .ok (.bl true) st := by
  refine callD_rt0 rfl ?_ rfl
  show b_is_row [.val (.tup ds)] st = _
  simp [b_is_row]
theorem set_last (st : Store) (x y : D) : (st ++ [x]).set st.length y = st ++ [y] := by
  induction st with
  | nil => rfl
  | cons a r ih => simp [ih]
theorem make_ok (m t : Int) (st : Store) (hm : 0 ≤ m ∧ m ≤ 999) (ht : 1 ≤ t ∧ t ≤ 99) : stillD st.length (initD "Faults" m_Faults___init__ [.int m, .int t] st) = .ok (FA m t) st := by
  have e : m_Faults___init__ [.loc st.length, .int m, .int t] (st ++ [.ins "Faults" []]) = .ok .non (st ++ [FA m t]) := by
    have q : b_Faults___init__ [.val (.loc st.length), .val (.int m), .val (.int t)] (st ++ [.ins "Faults" []]) = .nx [.val (.loc st.length), .val (.int m), .val (.int t)] (st ++ [FA m t]) := by
      have p1 : putFD "many" (.int m) [] = [(("many" : Str), D.int m)] := rfl
      have p2 : putFD "ticks" (.int t) [(("many" : Str), D.int m)] = [(("many" : Str), D.int m), (("ticks" : Str), .int t)] := by kernel_rfl
      simp [b_Faults___init__, check_number_ok _ m 0 999 _ hm, check_number_ok _ t 1 99 _ ht, sAtt, set_last, p1, p2, isLoc]
    have h := callD_nx (np := 3) (nl := 3) (ds := [.loc st.length, .int m, .int t]) rfl q
    rw [show (st ++ [FA m t]).take (st ++ [D.ins "Faults" []]).length = st ++ [FA m t] from List.take_of_length_le (by simp)] at h
    exact h
  unfold initD
  rw [e]
  simp [stillD]
end Lw
namespace Lw
open Gh L2 PyProof.Rows PySem.Spec PySem
/-! ### windows -/
def win (t now : Int) (l : List Int) : List Int := l.filter fun x => decide (now - t < x)
abbrev cnt (t now : Int) (l : List Int) : Nat := (win t now l).length
theorem within_ok (l : List Int) (now t : Int) (st : Store) (hl : l.length < 100000) : m_within [.lst (I l), .int now, .int t] st = .ok (.tup (I (win t now l))) st := by
  refine callD_rt0 rfl ?_ rfl
  show b_within [.val (.lst (I l)), .val (.int now), .val (.int t), .un] st = _
  have e : eComp (lSeq (eVar 0)) (bName 3) ct_within_0 (eVar 3) [3] [.val (.lst (I l)), .val (.int now), .val (.int t), .un] st = .ok (.lst (I (win t now l))) st := by
    refine eComp_map D.int D.int (fun x => decide (now - t < x)) l (by simp; rfl) hl fun a ha => ⟨_, rfl, ?_, fun _ => ⟨?_, rfl⟩⟩
    · simp [u_lb_check_falls_0, u_ct_within_0, u_ce_are_within_0, wipeR]
    · simp [u_lb_check_falls_0, u_ct_within_0, u_ce_are_within_0, wipeR]
  simp [u_lb_check_falls_0, u_ct_within_0, u_ce_are_within_0, b_within, e, gTuple, itemsOf]
def at0 (l : List Int) (i : Nat) : Int := l.getD i 0
theorem num_I (l : List Int) : Gh.numbered (I l) = (List.range l.length).map fun (i : Nat) => D.tup [.int (i : Int), .int (at0 l i)] := by
  unfold Gh.numbered
  rw [I_len]
  refine List.map_congr_left fun i hi => ?_
  have hi : i < l.length := List.mem_range.mp hi
  simp [u_lb_check_falls_0, u_ct_within_0, u_ce_are_within_0, I, at0, List.getD, List.getElem?_map, List.getElem?_eq_getElem hi]
theorem cut_to (l : List Int) (i : Nat) (hi : i < l.length) : Gh.cutD (I l) none (some ((i : Int) + 1)) = I (l.take (i + 1)) := by
  unfold Gh.cutD
  rw [show ((i : Int) + 1) = ((i + 1 : Nat) : Int) by omega, HT.sIx_none, HT.sIx_nat, I_len]
  rw [show min (i + 1) l.length - 0 = i + 1 by omega, List.drop_zero]
  unfold I
  rw [← List.map_take]
theorem cut_from1 (l : List Int) : Gh.cutD (I l) (some 1) none = I (l.drop 1) := by
  unfold Gh.cutD
  rw [show (1 : Int) = ((1 : Nat) : Int) from rfl, HT.sIx_none, HT.sIx_nat, I_len]
  cases l with
  | nil => rfl
  | cons a r =>
    rw [show min 1 (a :: r).length = 1 by simp]
    rw [List.take_of_length_le (by simp)]
    rfl
/-! ### rows of falls -/
def okF : Int → List Int → Prop
  | _, [] => True
  | p, x :: r => p ≤ x ∧ x ≤ 99999 ∧ okF x r
theorem falls_loop (x : D) (st : Store) : ∀ (l : List Int) (k : Nat) (p : Int) (a b : Sl), okF p l → ∃ (q : Int) (c d : Sl), forGo (bTup 2 (bCons (bName 2) (bCons (bName 3) bNil))) lb_check_falls_0 (numF k (I l)) [.val x, .val (.int p), a, b] st = .nx [.val x, .val (.int q), c, d] st
  | [], k, p, a, b, _ => ⟨p, a, b, rfl⟩
  | y :: r, k, p, a, b, h => by
    obtain ⟨q, c, d, e⟩ := falls_loop x st r (k + 1) y (.val (.int k)) (.val (.int y)) h.2.2
    refine ⟨q, c, d, ?_⟩
    rw [← e]
    show forGo _ _ (.tup [.int k, .int y] :: numF (k + 1) (I r)) _ st = _
    conv => lhs; unfold forGo
    simp [u_lb_check_falls_0, u_ct_within_0, u_ce_are_within_0, h.1, h.2.1]
theorem check_falls_ok (l : List Int) (x : D) (hx : x = .lst (I l) ∨ x = .tup (I l)) (h : okF 0 l) (st : Store) : m_check_falls [x] st = .ok .non st := by
  obtain ⟨q, c, d, e⟩ := falls_loop x st l 0 0 .un .un h
  refine callD_nx0 (ρ' := [.val x, .val (.int q), c, d]) rfl ?_
  show b_check_falls [.val x, .un, .un, .un] st = _
  rw [← numbered_F] at e
  rcases hx with rfl | rfl <;> simp [u_lb_check_falls_0, u_ct_within_0, u_ce_are_within_0, b_check_falls, e, r_enum]
def row (t : Int) (l : List Int) (i : Nat) : Nat := cnt t (at0 l i) (l.take (i + 1))
def aw (m t : Int) (l : List Int) : Bool := (List.range l.length).all fun i => decide ((row t l i : Int) ≤ m)
theorem bools_map {α : Type} (f : α → Bool) : ∀ l : List α, asBools (l.map fun i => D.bl (f i)) = some (l.map f)
  | [] => rfl
  | a :: r => by
    show (asBools (r.map fun i => D.bl (f i))).map (f a :: ·) = _
    rw [bools_map f r]
    rfl
theorem ints_map {α : Type} (f : α → Int) : ∀ l : List α, asInts (l.map fun i => D.int (f i)) = some (l.map f)
  | [] => rfl
  | a :: r => by
    show (asInts (r.map fun i => D.int (f i))).map (f a :: ·) = _
    rw [ints_map f r]
    rfl
theorem len_tup (l : List Int) (st : Store) : gLen [.tup (I l)] st = .ok (.int (l.length : Int)) st := by
  show RC.ok (D.int (((I l).length : Nat) : Int)) st = _
  rw [I_len]
theorem len_lst (l : List Int) (st : Store) : gLen [.lst (I l)] st = .ok (.int (l.length : Int)) st := by
  show RC.ok (D.int (((I l).length : Nat) : Int)) st = _
  rw [I_len]
theorem are_within_ok (m t : Int) (l : List Int) (x : D) (hx : x = .lst (I l) ∨ x = .tup (I l)) (h : okF 0 l) (hl : l.length < 100000) (st : Store) : m_are_within [FA m t, x] st = .ok (.bl (aw m t l)) st := by
  refine callD_rt0 rfl ?_ rfl
  show b_are_within [.val (FA m t), .val x, .un, .un] st = _
  have hc := check_falls_ok l x hx h st
  have he : (lEnumU (aCons (eVar 1) aNil)) [.val (FA m t), .val x, .un, .un] st = .ok ((List.range l.length).map fun (i : Nat) => D.tup [.int (i : Int), .int (at0 l i)]) st := by
    rcases hx with rfl | rfl <;> simp [u_lb_check_falls_0, u_ct_within_0, u_ce_are_within_0, num_I, r_enum]
  have hg : gList [x] st = .ok (.lst (I l)) st := by
    rcases hx with rfl | rfl <;> rfl
  have e : eComp (lEnumU (aCons (eVar 1) aNil)) (bTup 2 (bCons (bName 2) (bCons (bName 3) bNil))) tYes ce_are_within_0 [2, 3] [.val (FA m t), .val x, .un, .un] st
      = .ok (.lst ((List.range l.length).map fun i => D.bl (decide ((row t l i : Int) ≤ m)))) st := by
    have z := eComp_map (α := Nat) (mi := lEnumU (aCons (eVar 1) aNil)) (bd := bTup 2 (bCons (bName 2) (bCons (bName 3) bNil))) (t := tYes) (me := ce_are_within_0) (vs := [2, 3])
      (fun (i : Nat) => D.tup [.int (i : Int), .int (at0 l i)]) (fun i => D.bl (decide ((row t l i : Int) ≤ m))) (fun _ => true) (List.range l.length) he (by simpa using hl) fun i hi => ⟨_, rfl, rfl, fun _ => ⟨?_, rfl⟩⟩
    · rw [List.filter_eq_self.mpr (fun _ _ => rfl)] at z
      exact z
    · have hi : i < l.length := List.mem_range.mp hi
      have hw := within_ok (l.take (i + 1)) (at0 l i) t st (by rw [List.length_take]; omega)
      simp [u_lb_check_falls_0, u_ct_within_0, u_ce_are_within_0, wipeR, hg, gCutL, cut_to l i hi, hw, len_tup, row, cnt]
      rfl
  have hb := bools_map (fun i => decide ((row t l i : Int) ≤ m)) (List.range l.length)
  simp [u_lb_check_falls_0, u_ct_within_0, u_ce_are_within_0, b_are_within, hc, e, gAll, hb, aw]
end Lw
namespace Lw
open Gh L2 PyProof.Rows PySem.Spec PySem
theorem eqv_I : ∀ a b : List Int, eqvL (I a) (I b) = decide (a = b)
  | [], [] => rfl
  | [], _ :: _ => rfl
  | _ :: _, [] => rfl
  | x :: a, y :: b => by
    show (D.eqv (.int x) (.int y) && eqvL (I a) (I b)) = _
    rw [eqv_I a b]
    show ((x == y) && decide (a = b)) = _
    by_cases h : x = y <;> by_cases h2 : a = b <;> simp [u_ce_soonest_0, u_lb_first_beyond_0, h, h2]
theorem ok_lst (a : List Int) : okD 20 (.lst (I a)) = true := okI a 19
theorem ok_tup (a : List Int) : okD 20 (.tup (I a)) = true := okI a 19
@[simp] theorem eq_ii (a b : Int) (st : Store) : gEq (.int a) (.int b) st = .ok (.bl (decide (a = b))) st := rfl
@[simp] theorem ne_ii (a b : Int) (st : Store) : gNe (.int a) (.int b) st = .ok (.bl (!decide (a = b))) st := rfl
@[simp] theorem ne_bb (a b : Bool) (st : Store) : gNe (.bl a) (.bl b) st = .ok (.bl (!decide (a = b))) st := rfl
@[simp] theorem ne_in (a : Int) (st : Store) : gNe (.int a) .non st = .ok (.bl true) st := rfl
@[simp] theorem ne_ni (a : Int) (st : Store) : gNe .non (.int a) st = .ok (.bl true) st := rfl
@[simp] theorem ne_nn (st : Store) : gNe .non .non st = .ok (.bl false) st := rfl
@[simp] theorem eq_ni (a : Int) (st : Store) : gEq .non (.int a) st = .ok (.bl false) st := rfl
theorem eqD_ll (a b : List Int) : eqD (.lst (I a)) (.lst (I b)) = some (decide (a = b)) := by
  show (if okD 20 (.lst (I a)) = true ∧ okD 20 (.lst (I b)) = true then some (D.eqv (.lst (I a)) (.lst (I b))) else none) = _
  rw [if_pos ⟨ok_lst a, ok_lst b⟩]
  exact congrArg some (eqv_I a b)
theorem eqD_tt (a b : List Int) : eqD (.tup (I a)) (.tup (I b)) = some (decide (a = b)) := by
  show (if okD 20 (.tup (I a)) = true ∧ okD 20 (.tup (I b)) = true then some (D.eqv (.tup (I a)) (.tup (I b))) else none) = _
  rw [if_pos ⟨ok_tup a, ok_tup b⟩]
  exact congrArg some (eqv_I a b)
theorem eqD_nl (a : List Int) : eqD .non (.lst (I a)) = some false := by
  show (if okD 20 .non = true ∧ okD 20 (.lst (I a)) = true then some (D.eqv .non (.lst (I a))) else none) = _
  rw [if_pos ⟨rfl, ok_lst a⟩]
  rfl
theorem eqD_ln (a : List Int) : eqD (.lst (I a)) .non = some false := by
  show (if okD 20 (.lst (I a)) = true ∧ okD 20 .non = true then some (D.eqv (.lst (I a)) .non) else none) = _
  rw [if_pos ⟨ok_lst a, rfl⟩]
  rfl
@[simp] theorem ne_ll (a b : List Int) (st : Store) : gNe (.lst (I a)) (.lst (I b)) st = .ok (.bl (!decide (a = b))) st := by unfold gNe; rw [eqD_ll]
@[simp] theorem ne_l0 (a : List Int) (st : Store) : gNe (.lst (I a)) (.lst []) st = .ok (.bl (!decide (a = []))) st := ne_ll a [] st
@[simp] theorem ne_t0 (a : List Int) (st : Store) : gNe (.tup (I a)) (.tup []) st = .ok (.bl (!decide (a = []))) st := by
  show (match eqD (.tup (I a)) (.tup (I [])) with | some b => RC.ok (D.bl (!b)) st | none => .bad) = _
  rw [eqD_tt]
@[simp] theorem ne_nl (a : List Int) (st : Store) : gNe .non (.lst (I a)) st = .ok (.bl true) st := by unfold gNe; rw [eqD_nl]; rfl
@[simp] theorem ne_ln (a : List Int) (st : Store) : gNe (.lst (I a)) .non st = .ok (.bl true) st := by unfold gNe; rw [eqD_ln]; rfl
theorem ix_pos (l : List Int) (k : Int) (h0 : 0 ≤ k) (h1 : k < l.length) (st : Store) : gIx (.lst (I l)) (.int k) st = .ok (.int (l.getD k.toNat 0)) st := by
  show (match atI (I l) k with | some d => RC.ok d st | none => .bad) = _
  rw [atI_I l k h0 h1]
theorem ix_neg (l : List Int) (j : Nat) (h0 : 1 ≤ j) (h1 : j ≤ l.length) (st : Store) : gIx (.lst (I l)) (.int (-(j : Int))) st = .ok (.int (l.getD (l.length - j) 0)) st := by
  show (match atI (I l) (-(j : Int)) with | some d => RC.ok d st | none => .bad) = _
  have e : atI (I l) (-(j : Int)) = some (.int (l.getD (l.length - j) 0)) := by
    unfold atI ixN
    rw [if_neg (by omega), I_len, if_pos (by omega), Option.bind_some, show (-(j : Int) + (l.length : Int)).toNat = l.length - j by omega]
    unfold I
    rw [List.getElem?_map]
    have : l.length - j < l.length := by omega
    simp [u_ce_soonest_0, u_lb_first_beyond_0, List.getElem?_eq_getElem this, List.getD]
  rw [e]
/-! ### first beyond -/
def fb (most t : Int) (l : List Int) : Option Nat := (List.range l.length).find? fun i => decide (most < (row t l i : Int))
def optD : Option Nat → D
  | none => .non
  | some i => .int (i : Int)
theorem first_beyond_ok (most t : Int) (l : List Int) (x : D) (hx : x = .lst (I l) ∨ x = .tup (I l)) (h : okF 0 l) (hl : l.length < 100000) (h1 : 0 ≤ most ∧ most ≤ 99) (h2 : 1 ≤ t ∧ t ≤ 99) (st : Store) : m_first_beyond [.int most, .int t, x] st = .ok (optD (fb most t l)) st := by
  have hc := check_falls_ok l x hx h st
  have hg : gList [x] st = .ok (.lst (I l)) st := by
    rcases hx with rfl | rfl <;> rfl
  have c1 := check_number_ok "most" most 0 99 st h1
  have c2 := check_number_ok "ticks" t 1 99 st h2
  have he : ∀ a b, (lEnumU (aCons (eVar 2) aNil)) [.val (.int most), .val (.int t), .val x, a, b] st = .ok ((List.range l.length).map fun (i : Nat) => D.tup [.int (i : Int), .int (at0 l i)]) st := fun a b => by
    rcases hx with rfl | rfl <;> simp [u_ce_soonest_0, u_lb_first_beyond_0, num_I, r_enum]
  have lp := forGo_find (bd := bTup 2 (bCons (bName 3) (bCons (bName 4) bNil))) (b := lb_first_beyond_0) (st := st)
    (fun (i : Nat) => D.tup [.int (i : Int), .int (at0 l i)]) (fun i => D.int (i : Int)) (fun i => decide (most < (row t l i : Int))) (fun ρ => ∃ a b, ρ = [.val (.int most), .val (.int t), .val x, a, b]) (List.range l.length)
    (by
      rintro i hi ρ ⟨a, b, rfl⟩
      have hi : i < l.length := List.mem_range.mp hi
      have hw := within_ok (l.take (i + 1)) (at0 l i) t st (by rw [List.length_take]; omega)
      refine ⟨_, rfl, fun hp => ?_, fun hp => ?_⟩
      · have hp : most < (row t l i : Int) := by simpa using hp
        unfold row cnt at hp
        simp [u_ce_soonest_0, u_lb_first_beyond_0, hg, gCutL, cut_to l i hi, hw, len_tup, hp]
      · have hp : ¬ most < (row t l i : Int) := by simpa using hp
        unfold row cnt at hp
        refine ⟨[.val (.int most), .val (.int t), .val x, .val (.int (i : Int)), .val (.int (at0 l i))], by simp [u_ce_soonest_0, u_lb_first_beyond_0, hg, gCutL, cut_to l i hi, hw, len_tup, hp], _, _, rfl⟩) [.val (.int most), .val (.int t), .val x, .un, .un] ⟨_, _, rfl⟩
  rcases lp with ⟨i, e1, e2⟩ | ⟨e1, ρ2, e2, a, b, rfl⟩
  · refine callD_rt0 rfl ?_ (by unfold fb; rw [e1]; rfl)
    show b_first_beyond [.val (.int most), .val (.int t), .val x, .un, .un] st = _
    have : fb most t l = some i := e1
    simp [u_ce_soonest_0, u_lb_first_beyond_0, b_first_beyond, c1, c2, hc, he, e2, this, optD]
  · refine callD_rt0 rfl ?_ (by unfold fb; rw [e1]; rfl)
    show b_first_beyond [.val (.int most), .val (.int t), .val x, .un, .un] st = _
    have : fb most t l = none := e1
    simp [u_ce_soonest_0, u_lb_first_beyond_0, b_first_beyond, c1, c2, hc, he, e2, this, optD]
/-! ### soonest -/
theorem sm (z : Int) (h1 : -(2 ^ 64) < z) (h2 : z < 2 ^ 64) : Gh.small64 z = true := by unfold Gh.small64; simp; omega
def son (m t : Int) (n : Nat) : List Int := (List.range n).map fun (i : Nat) => (i : Int) / m * t
def sonD (m t n : Int) : D := if m = 0 then (if n = 0 then .lst (I []) else .non) else .lst (I (son m t n.toNat))
theorem soonest_ok (m t n : Int) (hm : 0 ≤ m ∧ m ≤ 999) (ht : 1 ≤ t ∧ t ≤ 999) (hn : 0 ≤ n ∧ n ≤ 999) (st : Store) : m_soonest [FA m t, .int n] st = .ok (sonD m t n) st := by
  have c1 := check_number_ok "many" n 0 999 st hn
  refine callD_rt0 rfl ?_ (by unfold sonD; split <;> (try split) <;> rfl)
  show b_soonest [.val (FA m t), .val (.int n), .un] st = _
  by_cases h : m = 0
  · subst h
    by_cases h2 : n = 0
    · subst h2
      simp [u_ce_soonest_0, u_lb_first_beyond_0, b_soonest, c1, sonD, flatL]
    · simp [u_ce_soonest_0, u_lb_first_beyond_0, b_soonest, c1, sonD, h2]
  · have e : eComp (lRange1 (aCons (eVar 1) aNil)) (bName 2) tYes ce_soonest_0 [2] [.val (FA m t), .val (.int n), .un] st = .ok (.lst (I (son m t n.toNat))) st := by
      have hr : (lRange1 (aCons (eVar 1) aNil)) [.val (FA m t), .val (.int n), .un] st = .ok ((List.range n.toNat).map fun (i : Nat) => D.int (0 + (i : Int))) st := by
        have h3 : -1000000000 ≤ n ∧ n ≤ 1000000000 := by omega
        simp [u_ce_soonest_0, u_lb_first_beyond_0, h3.1, h3.2, upto_map]
      have z := eComp_map (α := Nat) (bd := bName 2) (t := tYes) (me := ce_soonest_0) (vs := [2]) (fun (i : Nat) => D.int (0 + (i : Int))) (fun (i : Nat) => D.int ((i : Int) / m * t)) (fun _ => true) (List.range n.toNat) hr (by rw [List.length_range]; omega) fun i hi => ⟨_, rfl, rfl, fun _ => ⟨?_, rfl⟩⟩
      · rw [List.filter_eq_self.mpr (fun _ _ => rfl)] at z
        rw [z]
        unfold son I
        rw [List.map_map]
        rfl
      · have h4 : 0 < m ∧ m < 1073741824 := by omega
        simp [u_ce_soonest_0, u_lb_first_beyond_0, wipeR, h4.1, h4.2, sm t (by omega) (by omega)]
    simp [u_ce_soonest_0, u_lb_first_beyond_0, b_soonest, c1, sonD, h, e]
/-! ### the most within -/
def mw (m t k : Int) : Int := (k + t - 1) / t * m
theorem most_within_ok (m t k : Int) (hm : 0 ≤ m ∧ m ≤ 999) (ht : 1 ≤ t ∧ t ≤ 999) (hk : 1 ≤ k ∧ k ≤ 999) (st : Store) : m_most_within [.int k, FA m t] st = .ok (.int (mw m t k)) st := by
  have c1 := check_number_ok "ticks" k 1 999 st hk
  refine callD_rt0 rfl ?_ rfl
  show b_most_within [.val (.int k), .val (FA m t)] st = _
  have h4 : 0 < t ∧ t < 1073741824 := by omega
  simp [u_ce_soonest_0, u_lb_first_beyond_0, b_most_within, c1, h4.1, h4.2, sm m (by omega) (by omega), mw]
theorem least_most_ok (m t k : Int) (hm : 0 ≤ m ∧ m ≤ 999) (ht : 1 ≤ t ∧ t ≤ 999) (hk : 1 ≤ k ∧ k ≤ 999) (st : Store) : m_least_most [.int k, FA m t] st = .ok (.int (mw m t k)) st := by
  refine callD_rt0 rfl ?_ rfl
  show b_least_most [.val (.int k), .val (FA m t)] st = _
  simp [u_ce_soonest_0, u_lb_first_beyond_0, b_least_most, most_within_ok m t k hm ht hk]
end Lw
namespace Lw
open Gh L2 PyProof.Rows PySem.Spec PySem
theorem ix_last (l : List Int) (h : l ≠ []) (st : Store) : gIx (.lst (I l)) (.int (-1)) st = .ok (.int (at0 l (l.length - 1))) st :=
  ix_neg l 1 (by decide) (List.length_pos_iff.mpr h) st
theorem ix_first (l : List Int) (h : l ≠ []) (st : Store) : gIx (.lst (I l)) (.int 0) st = .ok (.int (at0 l 0)) st := by
  have := List.length_pos_iff.mpr h
  exact ix_pos l 0 (by decide) (by omega) st
def spD (l : List Int) : Int := if l = [] then 0 else at0 l (l.length - 1) - at0 l 0
theorem span_none (m t n : Int) (hm : 0 ≤ m ∧ m ≤ 999) (ht : 1 ≤ t ∧ t ≤ 999) (hn : 0 ≤ n ∧ n ≤ 999) (st : Store) (h : sonD m t n = .non) : m_span_of [FA m t, .int n] st = .ok .non st := by
  refine callD_rt0 rfl ?_ rfl
  show b_span_of [.val (FA m t), .val (.int n), .un] st = _
  simp [u_lb_Passed_shows_0, u_ct_greatest_ticks_0, b_span_of, soonest_ok m t n hm ht hn, h, Gh.isNon]
theorem span_some (m t n : Int) (l : List Int) (hm : 0 ≤ m ∧ m ≤ 999) (ht : 1 ≤ t ∧ t ≤ 999) (hn : 0 ≤ n ∧ n ≤ 999) (st : Store) (h : sonD m t n = .lst (I l)) : m_span_of [FA m t, .int n] st = .ok (.int (spD l)) st := by
  refine callD_rt0 rfl ?_ rfl
  show b_span_of [.val (FA m t), .val (.int n), .un] st = _
  by_cases hl : l = []
  · subst hl
    have := ne_ll [] [] st
    simp at this
    simp [u_lb_Passed_shows_0, u_ct_greatest_ticks_0, b_span_of, soonest_ok m t n hm ht hn, h, Gh.isNon, flatL, spD, this]
  · simp [u_lb_Passed_shows_0, u_ct_greatest_ticks_0, b_span_of, soonest_ok m t n hm ht hn, h, Gh.isNon, flatL, spD, hl, ix_last l hl, ix_first l hl]
/-! ### bounds -/
abbrev BE (v : Int) : D := .ins "Bears" [("many", .int v)]
abbrev PA (l : List Int) : D := .ins "Passed" [("falls", .tup (I l))]
@[simp] theorem att_be (v : Int) (st : Store) : eAttC "many" ["Bears"] (BE v) st = .ok (.int v) st := by kernel_rfl
@[simp] theorem att_pa (l : List Int) (st : Store) : eAttC "falls" ["Passed"] (PA l) st = .ok (.tup (I l)) st := by kernel_rfl
@[simp] theorem r_make (c : Str) (f : CallF) (ms : ADen) (ρ : REnv) (st : Store) : eMake c f ms ρ st = (ms ρ st).bind fun ds st1 => stillD st1.length (initD c f ds st1) := rfl
theorem make_be (v : Int) (st : Store) : stillD st.length (initD "Bears" m_Bears___init__ [.int v] st) = .ok (BE v) st := by
  have e : m_Bears___init__ [.loc st.length, .int v] (st ++ [.ins "Bears" []]) = .ok .non (st ++ [BE v]) := by
    have q : b_Bears___init__ [.val (.loc st.length), .val (.int v)] (st ++ [.ins "Bears" []]) = .nx [.val (.loc st.length), .val (.int v)] (st ++ [BE v]) := by
      have p1 : putFD "many" (.int v) [] = [(("many" : Str), D.int v)] := rfl
      simp [u_lb_Passed_shows_0, u_ct_greatest_ticks_0, b_Bears___init__, sAtt, set_last, p1, isLoc]
    have h := callD_nx (np := 2) (nl := 2) (ds := [.loc st.length, .int v]) rfl q
    rw [show (st ++ [BE v]).take (st ++ [D.ins "Bears" []]).length = st ++ [BE v] from List.take_of_length_le (by simp)] at h
    exact h
  unfold initD
  rw [e]
  simp [u_lb_Passed_shows_0, u_ct_greatest_ticks_0, stillD]
theorem make_pa (l : List Int) (st : Store) : stillD st.length (initD "Passed" m_Passed___init__ [.lst (I l)] st) = .ok (PA l) st := by
  have e : m_Passed___init__ [.loc st.length, .lst (I l)] (st ++ [.ins "Passed" []]) = .ok .non (st ++ [PA l]) := by
    have q : b_Passed___init__ [.val (.loc st.length), .val (.lst (I l))] (st ++ [.ins "Passed" []]) = .nx [.val (.loc st.length), .val (.lst (I l))] (st ++ [PA l]) := by
      have p1 : putFD "falls" (.tup (I l)) [] = [(("falls" : Str), D.tup (I l))] := rfl
      simp [u_lb_Passed_shows_0, u_ct_greatest_ticks_0, b_Passed___init__, sAtt, set_last, p1, isLoc, gTuple, itemsOf]
    have h := callD_nx (np := 2) (nl := 2) (ds := [.loc st.length, .lst (I l)]) rfl q
    rw [show (st ++ [PA l]).take (st ++ [D.ins "Passed" []]).length = st ++ [PA l] from List.take_of_length_le (by simp)] at h
    exact h
  unfold initD
  rw [e]
  simp [u_lb_Passed_shows_0, u_ct_greatest_ticks_0, stillD]
structure Bnd (most b m t : Int) : Prop where
  h1 : 0 ≤ most ∧ most ≤ 99
  h2 : 1 ≤ b ∧ b ≤ 99
  hm : 0 ≤ m ∧ m ≤ 999
  ht : 1 ≤ t ∧ t ≤ 99
theorem check_bound_ok {most b m t : Int} (B : Bnd most b m t) (st : Store) : m_check_bound [.int most, .int b, FA m t] st = .ok .non st := by
  refine callD_nx0 (ρ' := [.val (.int most), .val (.int b), .val (FA m t)]) rfl ?_
  show b_check_bound [.val (.int most), .val (.int b), .val (FA m t)] st = _
  simp [u_lb_Passed_shows_0, u_ct_greatest_ticks_0, b_check_bound, check_number_ok _ most 0 99 st B.h1, check_number_ok _ b 1 99 st B.h2]
def jd (most b m t : Int) : D := if mw m t b ≤ most then BE (mw m t b) else PA (son m t (most + 1).toNat)
theorem judge_ok {most b m t : Int} (B : Bnd most b m t) (st : Store) : m_judge_bound [.int most, .int b, FA m t] st = .ok (jd most b m t) st := by
  have e1 := most_within_ok m t b B.hm ⟨B.ht.1, by have := B.ht.2; omega⟩ ⟨B.h2.1, by have := B.h2.2; omega⟩ st
  refine callD_rt0 rfl ?_ (by unfold jd; split <;> rfl)
  show b_judge_bound [.val (.int most), .val (.int b), .val (FA m t), .un] st = _
  by_cases h : mw m t b ≤ most
  · simp [u_lb_Passed_shows_0, u_ct_greatest_ticks_0, b_judge_bound, check_bound_ok B, e1, h, make_be, jd]
  · have hm0 : m ≠ 0 := fun z => h (by subst z; unfold mw; rw [Int.mul_zero]; exact B.h1.1)
    have e2 := soonest_ok m t (most + 1) B.hm ⟨B.ht.1, by have := B.ht.2; omega⟩ ⟨by have := B.h1.1; omega, by have := B.h1.2; omega⟩ st
    have e3 : sonD m t (most + 1) = .lst (I (son m t (most + 1).toNat)) := by unfold sonD; rw [if_neg hm0]
    simp [u_lb_Passed_shows_0, u_ct_greatest_ticks_0, b_judge_bound, check_bound_ok B, e1, h, e2, e3, make_pa, jd]
theorem look_b (a b : CallF) : List.lookup ("Bears" : Str) [(("Bears" : Str), a), (("Passed" : Str), b)] = some a := by kernel_rfl
theorem look_p (a b : CallF) : List.lookup ("Passed" : Str) [(("Bears" : Str), a), (("Passed" : Str), b)] = some b := by kernel_rfl
theorem bool_b (v : Int) (st : Store) : askB (fun c => List.lookup c [("Bears", m_Bears___bool__), ("Passed", m_Passed___bool__)]) [] (BE v) st = .ok true st := by
  have e : m_Bears___bool__ [BE v] st = .ok (.bl true) st := callD_rt0 rfl rfl rfl
  simp [u_lb_Passed_shows_0, u_ct_greatest_ticks_0, askB, instOf, look_b, e, noX]
theorem bool_p (l : List Int) (st : Store) : askB (fun c => List.lookup c [("Bears", m_Bears___bool__), ("Passed", m_Passed___bool__)]) [] (PA l) st = .ok false st := by
  have e : m_Passed___bool__ [PA l] st = .ok (.bl false) st := callD_rt0 rfl rfl rfl
  simp [u_lb_Passed_shows_0, u_ct_greatest_ticks_0, askB, instOf, look_p, e, noX]
theorem shows_b {most b m t : Int} (B : Bnd most b m t) (st : Store) (h : mw m t b ≤ most) : m_Bears_shows [BE (mw m t b), .int most, .int b, FA m t] st = .ok (.bl true) st := by
  refine callD_rt0 rfl ?_ rfl
  show b_Bears_shows [.val (BE (mw m t b)), .val (.int most), .val (.int b), .val (FA m t)] st = _
  have ej : jd most b m t = BE (mw m t b) := by unfold jd; rw [if_pos h]
  have e : m_Bears___eq__ [BE (mw m t b), BE (mw m t b)] st = .ok (.bl true) st := by
    refine callD_rt0 rfl ?_ rfl
    show b_Bears___eq__ [.val (BE (mw m t b)), .val (BE (mw m t b))] st = _
    have i1 : gIsi [] ["Bears"] ["Passed"] (BE (mw m t b)) st = .ok (.bl true) st := by kernel_rfl
    simp [u_lb_Passed_shows_0, u_ct_greatest_ticks_0, b_Bears___eq__, i1]
  have e2 : gEqI (fun c => List.lookup c [("Bears", m_Bears___eq__), ("Passed", m_Passed___eq__)]) ["Bears"] (BE (mw m t b)) (BE (mw m t b)) st = .ok (.bl true) st := by
    have i2 : insIn ["Bears"] st (BE (mw m t b)) = true := by kernel_rfl
    unfold gEqI
    rw [if_pos i2]
    simp [u_lb_Passed_shows_0, u_ct_greatest_ticks_0, gOwnEq, askB, instOf, look_b, e, noX]
  simp [u_lb_Passed_shows_0, u_ct_greatest_ticks_0, b_Bears_shows, judge_ok B, ej, e2]
theorem shows_loop (x a b c : D) (st : Store) : ∀ (l : List Int) (p : Int) (y : Sl), okF p l → ∃ (q : Int) (z : Sl), forGo (bName 5) lb_Passed_shows_0 (I l) [.val x, .val a, .val b, .val c, .val (.int p), y] st = .nx [.val x, .val a, .val b, .val c, .val (.int q), z] st
  | [], p, y, _ => ⟨p, y, rfl⟩
  | n :: r, p, y, h => by
    obtain ⟨q, z, e⟩ := shows_loop x a b c st r n (.val (.int n)) h.2.2
    refine ⟨q, z, ?_⟩
    rw [← e, I_cons]
    conv => lhs; unfold forGo
    simp [u_lb_Passed_shows_0, u_ct_greatest_ticks_0, h.1, h.2.1]
theorem shows_p {most b m t : Int} (B : Bnd most b m t) (l : List Int) (st : Store) (h : okF 0 l) (hl : l.length < 100000) (ha : aw m t l = true) (hf : fb most b l = some (l.length - 1)) (hn : l ≠ []) : m_Passed_shows [PA l, .int most, .int b, FA m t] st = .ok (.bl true) st := by
  refine callD_rt0 rfl ?_ rfl
  show b_Passed_shows [.val (PA l), .val (.int most), .val (.int b), .val (FA m t), .un, .un] st = _
  obtain ⟨q, z, e⟩ := shows_loop (PA l) (.int most) (.int b) (FA m t) st l 0 .un h
  have e1 := are_within_ok m t l (.tup (I l)) (.inr rfl) h hl st
  have e2 := first_beyond_ok most b l (.tup (I l)) (.inr rfl) h hl B.h1 B.h2 st
  have hp := List.length_pos_iff.mpr hn
  have e3 : ((l.length - 1 : Nat) : Int) = (l.length : Int) - 1 := by omega
  simp [u_lb_Passed_shows_0, u_ct_greatest_ticks_0, b_Passed_shows, check_bound_ok B, e, e1, e2, ha, hf, optD, len_tup, e3, hn, flatL]
/-! ### the greatest ticks -/
def good (m t most : Int) : List Nat := (List.range 99).filter fun i => decide (mw m t (1 + (i : Int)) ≤ most)
def gtD (m t most : Int) : Int := if good m t most = [] then 0 else 1 + (((good m t most).getD ((good m t most).length - 1) 0 : Nat) : Int)
theorem greatest_ok (m t most : Int) (hm : 0 ≤ m ∧ m ≤ 999) (ht : 1 ≤ t ∧ t ≤ 99) (h1 : 0 ≤ most ∧ most ≤ 99) (st : Store) : m_greatest_ticks [.int most, FA m t] st = .ok (.int (gtD m t most)) st := by
  refine callD_rt0 rfl ?_ rfl
  show b_greatest_ticks [.val (.int most), .val (FA m t), .un, .un] st = _
  have e : eComp (lRange2 (aCons (eC (.int 1)) (aCons (eC (.int 100)) aNil))) (bName 3) ct_greatest_ticks_0 (eVar 3) [3] [.val (.int most), .val (FA m t), .un, .un] st = .ok (.lst (I ((good m t most).map fun (i : Nat) => 1 + (i : Int)))) st := by
    have z := eComp_map (α := Nat) (mi := lRange2 (aCons (eC (.int 1)) (aCons (eC (.int 100)) aNil))) (ρ := [.val (.int most), .val (FA m t), .un, .un]) (st := st) (bd := bName 3) (t := ct_greatest_ticks_0) (me := eVar 3) (vs := [3]) (fun (i : Nat) => D.int (1 + (i : Int))) (fun (i : Nat) => D.int (1 + (i : Int))) (fun i => decide (mw m t (1 + (i : Int)) ≤ most)) (List.range 99) (by rfl) (by rw [List.length_range]; decide) fun i hi => ⟨_, rfl, ?_, fun _ => ⟨?_, rfl⟩⟩
    · rw [z]
      unfold good I
      rw [List.map_map]
      rfl
    · have hi : i < 99 := List.mem_range.mp hi
      have e1 := most_within_ok m t (1 + (i : Int)) hm ⟨ht.1, by have := ht.2; omega⟩ ⟨by omega, by omega⟩ st
      simp [u_lb_Passed_shows_0, u_ct_greatest_ticks_0, wipeR, e1]
    · simp [u_lb_Passed_shows_0, u_ct_greatest_ticks_0, wipeR]
  have hc := check_number_ok "most" most 0 99 st h1
  by_cases hg : good m t most = []
  · rw [hg] at e
    have e0 : gNe (.lst []) (.lst []) st = .ok (.bl false) st := rfl
    have e : eComp (lRange2 (aCons (eC (.int 1)) (aCons (eC (.int 100)) aNil))) (bName 3) ct_greatest_ticks_0 (eVar 3) [3] [.val (.int most), .val (FA m t), .un, .un] st = .ok (.lst []) st := e
    simp [u_lb_Passed_shows_0, u_ct_greatest_ticks_0, b_greatest_ticks, hc, e, e0, flatL, gtD, hg]
  · have hg2 : ((good m t most).map fun (i : Nat) => 1 + (i : Int)) ≠ [] := by simpa using hg
    have e4 := ix_last _ hg2 st
    have e5 := ne_l0 ((good m t most).map fun (i : Nat) => 1 + (i : Int)) st
    rw [decide_eq_false hg2] at e5
    have e6 : at0 ((good m t most).map fun (i : Nat) => 1 + (i : Int)) (((good m t most).map fun (i : Nat) => 1 + (i : Int)).length - 1) = gtD m t most := by
      unfold gtD at0
      rw [if_neg hg, List.length_map]
      have hp := List.length_pos_iff.mpr hg
      have hlt : (good m t most).length - 1 < (good m t most).length := by omega
      simp [u_lb_Passed_shows_0, u_ct_greatest_ticks_0, List.getD, List.getElem?_eq_getElem hlt]
    rw [e6] at e4
    generalize ((good m t most).map fun (i : Nat) => 1 + (i : Int)) = gl at e e4 e5
    simp [u_lb_Passed_shows_0, u_ct_greatest_ticks_0, b_greatest_ticks, hc, e, e4, e5, flatL]
end Lw
namespace Lw
open Gh L2 PyProof.Rows PySem.Spec PySem
/-! ### counting -/
theorem at0_map (f : Int → Int) (l : List Int) (i : Nat) (h : i < l.length) : at0 (l.map f) i = f (at0 l i) := by
  unfold at0
  simp [List.getD, List.getElem?_eq_getElem h]
theorem take_at (l : List Int) (n : Nat) (h : n ≤ l.length) : l.take n = (List.range n).map (at0 l) := by
  apply List.ext_getElem?
  intro i
  by_cases hi : i < n
  · have : i < l.length := by omega
    rw [List.getElem?_take_of_lt hi, List.getElem?_map]
    simp [hi, at0, List.getD, List.getElem?_eq_getElem this]
  · rw [List.getElem?_take_eq_none (by omega), List.getElem?_eq_none (by simp; omega)]
/-- how many j < n have p -/
abbrev num (n : Nat) (p : Nat → Bool) : Nat := ((List.range n).filter p).length
theorem row_num (t : Int) (l : List Int) (i : Nat) (h : i < l.length) : row t l i = num (i + 1) fun j => decide (at0 l i - t < at0 l j) := by
  unfold row cnt win
  rw [take_at l (i + 1) (by omega), List.filter_map, List.length_map]
  rfl
theorem num_mono {n : Nat} {p q : Nat → Bool} (h : ∀ j, j < n → p j = true → q j = true) : num n p ≤ num n q := by
  unfold num
  rw [← List.countP_eq_length_filter, ← List.countP_eq_length_filter]
  exact List.countP_mono_left fun j hj => h j (List.mem_range.mp hj)
theorem num_congr {n : Nat} {p q : Nat → Bool} (h : ∀ j, j < n → p j = q j) : num n p = num n q := by
  unfold num
  rw [List.filter_congr fun j hj => h j (List.mem_range.mp hj)]
theorem num_succ (n : Nat) (p : Nat → Bool) : num (n + 1) p = num n p + if p n = true then 1 else 0 := by
  unfold num
  rw [List.range_succ, List.filter_append, List.length_append]
  cases h : p n <;> simp [h]
theorem num_ge (c : Nat) : ∀ n : Nat, num n (fun j => decide (c ≤ j)) = n - c
  | 0 => by simp
  | n + 1 => by
    rw [num_succ, num_ge c n]
    by_cases h : c ≤ n <;> simp [h] <;> omega
theorem num_lt (c : Nat) : ∀ n : Nat, num n (fun j => decide (j < c)) = min n c
  | 0 => by simp
  | n + 1 => by
    rw [num_succ, num_lt c n]
    by_cases h : n < c <;> simp [h] <;> omega
theorem num_all (n : Nat) (p : Nat → Bool) (h : ∀ j, j < n → p j = true) : num n p = n := by
  unfold num
  rw [List.filter_eq_self.mpr fun j hj => h j (List.mem_range.mp hj), List.length_range]
theorem num_shift (p : Nat → Bool) : ∀ n : Nat, num n (fun j => p (j + 1)) ≤ num (n + 1) p
  | 0 => Nat.zero_le _
  | n + 1 => by
    rw [num_succ, num_succ (n + 1)]
    have := num_shift p n
    omega
theorem num_le (n : Nat) (p : Nat → Bool) : num n p ≤ n := by
  unfold num
  exact Nat.le_trans (List.length_filter_le _ _) (by rw [List.length_range]; exact Nat.le_refl _)
theorem aw_iff (m t : Int) (l : List Int) : aw m t l = true ↔ ∀ i, i < l.length → (row t l i : Int) ≤ m := by
  unfold aw
  rw [List.all_eq_true]
  constructor
  · intro h i hi
    simpa using h i (List.mem_range.mpr hi)
  · intro h i hi
    simpa using h i (List.mem_range.mp hi)
theorem aw_congr {m t m' t' : Int} {l l' : List Int} (hl : l.length = l'.length) (h : ∀ i, i < l.length → ((row t l i : Int) ≤ m ↔ (row t' l' i : Int) ≤ m')) : aw m t l = aw m' t' l' := by
  rw [Bool.eq_iff_iff, aw_iff, aw_iff]
  constructor
  · intro z i hi
    exact (h i (by omega)).mp (z i (by omega))
  · intro z i hi
    exact (h i hi).mpr (z i (by omega))
theorem aw_scale (m t b : Int) (l : List Int) (hb : 0 < b) : aw m (b * t) (l.map fun x => b * x) = aw m t l := by
  refine aw_congr (by simp) fun i hi => ?_
  rw [List.length_map] at hi
  rw [row_num _ _ i (by simpa using hi), row_num _ _ i hi]
  rw [num_congr (q := fun j => decide (at0 l i - t < at0 l j)) fun j hj => ?_]
  rw [at0_map _ _ _ hi, at0_map _ _ _ (by omega), ← Int.mul_sub, decide_eq_decide]
  exact ⟨fun h => Int.lt_of_mul_lt_mul_left h (by omega), fun h => Int.mul_lt_mul_of_pos_left h hb⟩
theorem aw_shift (m t b : Int) (l : List Int) : aw m t (l.map fun x => x + b) = aw m t l := by
  refine aw_congr (by simp) fun i hi => ?_
  rw [List.length_map] at hi
  rw [row_num _ _ i (by simpa using hi), row_num _ _ i hi]
  rw [num_congr (q := fun j => decide (at0 l i - t < at0 l j)) fun j hj => ?_]
  rw [at0_map _ _ _ hi, at0_map _ _ _ (by omega), decide_eq_decide]
  omega
theorem at0_drop (l : List Int) (i : Nat) : at0 (l.drop 1) i = at0 l (i + 1) := by
  unfold at0
  simp [List.getD, List.getElem?_drop, Nat.add_comm]
theorem aw_drop (m t : Int) (l : List Int) (h : aw m t l = true) : aw m t (l.drop 1) = true := by
  rw [aw_iff] at h ⊢
  intro i hi
  rw [List.length_drop] at hi
  have z := h (i + 1) (by omega)
  rw [row_num _ _ _ (by omega)] at z
  rw [row_num _ _ _ (by rw [List.length_drop]; omega)]
  have y := num_shift (fun j => decide (at0 l (i + 1) - t < at0 l j)) (i + 1)
  rw [num_congr (q := fun j => decide (at0 l (i + 1) - t < at0 l (j + 1))) fun j hj => by rw [at0_drop, at0_drop]]
  omega
theorem aw_more (m t : Int) (l : List Int) (h : aw m t l = true) : aw (m + 1) t l = true := by
  rw [aw_iff] at h ⊢
  intro i hi
  have := h i hi
  omega
theorem row_pos (t : Int) (l : List Int) (i : Nat) (h : i < l.length) (ht : 1 ≤ t) : 1 ≤ row t l i := by
  rw [row_num _ _ _ h, num_succ, if_pos (by simp; omega)]
  omega
/-! ### sorted -/
theorem okF_le {p : Int} : ∀ {l : List Int}, okF p l → ∀ i, i < l.length → p ≤ at0 l i
  | [], h, i, hi => by simp at hi
  | x :: r, h, 0, hi => h.1
  | x :: r, h, i + 1, hi => Int.le_trans h.1 (okF_le h.2.2 i (by simpa using hi))
theorem okF_mono {p : Int} : ∀ {l : List Int}, okF p l → ∀ i j, i ≤ j → j < l.length → at0 l i ≤ at0 l j
  | [], h, i, j, _, hj => by simp at hj
  | x :: r, h, 0, 0, _, _ => Int.le_refl _
  | x :: r, h, 0, j + 1, _, hj => okF_le h.2.2 j (by simpa using hj)
  | x :: r, h, i + 1, 0, hi, _ => by omega
  | x :: r, h, i + 1, j + 1, hi, hj => okF_mono h.2.2 i j (by omega) (by simpa using hj)
theorem okF_of {p : Int} : ∀ {l : List Int}, (∀ i, i < l.length → p ≤ at0 l i ∧ at0 l i ≤ 99999) → (∀ i, i + 1 < l.length → at0 l i ≤ at0 l (i + 1)) → okF p l
  | [], _, _ => True.intro
  | x :: r, h, h2 => by
    refine ⟨(h 0 (by simp)).1, (h 0 (by simp)).2, okF_of (fun i hi => ⟨?_, (h (i + 1) (by simpa using hi)).2⟩) fun i hi => h2 (i + 1) (by simpa using hi)⟩
    induction i with
    | zero => exact h2 0 (by simpa using hi)
    | succ k ih => exact Int.le_trans (ih (by omega)) (h2 (k + 1) (by simpa using hi))
theorem okF_top {p : Int} : ∀ {l : List Int}, okF p l → ∀ i, i < l.length → at0 l i ≤ 99999
  | [], h, i, hi => by simp at hi
  | x :: r, h, 0, hi => h.2.1
  | x :: r, h, i + 1, hi => okF_top h.2.2 i (by simpa using hi)
end Lw
namespace Lw
open Gh L2 PyProof.Rows PySem.Spec PySem
/-! ### the soonest falls -/
@[simp] theorem son_len (m t : Int) (n : Nat) : (son m t n).length = n := by simp [son]
theorem son_at (m t : Int) (n i : Nat) (h : i < n) : at0 (son m t n) i = (i : Int) / m * t := by
  unfold at0 son
  simp [List.getD, h]
theorem div_mono {m : Int} (hm : 0 < m) {a b : Int} (h : a ≤ b) : a / m ≤ b / m := Int.ediv_le_ediv hm h
theorem div_nn {m : Int} (hm : 0 < m) (a : Nat) : 0 ≤ (a : Int) / m := Int.ediv_nonneg (by omega) (by omega)
theorem div_le_self {m : Int} (hm : 0 < m) (a : Nat) : (a : Int) / m ≤ (a : Int) := Int.ediv_le_self m (by omega)
theorem son_ok (m t : Int) (n : Nat) (hm : 0 < m) (ht : 1 ≤ t ∧ t ≤ 99) (hn : n ≤ 1000) : okF 0 (son m t n) := by
  refine okF_of (fun i hi => ?_) fun i hi => ?_
  · rw [son_len] at hi
    rw [son_at m t n i hi]
    have h1 := div_nn hm i
    have h2 := div_le_self hm i
    refine ⟨Int.mul_nonneg h1 (by omega), ?_⟩
    have h3 : (i : Int) / m * t ≤ (i : Int) * 99 := Int.mul_le_mul h2 ht.2 (by omega) (by omega)
    omega
  · rw [son_len] at hi
    rw [son_at m t n i (by omega), son_at m t n (i + 1) hi]
    exact Int.mul_le_mul_of_nonneg_right (div_mono hm (by omega)) (by omega)
/-- j is in i's block or behind it, if it is less than t ahead of it -/
theorem block_iff {m t : Int} (hm : 0 < m) (ht : 0 < t) (i j : Nat) : (i : Int) / m * t - t < (j : Int) / m * t ↔ (i : Int) / m ≤ (j : Int) / m := by
  constructor
  · intro h
    have h2 : ((i : Int) / m - 1) * t < (j : Int) / m * t := by rw [Int.sub_mul, Int.one_mul]; exact h
    have := Int.lt_of_mul_lt_mul_right h2 (by omega)
    omega
  · intro h
    have := Int.mul_le_mul_of_nonneg_right h (show 0 ≤ t by omega)
    omega
theorem num_block {m : Int} (hm : 0 < m) (i : Nat) : num (i + 1) (fun j => decide ((i : Int) / m ≤ (j : Int) / m)) = i + 1 - ((i : Int) / m * m).toNat := by
  rw [← num_ge]
  refine num_congr fun j hj => ?_
  rw [decide_eq_decide]
  rw [Int.le_ediv_iff_mul_le hm]
  have := Int.mul_nonneg (div_nn hm i) (show 0 ≤ m by omega)
  omega
theorem son_row {m t : Int} (n i : Nat) (hm : 0 < m) (ht : 0 < t) (h : i < n) : row t (son m t n) i = i + 1 - ((i : Int) / m * m).toNat := by
  rw [row_num _ _ _ (by rw [son_len]; exact h), ← num_block hm]
  refine num_congr fun j hj => ?_
  rw [son_at m t n i h, son_at m t n j (by omega), decide_eq_decide]
  exact block_iff hm ht i j
theorem son_aw (m t : Int) (n : Nat) (hm : 0 < m) (ht : 0 < t) : aw m t (son m t n) = true := by
  rw [aw_iff]
  intro i hi
  rw [son_len] at hi
  rw [son_row n i hm ht hi]
  have h1 := Int.lt_ediv_add_one_mul_self (i : Int) hm
  have h2 := Int.mul_nonneg (div_nn hm i) (show 0 ≤ m by omega)
  rw [Int.add_mul, Int.one_mul] at h1
  omega
theorem son_scale (m t b : Int) (n : Nat) : son m (b * t) n = (son m t n).map fun x => b * x := by
  unfold son
  rw [List.map_map]
  refine List.map_congr_left fun i _ => ?_
  show (i : Int) / m * (b * t) = b * ((i : Int) / m * t)
  rw [← Int.mul_assoc, Int.mul_comm _ b, Int.mul_assoc]
/-! ### one sooner is not within -/
theorem sooner (m t : Int) (n : Nat) (hm : 0 < m) (ht : 1 ≤ t) (hn : 2 ≤ n) (l : List Int) (hl : l.length = n) (hlow : ∀ j, j + 1 < n → at0 l j = (j : Int) / m * t) (z : at0 l (n - 1) = max (((n - 1 : Nat) : Int) / m * t - 1) (((n - 2 : Nat) : Int) / m * t))
    (hlt : ((n - 2 : Nat) : Int) / m * t < ((n - 1 : Nat) : Int) / m * t) : aw m t l = false := by
  have hq : ((n - 2 : Nat) : Int) / m < ((n - 1 : Nat) : Int) / m := Int.lt_of_mul_lt_mul_right hlt (by omega)
  obtain ⟨q, hqd⟩ : ∃ q, q = ((n - 1 : Nat) : Int) / m := ⟨_, rfl⟩
  have h1 : q * m ≤ ((n - 1 : Nat) : Int) := by rw [hqd]; exact Int.ediv_mul_le _ (by omega)
  have h2 : ((n - 2 : Nat) : Int) < q * m := by rw [← hqd] at hq; exact (Int.ediv_lt_iff_lt_mul hm).mp hq
  have h3 : q * m = ((n - 1 : Nat) : Int) := by omega
  have h4 : ((n - 2 : Nat) : Int) / m = q - 1 := by
    have g1 : (q - 1) * m ≤ ((n - 2 : Nat) : Int) := by rw [Int.sub_mul, Int.one_mul]; omega
    have g2 := (Int.le_ediv_iff_mul_le hm).mpr g1
    rw [← hqd] at hq
    omega
  have hq1 : 1 ≤ q := by
    have := div_nn hm (n - 2)
    omega
  rw [h4, ← hqd] at z
  have z2 : at0 l (n - 1) = q * t - 1 := by
    rw [z, Int.sub_mul, Int.one_mul]
    omega
  cases e : aw m t l with
  | false => rfl
  | true =>
    rw [aw_iff] at e
    have e1 := e (n - 1) (by omega)
    rw [row_num _ _ _ (by omega)] at e1
    have e2 : num (n - 1 + 1) (fun j => decide (((q - 1) * m).toNat ≤ j)) ≤ num (n - 1 + 1) (fun j => decide (at0 l (n - 1) - t < at0 l j)) := by
      refine num_mono fun j hj hp => ?_
      have hp : ((q - 1) * m).toNat ≤ j := by simpa using hp
      rw [z2]
      by_cases hj2 : j + 1 < n
      · rw [hlow j hj2]
        have g1 : (q - 1) * m ≤ (j : Int) := by omega
        have g2 := (Int.le_ediv_iff_mul_le hm).mpr g1
        have g3 := Int.mul_le_mul_of_nonneg_right g2 (show 0 ≤ t by omega)
        rw [Int.sub_mul, Int.one_mul] at g3
        simp
        omega
      · have : j = n - 1 := by omega
        subst this
        rw [z2]
        simp
        omega
    rw [num_ge] at e2
    have g4 : (q - 1) * m = q * m - m := by rw [Int.sub_mul, Int.one_mul]
    have g5 : 0 ≤ (q - 1) * m := Int.mul_nonneg (by omega) (by omega)
    omega
/-! ### falls that are within are no sooner -/
theorem apart (m t : Int) (l : List Int) (h : okF 0 l) (ht : 1 ≤ t) (ha : aw m t l = true) (i : Nat) (k : Nat) (hk : (k : Int) = m) (hi : i + k < l.length) : at0 l i + t ≤ at0 l (i + k) := by
  rw [aw_iff] at ha
  have e1 := ha (i + k) hi
  rw [row_num _ _ _ hi] at e1
  refine Classical.byContradiction fun z => ?_
  have e2 : num (i + k + 1) (fun j => decide (i ≤ j)) ≤ num (i + k + 1) (fun j => decide (at0 l (i + k) - t < at0 l j)) := by
    refine num_mono fun j hj hp => ?_
    have hp : i ≤ j := by simpa using hp
    have := okF_mono h i j hp (by omega)
    simp
    omega
  rw [num_ge] at e2
  omega
theorem apart_q (m t : Int) (l : List Int) (h : okF 0 l) (ht : 1 ≤ t) (ha : aw m t l = true) (k : Nat) (hk : (k : Int) = m) : ∀ q : Nat, q * k < l.length → at0 l 0 + (q : Int) * t ≤ at0 l (q * k)
  | 0, _ => by simp
  | q + 1, hq => by
    have e0 : (q + 1) * k = q * k + k := by rw [Nat.add_mul, Nat.one_mul]
    rw [e0] at hq ⊢
    have ih := apart_q m t l h ht ha k hk q (by omega)
    have e := apart m t l h ht ha (q * k) k hk hq
    have e1 : ((q + 1 : Nat) : Int) * t = (q : Int) * t + t := by
      rw [show ((q + 1 : Nat) : Int) = (q : Int) + 1 by omega, Int.add_mul, Int.one_mul]
    omega
theorem no_sooner (m t : Int) (l : List Int) (h : okF 0 l) (hm : 0 ≤ m) (ht : 1 ≤ t) (ha : aw m t l = true) (hn : l ≠ []) : 0 < m ∧ ((l.length - 1 : Nat) : Int) / m * t ≤ at0 l (l.length - 1) - at0 l 0 := by
  have hp := List.length_pos_iff.mpr hn
  have hm1 : 0 < m := by
    have e := (aw_iff m t l).mp ha 0 hp
    have := row_pos t l 0 hp ht
    omega
  refine ⟨hm1, ?_⟩
  obtain ⟨k, hk⟩ : ∃ k : Nat, (k : Int) = m := ⟨m.toNat, by omega⟩
  obtain ⟨q, hq⟩ : ∃ q : Nat, (q : Int) = ((l.length - 1 : Nat) : Int) / m := ⟨(((l.length - 1 : Nat) : Int) / m).toNat, by have := div_nn hm1 (l.length - 1); omega⟩
  have h1 : (q : Int) * m ≤ ((l.length - 1 : Nat) : Int) := by rw [hq]; exact Int.ediv_mul_le _ (by omega)
  have h2 : q * k ≤ l.length - 1 := by
    have : ((q * k : Nat) : Int) = (q : Int) * m := by rw [Int.natCast_mul, hk]
    omega
  have h3 := apart_q m t l h ht ha k hk q (by omega)
  have h4 := okF_mono h (q * k) (l.length - 1) h2 (by omega)
  rw [← hq]
  omega
end Lw
namespace Lw
open Gh L2 PyProof.Rows PySem.Spec PySem
/-! ### what is borne -/
/-- the least number of spans of t that hold x -/
def up (t x : Int) : Int := (x + t - 1) / t
theorem up_lt {t : Int} (ht : 0 < t) (x y : Int) : y < up t x ↔ y * t < x := by
  unfold up
  constructor
  · intro h
    have h2 : y + 1 ≤ (x + t - 1) / t := by omega
    have h3 := (Int.le_ediv_iff_mul_le ht).mp h2
    rw [Int.add_mul, Int.one_mul] at h3
    omega
  · intro h
    have h3 : (y + 1) * t ≤ x + t - 1 := by rw [Int.add_mul, Int.one_mul]; omega
    have := (Int.le_ediv_iff_mul_le ht).mpr h3
    omega
theorem up_mono {t : Int} (ht : 0 < t) {x y : Int} (h : x ≤ y) : up t x ≤ up t y := Int.ediv_le_ediv ht (by omega)
theorem up_nn {t : Int} (ht : 0 < t) {x : Int} (h : 0 ≤ x) : 0 ≤ up t x := Int.ediv_nonneg (by omega) (by omega)
theorem up_le {t : Int} (ht : 0 < t) {x : Int} (h : 0 ≤ x) : up t x ≤ x := by
  refine Classical.byContradiction fun z => ?_
  have := (up_lt ht x x).mp (by omega)
  have h2 : x * 1 ≤ x * t := Int.mul_le_mul_of_nonneg_left (by omega) h
  omega
theorem up_scale {t b : Int} (ht : 0 < t) (hb : 0 < b) (x : Int) : up (b * t) (b * x) = up t x := by
  have hbt : 0 < b * t := Int.mul_pos hb ht
  refine Int.le_antisymm ?_ ?_
  · refine Classical.byContradiction fun z => ?_
    have h1 := (up_lt hbt (b * x) (up t x)).mp (by omega)
    have h2 : b * (up t x * t) < b * x := by
      rw [← Int.mul_assoc, Int.mul_comm b, Int.mul_assoc]
      exact h1
    have h3 := (up_lt ht x (up t x)).mpr (Int.lt_of_mul_lt_mul_left h2 (by omega))
    omega
  · refine Classical.byContradiction fun z => ?_
    have h1 := (up_lt ht x (up (b * t) (b * x))).mp (by omega)
    have h2 : up (b * t) (b * x) * (b * t) < b * x := by
      rw [← Int.mul_assoc, Int.mul_comm _ b, Int.mul_assoc]
      exact Int.mul_lt_mul_of_pos_left h1 hb
    have h3 := (up_lt hbt (b * x) (up (b * t) (b * x))).mpr h2
    omega
theorem mw_up (m t k : Int) : mw m t k = up t k * m := rfl
theorem mw_scale {m t b : Int} (ht : 0 < t) (hb : 0 < b) (x : Int) : mw m (b * t) (b * x) = mw m t x := by rw [mw_up, mw_up, up_scale ht hb]
theorem mw_mono {m t : Int} (hm : 0 ≤ m) (ht : 0 < t) {x y : Int} (h : x ≤ y) : mw m t x ≤ mw m t y := Int.mul_le_mul_of_nonneg_right (up_mono ht h) hm
/-- the soonest falls ahead of x -/
theorem due_is (m t x : Int) (n : Nat) (hm : 0 < m) (ht : 0 < t) (hx : 0 ≤ x) (hb : mw m t x ≤ n) : ((((son m t n).filter fun z => decide (0 ≤ z) && decide (z < 0 + x)).length : Nat) : Int) = mw m t x := by
  have e : ((son m t n).filter fun z => decide (0 ≤ z) && decide (z < 0 + x)).length = num n fun j => decide (j < (mw m t x).toNat) := by
    unfold son
    rw [List.filter_map, List.length_map]
    refine num_congr fun j hj => ?_
    have h1 : 0 ≤ (j : Int) / m * t := Int.mul_nonneg (div_nn hm j) (by omega)
    have h2 : (j : Int) / m * t < x ↔ (j : Int) < mw m t x := by
      rw [← up_lt ht, mw_up]
      exact Int.ediv_lt_iff_lt_mul hm
    show (decide (0 ≤ (j : Int) / m * t) && decide ((j : Int) / m * t < 0 + x)) = _
    rw [decide_eq_true h1, Bool.true_and, Int.zero_add, decide_eq_decide, h2]
    omega
  rw [e, num_lt]
  have : 0 ≤ mw m t x := Int.mul_nonneg (up_nn ht hx) (by omega)
  omega
/-! ### what is passed -/
theorem passed_fb (most b m t : Int) (hm : 0 < m) (ht : 0 < t) (h1 : 0 ≤ most) (h : ¬ mw m t b ≤ most) : fb most b (son m t (most + 1).toNat) = some most.toNat := by
  have hn : most.toNat < (most + 1).toNat := by omega
  have hlt : most / m * t < b := by
    rw [← up_lt ht]
    rw [mw_up] at h
    exact (Int.ediv_lt_iff_lt_mul hm).mpr (by omega)
  have e1 : row b (son m t (most + 1).toNat) most.toNat = most.toNat + 1 := by
    rw [row_num _ _ _ (by rw [son_len]; exact hn)]
    refine num_all _ _ fun j hj => ?_
    rw [son_at _ _ _ _ hn, son_at _ _ _ _ (by omega)]
    have h2 : 0 ≤ (j : Int) / m * t := Int.mul_nonneg (div_nn hm j) (by omega)
    have h3 : ((most.toNat : Nat) : Int) = most := by omega
    rw [h3]
    simp
    omega
  unfold fb
  rw [List.find?_eq_some_iff_getElem]
  refine ⟨by rw [e1]; simp; omega, most.toNat, by simp; omega, by simp, fun j hj => ?_⟩
  have h4 : row b (son m t (most + 1).toNat) j ≤ j + 1 := by
    rw [row_num _ _ _ (by rw [son_len]; omega)]
    exact num_le _ _
  simp
  omega
/-! ### the greatest ticks -/
theorem gt_facts (m t most : Int) (hm : 0 ≤ m) (ht : 0 < t) : 0 ≤ gtD m t most ∧ gtD m t most ≤ 99 ∧ (0 < gtD m t most → mw m t (gtD m t most) ≤ most) ∧ (gtD m t most < 99 → ¬ mw m t (gtD m t most + 1) ≤ most) := by
  have mem : ∀ i, i ∈ good m t most ↔ i < 99 ∧ mw m t (1 + (i : Int)) ≤ most := fun i => by
    unfold good
    simp
  by_cases hg : good m t most = []
  · have e : gtD m t most = 0 := by unfold gtD; rw [if_pos hg]
    rw [e]
    refine ⟨by omega, by omega, fun h => by omega, fun _ h => ?_⟩
    have := (mem 0).mpr ⟨by omega, by simpa using h⟩
    rw [hg] at this
    simp at this
  · have hp := List.length_pos_iff.mpr hg
    have hlt : (good m t most).length - 1 < (good m t most).length := by omega
    obtain ⟨g, hgd⟩ : ∃ g, g = (good m t most)[(good m t most).length - 1] := ⟨_, rfl⟩
    have e : gtD m t most = 1 + (g : Int) := by
      unfold gtD
      rw [if_neg hg, hgd]
      simp [List.getD, List.getElem?_eq_getElem hlt]
    have hmem : g ∈ good m t most := by rw [hgd]; exact List.getElem_mem hlt
    obtain ⟨g1, g2⟩ := (mem g).mp hmem
    rw [e]
    refine ⟨by omega, by omega, fun _ => g2, fun h1 h2 => ?_⟩
    have h3 : g + 1 ∈ good m t most := (mem (g + 1)).mpr ⟨by omega, by rw [show (1 + ((g + 1 : Nat) : Int)) = 1 + (g : Int) + 1 by omega]; exact h2⟩
    have srt : (good m t most).Pairwise (· < ·) := by
      unfold good
      exact List.Pairwise.sublist List.filter_sublist List.pairwise_lt_range
    obtain ⟨i, hi, hie⟩ := List.getElem_of_mem h3
    have : i ≤ (good m t most).length - 1 := by omega
    rcases Nat.lt_or_eq_of_le this with h4 | h4
    · have := List.pairwise_iff_getElem.mp srt i ((good m t most).length - 1) hi hlt h4
      rw [hie, ← hgd] at this
      omega
    · subst h4
      rw [← hgd] at hie
      omega
end Lw
namespace Lw
open Gh L2 PyProof.Rows PySem.Spec PySem
structure Fl (l : List Int) (z : Int) : Prop where
  ok : okF 0 l
  le : ∀ i, i < l.length → at0 l i ≤ z
  z0 : 0 ≤ z
theorem at0_app (l : List Int) (x : Int) (i : Nat) : at0 (l ++ [x]) i = if i < l.length then at0 l i else if i = l.length then x else 0 := by
  unfold at0
  by_cases h : i < l.length
  · rw [if_pos h]
    simp [List.getD, List.getElem?_append_left h]
  · rw [if_neg h]
    by_cases h2 : i = l.length
    · subst h2
      simp [List.getD]
    · rw [if_neg h2]
      simp [List.getD, List.getElem?_eq_none (show (l ++ [x]).length ≤ i by simp; omega)]
theorem Fl.add {l : List Int} {z d : Int} (F : Fl l z) (h0 : 0 ≤ d) (h1 : z + d ≤ 99999) : Fl (l ++ [z + d]) (z + d) := by
  refine ⟨okF_of (fun i hi => ?_) fun i hi => ?_, fun i hi => ?_, by have := F.z0; omega⟩
  · rw [at0_app]
    rw [List.length_append] at hi
    simp at hi
    by_cases h : i < l.length
    · rw [if_pos h]
      exact ⟨okF_le F.ok i h, okF_top F.ok i h⟩
    · rw [if_neg h, if_pos (by omega)]
      have := F.z0
      exact ⟨by omega, h1⟩
  · rw [List.length_append] at hi
    simp at hi
    rw [at0_app, at0_app, if_pos (by omega)]
    by_cases h : i + 1 < l.length
    · rw [if_pos h]
      exact okF_mono F.ok i (i + 1) (by omega) h
    · rw [if_neg h, if_pos (by omega)]
      have := F.le i (by omega)
      omega
  · rw [List.length_append] at hi
    simp at hi
    rw [at0_app]
    by_cases h : i < l.length
    · rw [if_pos h]
      have := F.le i h
      omega
    · rw [if_neg h, if_pos (by omega)]
      exact Int.le_refl _

theorem eMake_of {c : Str} {f : CallF} {ms : ADen} {ρ : REnv} {st : Store} {ds : List D} (h : ms ρ st = .ok ds st) : eMake c f ms ρ st = stillD st.length (initD c f ds st) := by
  unfold eMake
  rw [h]
  rfl
abbrev E (ns : List Int) (m t q w : Int) (l : List Int) (a2 a9 a10 a11 a12 a13 a14 a15 a16 a17 a18 a19 a20 a21 a22 a23 a24 : Sl) : REnv := [.val (.scr (I ns)), .val (.loc 0), a2, .val (.int m), .val (.int t), .val (.int q), .val (.int w), .val (FA m t), .val (.lst (I l)), a9, a10, a11, a12, a13, a14, a15, a16, a17, a18, a19, a20, a21, a22, a23, a24]
abbrev A (ns : List Int) (k : Int) : Store := dr ns k []
structure Dr (m t q w : Int) : Prop where
  m0 : 0 ≤ m
  m1 : m ≤ 3
  t0 : 1 ≤ t
  t1 : t ≤ 7
  q0 : 0 ≤ q
  q1 : q ≤ 4
  w0 : 1 ≤ w
  w1 : w ≤ 9
theorem I_app (a b : List Int) : I a ++ I b = I (a ++ b) := by unfold I; rw [List.map_append]
theorem st1 {a2 a3 a4 a5 a6 a7 a8 a9 a10 a11 a12 a13 a14 a15 a16 a17 a18 a19 a20 a21 a22 a23 a24 : Sl} (ns : List Int) (hl : ns.length ≤ 63) (k : Int) (hk : 0 ≤ k) : ∃ m t q w k' : Int, Dr m t q w ∧ 0 ≤ k' ∧ x_law_1 [.val (.scr (I ns)), .val (.loc 0), a2, a3, a4, a5, a6, a7, a8, a9, a10, a11, a12, a13, a14, a15, a16, a17, a18, a19, a20, a21, a22, a23, a24] (A ns k) =
    .nx [.val (.scr (I ns)), .val (.loc 0), a2, .val (.int m), .val (.int t), .val (.int q), .val (.int w), a7, a8, a9, a10, a11, a12, a13, a14, a15, a16, a17, a18, a19, a20, a21, a22, a23, a24] (A ns k') := by
  obtain ⟨m, m0, m1, e1⟩ := take_ok ns k 4 [] hk (by decide) hl
  obtain ⟨t, t0, t1, e2⟩ := take_ok ns (k + 1) 7 [] (by omega) (by decide) hl
  obtain ⟨q, q0, q1, e3⟩ := take_ok ns (k + 1 + 1) 5 [] (by omega) (by decide) hl
  obtain ⟨w, w0, w1, e4⟩ := take_ok ns (k + 1 + 1 + 1) 9 [] (by omega) (by decide) hl
  refine ⟨m, 1 + t, q, 1 + w, k + 1 + 1 + 1 + 1, ⟨m0, by omega, by omega, by omega, q0, by omega, by omega, by omega⟩, by omega, ?_⟩
  simp [x_law_1, e1, e2, e3, e4]
/-! ### drawn falls -/
theorem falls_go (ns : List Int) (hl : ns.length ≤ 63) : ∀ (ds : List Nat) (l : List Int) (z k : Int) (x : Sl), 0 ≤ k → Fl l z → z + 3 * (ds.length : Int) ≤ 99999 → l.length + ds.length ≤ 1000 →
    ∃ (l' : List Int) (z' k' : Int) (y : Sl), 0 ≤ k' ∧ Fl l' z' ∧ l'.length ≤ l.length + ds.length ∧ forGo (bName 3) lb__law_falls_0 (ds.map fun (i : Nat) => D.int (0 + (i : Int))) [.val (.loc 0), .val (.lst (I l)), .val (.int z), x] (A ns k) = .nx [.val (.loc 0), .val (.lst (I l')), .val (.int z'), y] (A ns k')
  | [], l, z, k, x, hk, F, _, _ => ⟨l, z, k, x, hk, F, by simp, rfl⟩
  | i :: ds, l, z, k, x, hk, F, hz, hn => by
    obtain ⟨d, d0, d1, e1⟩ := take_ok ns k 4 [] hk (by decide) hl
    rw [List.length_cons] at hz hn
    obtain ⟨l', z', k', y, h1, h2, h4, h5⟩ := falls_go ns hl ds (l ++ [z]) (z + d) (k + 1) (.val (.int (0 + (i : Int)))) (by omega) (by
      have F0 := F.add (d := 0) (by omega) (by omega)
      rw [Int.add_zero] at F0
      exact ⟨F0.ok, fun i hi => by have := F0.le i hi; omega, by have := F.z0; omega⟩) (by omega) (by rw [List.length_append]; simp; omega)
    refine ⟨l', z', k', y, h1, h2, by rw [List.length_cons]; rw [List.length_append] at h4; simp at h4; omega, ?_⟩
    rw [List.map_cons]
    conv => lhs; unfold forGo
    simp only [r_bName, List.set_cons_succ, List.set_cons_zero]
    have e2 : lb__law_falls_0 [.val (.loc 0), .val (.lst (I l)), .val (.int z), .val (.int (0 + (i : Int)))] (A ns k) = .nx [.val (.loc 0), .val (.lst (I (l ++ [z]))), .val (.int (z + d)), .val (.int (0 + (i : Int)))] (A ns (k + 1)) := by
      rw [u_lb__law_falls_0]
      have g : ∀ st, gAdd (.lst (I l)) (.lst [.int z]) st = .ok (.lst (I (l ++ [z]))) st := fun st => by
        rw [add_lst (by rw [I_len]; simp; omega), ← I_app]; rfl
      simp [e1, g, flatL, isLoc]
    rw [e2]
    exact h5
theorem falls_ok (ns : List Int) (hl : ns.length ≤ 63) (k : Int) (hk : 0 ≤ k) : ∃ (l : List Int) (k' : Int), 0 ≤ k' ∧ okF 0 l ∧ l.length ≤ 8 ∧ m__law_falls [.loc 0] (A ns k) = .ok (.lst (I l)) (A ns k') := by
  obtain ⟨z, z0, z1, e1⟩ := take_ok ns k 5 [] hk (by decide) hl
  obtain ⟨n, n0, n1, e2⟩ := take_ok ns (k + 1) 9 [] (by omega) (by decide) hl
  obtain ⟨l', z', k', y, h1, h2, h4, h5⟩ := falls_go ns hl (List.range n.toNat) [] z (k + 1 + 1) .un (by omega) ⟨True.intro, fun i hi => by simp at hi, z0⟩ (by rw [List.length_range]; omega) (by rw [List.length_range]; simp; omega)
  rw [List.length_range] at h4
  refine ⟨l', k', h1, h2.ok, by simp at h4; omega, ?_⟩
  suffices x : m__law_falls [.loc 0] (A ns k) = .ok (.lst (I l')) ((A ns k').take (A ns k).length) from x
  refine callD_rt (st' := A ns k') rfl ?_ rfl
  show b__law_falls [.val (.loc 0), .un, .un, .un] (A ns k) = _
  unfold b__law_falls
  have e3 : (sPar [1, 2] (mVal (eLst aNil) (mVal (eCall m__law_take (aCons (eVar 0) (aCons (eC (.int 5)) aNil))) mNil))) [.val (.loc 0), .un, .un, .un] (A ns k) = .nx [.val (.loc 0), .val (.lst (I [])), .val (.int z), .un] (A ns (k + 1)) := by simp [e1, flatL]
  rw [seq_nx e3]
  have e4 : (lRange1 (aCons (eCall m__law_take (aCons (eVar 0) (aCons (eC (.int 9)) aNil))) aNil)) [.val (.loc 0), .val (.lst (I [])), .val (.int z), .un] (A ns (k + 1)) = .ok ((List.range n.toNat).map fun (i : Nat) => D.int (0 + (i : Int))) (A ns (k + 1 + 1)) := by
    have : -1000000000 ≤ n ∧ n ≤ 1000000000 := by omega
    simp [e2, this.1, this.2, upto_map]
  have e5 : (sFor (lRange1 (aCons (eCall m__law_take (aCons (eVar 0) (aCons (eC (.int 9)) aNil))) aNil)) (bName 3) lb__law_falls_0) [.val (.loc 0), .val (.lst (I [])), .val (.int z), .un] (A ns (k + 1)) = .nx [.val (.loc 0), .val (.lst (I l')), .val (.int z'), y] (A ns k') := by
    rw [r_for, e4]
    exact h5
  rw [seq_nx e5]
  rfl
/-! ### the law's own most -/
def mo (t : Int) (l : List Int) : Int := maxI (((List.range l.length).map fun i => (row t l i : Int)) ++ [0])
theorem maxI_le (m : Int) : ∀ (l : List Int), l ≠ [] → (maxI l ≤ m ↔ ∀ x ∈ l, x ≤ m)
  | [], h => absurd rfl h
  | [i], _ => by simp [maxI]
  | i :: j :: r, _ => by
    have ih := maxI_le m (j :: r) (by simp)
    show max i (maxI (j :: r)) ≤ m ↔ _
    rw [Int.max_le, ih]
    simp
theorem mo_le (t m : Int) (l : List Int) (hm : 0 ≤ m) : mo t l ≤ m ↔ aw m t l = true := by
  unfold mo
  rw [maxI_le _ _ (by simp), aw_iff]
  constructor
  · intro h i hi
    exact h _ (List.mem_append_left _ (List.mem_map.mpr ⟨i, List.mem_range.mpr hi, rfl⟩))
  · intro h x hx
    rcases List.mem_append.mp hx with hx | hx
    · obtain ⟨i, hi, rfl⟩ := List.mem_map.mp hx
      exact h i (List.mem_range.mp hi)
    · have : x = 0 := by simpa using hx
      omega
theorem most_ok (t : Int) (l : List Int) (hl : l.length < 1000) (st : Store) : m__law_most [.lst (I l), .int t] st = .ok (.int (mo t l)) st := by
  refine callD_rt0 rfl ?_ rfl
  show b__law_most [.val (.lst (I l)), .val (.int t), .un, .un, .un] st = _
  have hi : (lEnumU (aCons (eVar 0) aNil)) [.val (.lst (I l)), .val (.int t), .un, .un, .un] st = .ok ((List.range l.length).map fun (i : Nat) => D.tup [.int (i : Int), .int (at0 l i)]) st := by
    rw [← num_I]; rfl
  have e := eComp_map (bd := bTup 2 (bCons (bName 2) (bCons (bName 3) bNil))) (t := tYes) (me := ce__law_most_1) (vs := [2, 3]) (fun (i : Nat) => D.tup [.int (i : Int), .int (at0 l i)]) (fun (i : Nat) => D.int (row t l i : Int)) (fun _ => true) (List.range l.length) hi (by rw [List.length_range]; omega) fun i hi => ⟨_, rfl, rfl, fun _ => ⟨by
    have hi : i < l.length := List.mem_range.mp hi
    rw [u_ce__law_most_1]
    have c : (lSeq (eCutL (ePeek 0) oNone (oSome (e2 gAddI (ePeek 2) (eC (.int 1)))))) [.val (.lst (I l)), .val (.int t), .val (.int (i : Int)), .val (.int (at0 l i)), .un] st = .ok ((l.take (i + 1)).map D.int) st := by
      have := cut_to l i hi
      simp [gCutL, this]
      unfold I
      rw [List.map_take]
    have e2' := eComp_map (bd := bName 4) (t := ct__law_most_0) (me := eVar 4) (vs := [4]) (ρ := [.val (.lst (I l)), .val (.int t), .val (.int (i : Int)), .val (.int (at0 l i)), .un]) (st := st) D.int D.int (fun x => decide (at0 l i - t < x)) (l.take (i + 1)) c (by rw [List.length_take]; omega) fun x _ => ⟨_, rfl, by rw [u_ct__law_most_0]; simp [wipeR], fun _ => ⟨rfl, rfl⟩⟩
    have e3 := v_eN1 (g := gLen) e2'
    refine e3.trans ?_
    rw [r_gLenL, List.length_map]
    rfl, rfl⟩⟩
  rw [List.filter_eq_self.mpr (fun _ _ => rfl)] at e
  have eq : ((List.range l.length).map fun (i : Nat) => D.int (row t l i : Int)) ++ [.int 0] = (((List.range l.length).map fun i => (row t l i : Int)) ++ [0]).map D.int := by rw [List.map_append, List.map_map]; rfl
  have g := add_lst (st := st) (a := (List.range l.length).map fun (i : Nat) => D.int (row t l i : Int)) (b := [.int 0]) (by rw [List.length_map, List.length_range]; simp; omega)
  rw [eq] at g
  have z := (v_e2 (g := gAdd) (mb := eLst (aCons (eC (.int 0)) aNil)) (y := .lst [.int 0]) (st2 := st) e rfl).trans g
  refine v_ret ((v_eN1 (g := gMax) z).trans ?_)
  unfold gMax
  dsimp only
  rw [asInts_map]
  unfold mo
  cases h : (((List.range l.length).map fun i => (row t l i : Int)) ++ [0]) with
  | nil => simp at h
  | cons n r => rfl
end Lw
namespace Lw
open Gh L2 PyProof.Rows PySem.Spec PySem
section
variable {a2 a9 a10 a11 a12 a13 a14 a15 a16 a17 a18 a19 a20 a21 a22 a23 a24 : Sl} {ns : List Int} {m t q w k n : Int} {l : List Int}
theorem st2 {a7 a8 : Sl} (D' : Dr m t q w) (hl : ns.length ≤ 63) (hk : 0 ≤ k) : ∃ (l : List Int) (k' : Int), 0 ≤ k' ∧ okF 0 l ∧ l.length ≤ 8 ∧ x_law_2 [.val (.scr (I ns)), .val (.loc 0), a2, .val (.int m), .val (.int t), .val (.int q), .val (.int w), a7, a8, a9, a10, a11, a12, a13, a14, a15, a16, a17, a18, a19, a20, a21, a22, a23, a24] (A ns k) = .nx (E ns m t q w l a2 a9 a10 a11 a12 a13 a14 a15 a16 a17 a18 a19 a20 a21 a22 a23 a24) (A ns k') := by
  obtain ⟨l, k', h1, h2, h3, e⟩ := falls_ok ns hl k hk
  refine ⟨l, k', h1, h2, h3, ?_⟩
  have := D'.m1
  have := D'.t1
  have e1 := make_ok m t (A ns k) ⟨D'.m0, by omega⟩ ⟨D'.t0, by omega⟩
  have e2' : eMake "Faults" m_Faults___init__ (aCons (eVar 3) (aCons (eVar 4) aNil)) [.val (.scr (I ns)), .val (.loc 0), a2, .val (.int m), .val (.int t), .val (.int q), .val (.int w), a7, a8, a9, a10, a11, a12, a13, a14, a15, a16, a17, a18, a19, a20, a21, a22, a23, a24] (A ns k) = .ok (FA m t) (A ns k) := (eMake_of (ds := [.int m, .int t]) rfl).trans e1
  unfold x_law_2
  exact (v_par (v_mVal e2' (v_mVal ((v_call (ds := [.loc 0]) rfl).trans e) rfl)) rfl).trans rfl
theorem st4 (D' : Dr m t q w) (h : okF 0 l) (h8 : l.length ≤ 8) : x_law_4 (E ns m t q w l a2 a9 a10 a11 a12 a13 a14 a15 a16 a17 a18 a19 a20 a21 a22 a23 a24) (A ns k) = .nx (E ns m t q w l a2 a9 a10 a11 a12 a13 a14 a15 a16 a17 a18 a19 a20 a21 a22 a23 a24) (A ns k) := by
  have e1 := are_within_ok m t l (.lst (I l)) (.inl rfl) h (by omega) (A ns k)
  have e2' := most_ok t l (by omega) (A ns k)
  have e3 : decide (mo t l ≤ m) = aw m t l := by
    cases q : aw m t l with
    | true => exact decide_eq_true ((mo_le t m l D'.m0).mpr q)
    | false => exact decide_eq_false fun z => by rw [(mo_le t m l D'.m0).mp z] at q; cases q
  unfold x_law_4
  simp [e1, e2', e3]
/-- where a row is beyond -/
def bey (q w : Int) (l : List Int) : List Int := ((List.range l.length).filter fun i => decide (q < (row w l i : Int))).map fun (i : Nat) => (i : Int)
theorem st7 (h8 : l.length ≤ 8) : x_law_7 (E ns m t q w l a2 a9 a10 a11 a12 a13 a14 a15 a16 a17 a18 a19 a20 a21 a22 a23 a24) (A ns k) = .nx (E ns m t q w l a2 (.val (.lst (I (bey q w l)))) a10 a11 a12 a13 a14 a15 a16 a17 a18 a19 a20 a21 a22 a23 a24) (A ns k) := by
  have hi : (lRange1 (aCons (eN gLen (aCons (ePeek 8) aNil)) aNil)) (E ns m t q w l a2 a9 a10 a11 a12 a13 a14 a15 a16 a17 a18 a19 a20 a21 a22 a23 a24) (A ns k) = .ok ((List.range l.length).map fun (i : Nat) => D.int (0 + (i : Int))) (A ns k) := by
    have e := len_lst l (A ns k)
    have : -1000000000 ≤ (l.length : Int) ∧ (l.length : Int) ≤ 1000000000 := by omega
    simp [e, this.1, this.2, upto_map]
  have e := eComp_map (bd := bName 22) (t := ct_law_1) (me := eVar 22) (vs := [22]) (fun (i : Nat) => D.int (0 + (i : Int))) (fun (i : Nat) => D.int (0 + (i : Int))) (fun i => decide (q < (row w l i : Int))) (List.range l.length) hi (by rw [List.length_range]; omega) fun i hi => ⟨_, rfl, by
    have hi : i < l.length := List.mem_range.mp hi
    rw [u_ct_law_1]
    have ix : ∀ st, gIx (.lst (I l)) (.int (0 + (i : Int))) st = .ok (.int (at0 l i)) st := fun st => by
      have := ix_pos l (0 + (i : Int)) (by omega) (by omega) st
      rw [this]
      unfold at0
      congr 3
      omega
    have c : (lSeq (eCutL (ePeek 8) oNone (oSome (e2 gAddI (ePeek 22) (eC (.int 1)))))) ((wipeR (E ns m t q w l a2 a9 a10 a11 a12 a13 a14 a15 a16 a17 a18 a19 a20 a21 a22 a23 a24) [22]).set 22 (.val (.int (0 + (i : Int))))) (A ns k) = .ok ((l.take (i + 1)).map D.int) (A ns k) := by
      have := cut_to l i hi
      rw [show (i : Int) + 1 = 0 + (i : Int) + 1 by omega] at this
      simp only [wipeR]
      show (match seqOf (.lst (Gh.cutD (I l) none (some (0 + (i : Int) + 1)))) with | some ds => RC.ok ds (A ns k) | none => .bad) = _
      rw [this]
      show RC.ok (I (l.take (i + 1))) _ = _
      rfl
    have e2' := eComp_map (bd := bName 23) (t := ct_law_0) (me := eVar 23) (vs := [23]) D.int D.int (fun x => decide (at0 l i - w < x)) (l.take (i + 1)) c (by rw [List.length_take]; omega) fun x _ => ⟨_, rfl, by rw [u_ct_law_0]; simp [wipeR, -Int.zero_add, ix], fun _ => ⟨rfl, rfl⟩⟩
    have e3 : eN gLen (aCons (eComp (lSeq (eCutL (ePeek 8) oNone (oSome (e2 gAddI (ePeek 22) (eC (.int 1)))))) (bName 23) ct_law_0 (eVar 23) [23]) aNil) ((wipeR (E ns m t q w l a2 a9 a10 a11 a12 a13 a14 a15 a16 a17 a18 a19 a20 a21 a22 a23 a24) [22]).set 22 (.val (.int (0 + (i : Int))))) (A ns k) = .ok (.int (row w l i : Int)) (A ns k) := by
      refine (v_eN1 (g := gLen) e2').trans ?_
      rw [r_gLenL, List.length_map]
      rfl
    exact v_tB ((v_e2 (g := gGt) (y := .int q) e3 rfl).trans rfl), fun _ => ⟨rfl, rfl⟩⟩
  unfold x_law_7
  rw [r_val, r_asgO, e]
  show (SR.nx _ _) = _
  have : ((List.range l.length).filter fun i => decide (q < (row w l i : Int))).map (fun (i : Nat) => D.int (0 + (i : Int))) = I (bey q w l) := by
    unfold bey I
    rw [List.map_map]
    refine List.map_congr_left fun i _ => ?_
    show D.int (0 + (i : Int)) = D.int (i : Int)
    rw [Int.zero_add]
  rw [this]
  rfl
theorem fb_bey (q w : Int) (l : List Int) : (bey q w l = [] ∧ fb q w l = none) ∨ ∃ (i : Nat) (r : List Int), bey q w l = (i : Int) :: r ∧ fb q w l = some i := by
  unfold bey fb
  rw [← List.head?_filter]
  cases h : (List.range l.length).filter fun i => decide (q < (row w l i : Int)) with
  | nil => exact .inl ⟨rfl, rfl⟩
  | cons i r => exact .inr ⟨i, r.map fun (i : Nat) => (i : Int), rfl, rfl⟩
theorem st9 (D' : Dr m t q w) (h : okF 0 l) (h8 : l.length ≤ 8) : x_law_9 (E ns m t q w l a2 (.val (.lst (I (bey q w l)))) a10 a11 a12 a13 a14 a15 a16 a17 a18 a19 a20 a21 a22 a23 a24) (A ns k) = .nx (E ns m t q w l a2 (.val (.lst (I (bey q w l)))) a10 a11 a12 a13 a14 a15 a16 a17 a18 a19 a20 a21 a22 a23 a24) (A ns k) := by
  have := D'.q1
  have := D'.w1
  have e1 := first_beyond_ok q w l (.lst (I l)) (.inl rfl) h (by omega) ⟨D'.q0, by omega⟩ ⟨D'.w0, by omega⟩ (A ns k)
  unfold x_law_9
  rcases fb_bey q w l with ⟨h1, h2⟩ | ⟨i, r, h1, h2⟩
  · have n1 := ne_ll [] [] (A ns k)
    simp at n1
    rw [h2] at e1
    rw [h1]
    simp [e1, optD, flatL, n1]
  · rw [h2] at e1
    have n1 := ne_ll ((i : Int) :: r) [] (A ns k)
    have n2 : gNe (.lst (I ((i : Int) :: r))) (.lst []) (A ns k) = .ok (.bl true) (A ns k) := by
      rw [show D.lst [] = D.lst (I []) from rfl, n1]
      simp
    have n3 := ix_first ((i : Int) :: r) (by simp) (A ns k)
    rw [h1]
    simp [e1, optD, flatL, n2, n3, at0]
end
end Lw
namespace Lw
open Gh L2 PyProof.Rows PySem.Spec PySem
section
variable {a2 a9 a10 a11 a12 a13 a14 a15 a16 a17 a18 a19 a20 a21 a22 a23 a24 : Sl} {ns : List Int} {m t q w k n : Int} {l : List Int}
theorem row_go (hm : 0 < m) : ∀ (ds : List D) (j : Nat) (a12 : Sl), j + ds.length ≤ 1000 → ∃ b12 : Sl, forGo (bName 12) lb_law_2 ds (E ns m t q w l a2 a9 a10 (.own (.lst (I (son m t j)))) a12 a13 a14 a15 a16 a17 a18 a19 a20 a21 a22 a23 a24) (A ns k) = .nx (E ns m t q w l a2 a9 a10 (.own (.lst (I (son m t (j + ds.length))))) b12 a13 a14 a15 a16 a17 a18 a19 a20 a21 a22 a23 a24) (A ns k)
  | [], j, a12, _ => ⟨a12, rfl⟩
  | d :: ds, j, a12, hn => by
    rw [List.length_cons] at hn
    obtain ⟨b12, e⟩ := row_go hm ds (j + 1) (.val d) (by omega)
    refine ⟨b12, ?_⟩
    rw [List.length_cons, show j + (ds.length + 1) = j + 1 + ds.length by omega]
    conv => lhs; unfold forGo
    show (match lb_law_2 (E ns m t q w l a2 a9 a10 (.own (.lst (I (son m t j)))) (.val (d)) a13 a14 a15 a16 a17 a18 a19 a20 a21 a22 a23 a24) (A ns k) with
      | .nx ρ2 st2 => forGo (bName 12) lb_law_2 ds ρ2 st2
      | .ct ρ2 st2 => forGo (bName 12) lb_law_2 ds ρ2 st2
      | .bk ρ2 st2 => .nx ρ2 st2
      | r => r) = _
    have sl := son_len m t j
    have ln : eN gLen (aCons (ePeek 11) aNil) (E ns m t q w l a2 a9 a10 (.own (.lst (I (son m t j)))) (.val (d)) a13 a14 a15 a16 a17 a18 a19 a20 a21 a22 a23 a24) (A ns k) = .ok (.int (j : Int)) (A ns k) := by
      refine (v_eN1 (g := gLen) (x := .lst (I (son m t j))) (st1 := A ns k) rfl).trans ?_
      rw [len_lst, sl]
    have vl : eIf (tB (e2 gLt (eN gLen (aCons (ePeek 11) aNil)) (ePeek 3))) (eC (.int 0)) (e2 gAddI (e2 gIx (ePeek 11) (e2 gSub (eN gLen (aCons (ePeek 11) aNil)) (ePeek 3))) (ePeek 4)) (E ns m t q w l a2 a9 a10 (.own (.lst (I (son m t j)))) (.val (d)) a13 a14 a15 a16 a17 a18 a19 a20 a21 a22 a23 a24) (A ns k) = .ok (.int ((j : Int) / m * t)) (A ns k) := by
      rw [r_eIf, v_tB ((v_e2 (g := gLt) (y := .int m) ln rfl).trans rfl), RC.bind_ok]
      by_cases hj : (j : Int) < m
      · rw [if_pos (by simpa using hj), Int.ediv_eq_zero_of_lt (by omega) hj, Int.zero_mul]
        rfl
      · rw [if_neg (by simpa using hj)]
        have i1 : gIx (.lst (I (son m t j))) (.int ((j : Int) - m)) (A ns k) = .ok (.int (((j : Int) - m) / m * t)) (A ns k) := by
          rw [ix_pos _ _ (by omega) (by rw [sl]; omega)]
          have := son_at m t j ((j : Int) - m).toNat (by omega)
          unfold at0 at this
          rw [this, show ((((j : Int) - m).toNat : Nat) : Int) = (j : Int) - m by omega]
        have s1 : e2 gSub (eN gLen (aCons (ePeek 11) aNil)) (ePeek 3) (E ns m t q w l a2 a9 a10 (.own (.lst (I (son m t j)))) (.val (d)) a13 a14 a15 a16 a17 a18 a19 a20 a21 a22 a23 a24) (A ns k) = .ok (.int ((j : Int) - m)) (A ns k) := (v_e2 (g := gSub) (y := .int m) ln rfl).trans rfl
        refine (v_e2 (g := gAddI) (y := .int t) ((v_e2 (g := gIx) (x := .lst (I (son m t j))) rfl s1).trans i1) rfl).trans ?_
        rw [r_gAddI]
        have : ((j : Int) - m) / m = (j : Int) / m - 1 := by
          rw [show (j : Int) - m = (j : Int) + (-1) * m by omega, Int.add_mul_ediv_right _ _ (by omega)]
          omega
        rw [this, Int.sub_mul, Int.one_mul, Int.sub_add_cancel]
    have st : lb_law_2 (E ns m t q w l a2 a9 a10 (.own (.lst (I (son m t j)))) (.val (d)) a13 a14 a15 a16 a17 a18 a19 a20 a21 a22 a23 a24) (A ns k) = .nx (E ns m t q w l a2 a9 a10 (.own (.lst (I (son m t (j + 1))))) (.val (d)) a13 a14 a15 a16 a17 a18 a19 a20 a21 a22 a23 a24) (A ns k) := by
      rw [u_lb_law_2]
      unfold x_law_11
      show ((_ : RC D).s _ _) = _
      rw [vl]
      show (if (I (son m t j)).length < 100000 ∧ isLoc (.int ((j : Int) / m * t)) = false then _ else _) = _
      rw [if_pos ⟨by rw [I_len, sl]; omega, rfl⟩]
      have : I (son m t j) ++ [.int ((j : Int) / m * t)] = I (son m t (j + 1)) := by
        unfold son I
        rw [List.range_succ, List.map_append, List.map_append]
        rfl
      rw [this]
      rfl
    rw [st]
    exact e
theorem ev_go (hm : 0 < m) : ∀ (ds : List D) (j : Nat) (a12 : Sl), j + ds.length ≤ 1000 → ∃ b12 : Sl, forGo (bName 12) lb_law_3 ds (E ns m t q w l a2 a9 a10 a11 a12 a13 a14 (.own (.lst (I (son m t j)))) a16 a17 a18 a19 a20 a21 a22 a23 a24) (A ns k) = .nx (E ns m t q w l a2 a9 a10 a11 b12 a13 a14 (.own (.lst (I (son m t (j + ds.length))))) a16 a17 a18 a19 a20 a21 a22 a23 a24) (A ns k)
  | [], j, a12, _ => ⟨a12, rfl⟩
  | d :: ds, j, a12, hn => by
    rw [List.length_cons] at hn
    obtain ⟨b12, e⟩ := ev_go hm ds (j + 1) (.val d) (by omega)
    refine ⟨b12, ?_⟩
    rw [List.length_cons, show j + (ds.length + 1) = j + 1 + ds.length by omega]
    conv => lhs; unfold forGo
    show (match lb_law_3 (E ns m t q w l a2 a9 a10 a11 (.val (d)) a13 a14 (.own (.lst (I (son m t j)))) a16 a17 a18 a19 a20 a21 a22 a23 a24) (A ns k) with
      | .nx ρ2 st2 => forGo (bName 12) lb_law_3 ds ρ2 st2
      | .ct ρ2 st2 => forGo (bName 12) lb_law_3 ds ρ2 st2
      | .bk ρ2 st2 => .nx ρ2 st2
      | r => r) = _
    have sl := son_len m t j
    have ln : eN gLen (aCons (ePeek 15) aNil) (E ns m t q w l a2 a9 a10 a11 (.val (d)) a13 a14 (.own (.lst (I (son m t j)))) a16 a17 a18 a19 a20 a21 a22 a23 a24) (A ns k) = .ok (.int (j : Int)) (A ns k) := by
      refine (v_eN1 (g := gLen) (x := .lst (I (son m t j))) (st1 := A ns k) rfl).trans ?_
      rw [len_lst, sl]
    have vl : eIf (tB (e2 gLt (eN gLen (aCons (ePeek 15) aNil)) (ePeek 3))) (eC (.int 0)) (e2 gAddI (e2 gIx (ePeek 15) (e2 gSub (eN gLen (aCons (ePeek 15) aNil)) (ePeek 3))) (ePeek 4)) (E ns m t q w l a2 a9 a10 a11 (.val (d)) a13 a14 (.own (.lst (I (son m t j)))) a16 a17 a18 a19 a20 a21 a22 a23 a24) (A ns k) = .ok (.int ((j : Int) / m * t)) (A ns k) := by
      rw [r_eIf, v_tB ((v_e2 (g := gLt) (y := .int m) ln rfl).trans rfl), RC.bind_ok]
      by_cases hj : (j : Int) < m
      · rw [if_pos (by simpa using hj), Int.ediv_eq_zero_of_lt (by omega) hj, Int.zero_mul]
        rfl
      · rw [if_neg (by simpa using hj)]
        have i1 : gIx (.lst (I (son m t j))) (.int ((j : Int) - m)) (A ns k) = .ok (.int (((j : Int) - m) / m * t)) (A ns k) := by
          rw [ix_pos _ _ (by omega) (by rw [sl]; omega)]
          have := son_at m t j ((j : Int) - m).toNat (by omega)
          unfold at0 at this
          rw [this, show ((((j : Int) - m).toNat : Nat) : Int) = (j : Int) - m by omega]
        have s1 : e2 gSub (eN gLen (aCons (ePeek 15) aNil)) (ePeek 3) (E ns m t q w l a2 a9 a10 a11 (.val (d)) a13 a14 (.own (.lst (I (son m t j)))) a16 a17 a18 a19 a20 a21 a22 a23 a24) (A ns k) = .ok (.int ((j : Int) - m)) (A ns k) := (v_e2 (g := gSub) (y := .int m) ln rfl).trans rfl
        refine (v_e2 (g := gAddI) (y := .int t) ((v_e2 (g := gIx) (x := .lst (I (son m t j))) rfl s1).trans i1) rfl).trans ?_
        rw [r_gAddI]
        have : ((j : Int) - m) / m = (j : Int) / m - 1 := by
          rw [show (j : Int) - m = (j : Int) + (-1) * m by omega, Int.add_mul_ediv_right _ _ (by omega)]
          omega
        rw [this, Int.sub_mul, Int.one_mul, Int.sub_add_cancel]
    have st : lb_law_3 (E ns m t q w l a2 a9 a10 a11 (.val (d)) a13 a14 (.own (.lst (I (son m t j)))) a16 a17 a18 a19 a20 a21 a22 a23 a24) (A ns k) = .nx (E ns m t q w l a2 a9 a10 a11 (.val (d)) a13 a14 (.own (.lst (I (son m t (j + 1))))) a16 a17 a18 a19 a20 a21 a22 a23 a24) (A ns k) := by
      rw [u_lb_law_3]
      unfold x_law_21
      show ((_ : RC D).s _ _) = _
      rw [vl]
      show (if (I (son m t j)).length < 100000 ∧ isLoc (.int ((j : Int) / m * t)) = false then _ else _) = _
      rw [if_pos ⟨by rw [I_len, sl]; omega, rfl⟩]
      have : I (son m t j) ++ [.int ((j : Int) / m * t)] = I (son m t (j + 1)) := by
        unfold son I
        rw [List.range_succ, List.map_append, List.map_append]
        rfl
      rw [this]
      rfl
    rw [st]
    exact e
/-- the rows that the law draws itself -/
def rw' (m t : Int) (n : Nat) : List Int := if 0 < m then son m t n else []
theorem rw_len (m t : Int) (n : Nat) : (rw' m t n).length ≤ n := by
  unfold rw'
  split
  · rw [son_len]; exact Nat.le_refl _
  · exact Nat.zero_le _
theorem st10 (hl : ns.length ≤ 63) (hk : 0 ≤ k) : ∃ n : Int, 0 ≤ n ∧ n < 9 ∧ x_law_10 (E ns m t q w l a2 a9 a10 a11 a12 a13 a14 a15 a16 a17 a18 a19 a20 a21 a22 a23 a24) (A ns k) = .nx (E ns m t q w l a2 a9 (.val (.int n)) (.own (.lst (I []))) a12 a13 a14 a15 a16 a17 a18 a19 a20 a21 a22 a23 a24) (A ns (k + 1)) := by
  obtain ⟨n, n0, n1, e1⟩ := take_ok ns k 9 [] hk (by decide) hl
  exact ⟨n, n0, n1, by simp [x_law_10, e1, flatL]⟩
theorem st13 (D' : Dr m t q w) (h0 : 0 ≤ n) (h1 : n < 9) : ∃ b12, x_law_13 (E ns m t q w l a2 a9 (.val (.int n)) (.own (.lst (I []))) a12 a13 a14 a15 a16 a17 a18 a19 a20 a21 a22 a23 a24) (A ns k) = .nx (E ns m t q w l a2 a9 (.val (.int n)) (.own (.lst (I (rw' m t n.toNat)))) b12 a13 a14 a15 a16 a17 a18 a19 a20 a21 a22 a23 a24) (A ns k) := by
  unfold x_law_13
  by_cases hm : 0 < m
  · have hi : (lRange1 (aCons (eIf (tB (e2 gGt (ePeek 3) (eC (.int 0)))) (eVar 10) (eC (.int 0))) aNil)) (E ns m t q w l a2 a9 (.val (.int n)) (.own (.lst (I []))) a12 a13 a14 a15 a16 a17 a18 a19 a20 a21 a22 a23 a24) (A ns k) = .ok (upto 0 n.toNat) (A ns k) := by
      have : -1000000000 ≤ n ∧ n ≤ 1000000000 := by omega
      simp [hm, this.1, this.2]
    have hu : (upto 0 n.toNat).length = n.toNat := by rw [upto_map, List.length_map, List.length_range]
    obtain ⟨b12, e⟩ := row_go (a2 := a2) (a9 := a9) (a10 := .val (.int n)) (a13 := a13) (a14 := a14) (a15 := a15) (a16 := a16) (a17 := a17) (a18 := a18) (a19 := a19) (a20 := a20) (a21 := a21) (a22 := a22) (a23 := a23) (a24 := a24) (ns := ns) (t := t) (q := q) (w := w) (k := k) (l := l) hm (upto 0 n.toNat) 0 a12 (by rw [hu]; omega)
    rw [hu, Nat.zero_add] at e
    refine ⟨b12, ?_⟩
    rw [r_for, hi]
    have : rw' m t n.toNat = son m t n.toNat := by unfold rw'; rw [if_pos hm]
    rw [this]
    exact e
  · have hi : (lRange1 (aCons (eIf (tB (e2 gGt (ePeek 3) (eC (.int 0)))) (eVar 10) (eC (.int 0))) aNil)) (E ns m t q w l a2 a9 (.val (.int n)) (.own (.lst (I []))) a12 a13 a14 a15 a16 a17 a18 a19 a20 a21 a22 a23 a24) (A ns k) = .ok [] (A ns k) := by
      simp [hm]
      rfl
    refine ⟨a12, ?_⟩
    rw [r_for, hi]
    have : rw' m t n.toNat = [] := by unfold rw'; rw [if_neg hm]
    rw [this]
    rfl
theorem st15 (D' : Dr m t q w) (h0 : 0 ≤ n) (h1 : n < 9) : x_law_15 (E ns m t q w l a2 a9 (.val (.int n)) (.own (.lst (I (rw' m t n.toNat)))) a12 a13 a14 a15 a16 a17 a18 a19 a20 a21 a22 a23 a24) (A ns k) = .nx (E ns m t q w l a2 a9 (.val (.int n)) (.val (.lst (I (rw' m t n.toNat)))) a12 a13 a14 a15 a16 a17 a18 a19 a20 a21 a22 a23 a24) (A ns k) := by
  have := rw_len m t n.toNat
  have e1 := most_ok t (rw' m t n.toNat) (by omega) (A ns k)
  have e2' : ¬ m < mo t (rw' m t n.toNat) := by
    rw [Int.not_lt, mo_le _ _ _ D'.m0]
    unfold rw'
    split
    · rename_i h
      exact son_aw m t _ h (by have := D'.t0; omega)
    · rfl
  unfold x_law_15
  rw [r_frz]
  show sIf _ _ _ (E ns m t q w l a2 a9 (.val (.int n)) (.val (.lst (I (rw' m t n.toNat)))) a12 a13 a14 a15 a16 a17 a18 a19 a20 a21 a22 a23 a24) _ = _
  simp [e1, e2']
theorem st16 (D' : Dr m t q w) (h0 : 0 ≤ n) (h1 : n < 9) : x_law_16 (E ns m t q w l a2 a9 (.val (.int n)) (.val (.lst (I (rw' m t n.toNat)))) a12 a13 a14 a15 a16 a17 a18 a19 a20 a21 a22 a23 a24) (A ns k) = .nx (E ns m t q w l a2 a9 (.val (.int n)) (.val (.lst (I (rw' m t n.toNat)))) a12 (.val (sonD m t n)) a14 a15 a16 a17 a18 a19 a20 a21 a22 a23 a24) (A ns k) := by
  unfold x_law_16
  rw [r_frz]
  show sAsg _ _ (E ns m t q w l a2 a9 (.val (.int n)) (.val (.lst (I (rw' m t n.toNat)))) a12 a13 a14 a15 a16 a17 a18 a19 a20 a21 a22 a23 a24) _ = _
  unfold sonD rw'
  by_cases hm : 0 < m
  · have : ¬ m = 0 := by omega
    simp [hm, this]
  · have : m = 0 := by have := D'.m0; omega
    subst this
    by_cases hn : n = 0 <;> simp [hn]
theorem st17 (D' : Dr m t q w) (h0 : 0 ≤ n) (h1 : n < 9) : x_law_17 (E ns m t q w l a2 a9 (.val (.int n)) a11 a12 a13 a14 a15 a16 a17 a18 a19 a20 a21 a22 a23 a24) (A ns k) = .nx (E ns m t q w l a2 a9 (.val (.int n)) a11 a12 a13 (.val (sonD m t n)) a15 a16 a17 a18 a19 a20 a21 a22 a23 a24) (A ns k) := by
  have := D'.m1
  have := D'.t1
  have e := soonest_ok m t n ⟨D'.m0, by omega⟩ ⟨D'.t0, by omega⟩ ⟨h0, by omega⟩ (A ns k)
  unfold x_law_17
  simp [e]
theorem st19 (D' : Dr m t q w) (h0 : 0 ≤ n) (h1 : n < 9) : x_law_19 (E ns m t q w l a2 a9 (.val (.int n)) a11 a12 (.val (sonD m t n)) (.val (sonD m t n)) a15 a16 a17 a18 a19 a20 a21 a22 a23 a24) (A ns k) = .nx (E ns m t q w l a2 a9 (.val (.int n)) a11 a12 (.val (sonD m t n)) (.val (sonD m t n)) a15 a16 a17 a18 a19 a20 a21 a22 a23 a24) (A ns k) := by
  have := D'.m1
  have := D'.t1
  have so : sonD m t n = .non ∨ ∃ l', sonD m t n = .lst (I l') := by
    unfold sonD
    split
    · split
      · exact .inr ⟨_, rfl⟩
      · exact .inl rfl
    · exact .inr ⟨_, rfl⟩
  unfold x_law_19
  rcases so with e | ⟨l', e⟩
  · have e1 := span_none m t n ⟨D'.m0, by omega⟩ ⟨D'.t0, by omega⟩ ⟨h0, by omega⟩ (A ns k) e
    have n1 : ∀ st, gNe .non .non st = .ok (.bl false) st := fun _ => rfl
    rw [e]
    simp [e1, Gh.isNon, n1]
  · have e1 := span_some m t n l' ⟨D'.m0, by omega⟩ ⟨D'.t0, by omega⟩ ⟨h0, by omega⟩ (A ns k) e
    rw [e]
    by_cases hl : l' = []
    · subst hl
      have n1 := ne_ll [] [] (A ns k)
      simp at n1
      simp [e1, Gh.isNon, n1, flatL, spD]
    · have i1 := ix_last l' hl (A ns k)
      have i2 := ix_first l' hl (A ns k)
      simp [e1, Gh.isNon, flatL, spD, hl, i1, i2]
theorem st23 (D' : Dr m t q w) : ∃ b12, x_law_23 (E ns m t q w l a2 a9 a10 a11 a12 a13 a14 (.own (.lst (I []))) a16 a17 a18 a19 a20 a21 a22 a23 a24) (A ns k) = .nx (E ns m t q w l a2 a9 a10 a11 b12 a13 a14 (.own (.lst (I (rw' m t 60)))) a16 a17 a18 a19 a20 a21 a22 a23 a24) (A ns k) := by
  unfold x_law_23
  by_cases hm : 0 < m
  · have hi : (lRange1 (aCons (eIf (tB (e2 gGt (ePeek 3) (eC (.int 0)))) (eC (.int 60)) (eC (.int 0))) aNil)) (E ns m t q w l a2 a9 a10 a11 a12 a13 a14 (.own (.lst (I []))) a16 a17 a18 a19 a20 a21 a22 a23 a24) (A ns k) = .ok (upto 0 60) (A ns k) := by
      simp [hm]
    have hu : (upto 0 60).length = 60 := by rw [upto_map, List.length_map, List.length_range]
    obtain ⟨b12, e⟩ := ev_go (a2 := a2) (a9 := a9) (a10 := a10) (a11 := a11) (a13 := a13) (a14 := a14) (a16 := a16) (a17 := a17) (a18 := a18) (a19 := a19) (a20 := a20) (a21 := a21) (a22 := a22) (a23 := a23) (a24 := a24) (ns := ns) (t := t) (q := q) (w := w) (k := k) (l := l) hm (upto 0 60) 0 a12 (by rw [hu]; omega)
    rw [hu, Nat.zero_add] at e
    refine ⟨b12, ?_⟩
    rw [r_for, hi]
    have : rw' m t 60 = son m t 60 := by unfold rw'; rw [if_pos hm]
    rw [this]
    exact e
  · have hi : (lRange1 (aCons (eIf (tB (e2 gGt (ePeek 3) (eC (.int 0)))) (eC (.int 60)) (eC (.int 0))) aNil)) (E ns m t q w l a2 a9 a10 a11 a12 a13 a14 (.own (.lst (I []))) a16 a17 a18 a19 a20 a21 a22 a23 a24) (A ns k) = .ok [] (A ns k) := by
      simp [hm]
      rfl
    refine ⟨a12, ?_⟩
    rw [r_for, hi]
    have : rw' m t 60 = [] := by unfold rw'; rw [if_neg hm]
    rw [this]
    rfl
theorem st20 : x_law_20 (E ns m t q w l a2 a9 a10 a11 a12 a13 a14 a15 a16 a17 a18 a19 a20 a21 a22 a23 a24) (A ns k) = .nx (E ns m t q w l a2 a9 a10 a11 a12 a13 a14 (.own (.lst (I []))) a16 a17 a18 a19 a20 a21 a22 a23 a24) (A ns k) := by
  unfold x_law_20
  simp [flatL]
theorem cnt_lt (D' : Dr m t q w) (x : Int) (n : Nat) (hx : 0 ≤ x) (hb : mw m t x ≤ n) : (((rw' m t n).filter fun z => decide (z < x)).length : Int) = mw m t x := by
  unfold rw'
  split
  · rename_i hm
    have e := due_is m t x n hm (by have := D'.t0; omega) hx hb
    rw [← e]
    congr 2
    refine List.filter_congr fun z hz => ?_
    obtain ⟨i, _, rfl⟩ := List.mem_map.mp hz
    have : 0 ≤ (i : Int) / m * t := Int.mul_nonneg (div_nn hm i) (by have := D'.t0; omega)
    rw [decide_eq_true this, Bool.true_and, Int.zero_add]
  · have : m = 0 := by have := D'.m0; omega
    subst this
    unfold mw
    rw [Int.mul_zero]
    rfl
theorem mw_bd (D' : Dr m t q w) (x : Int) (hx : 0 ≤ x) : mw m t x ≤ x * 3 := by
  have h1 := up_le (t := t) (by have := D'.t0; omega) hx
  have h2 := D'.m1
  have h3 := up_nn (t := t) (by have := D'.t0; omega) hx
  rw [mw_up]
  have := Int.mul_le_mul h1 h2 D'.m0 hx
  omega
theorem st25 (D' : Dr m t q w) : x_law_25 (E ns m t q w l a2 a9 a10 a11 a12 a13 a14 (.own (.lst (I (rw' m t 60)))) a16 a17 a18 a19 a20 a21 a22 a23 a24) (A ns k) = .nx (E ns m t q w l a2 a9 a10 a11 a12 a13 a14 (.val (.lst (I (rw' m t 60)))) (.val (.int (mw m t w))) a17 a18 a19 a20 a21 a22 a23 a24) (A ns k) := by
  have hw := D'.w0
  have hw1 := D'.w1
  have hb := mw_bd D' w (by omega)
  have e := cnt_lt D' w 60 (by omega) (by omega)
  have hl := rw_len m t 60
  unfold x_law_25
  rw [r_frz]
  show sAsg _ _ (E ns m t q w l a2 a9 a10 a11 a12 a13 a14 (.val (.lst (I (rw' m t 60)))) a16 a17 a18 a19 a20 a21 a22 a23 a24) _ = _
  have c := eComp_map (bd := bName 24) (t := ct_law_4) (me := eVar 24) (vs := [24]) (mi := lSeq (eVar 15)) (ρ := E ns m t q w l a2 a9 a10 a11 a12 a13 a14 (.val (.lst (I (rw' m t 60)))) a16 a17 a18 a19 a20 a21 a22 a23 a24) (st := A ns k) D.int D.int (fun z => decide (z < w)) (rw' m t 60) (by simp; rfl) (by omega) fun z _ => ⟨_, rfl, by rw [u_ct_law_4]; simp [wipeR], fun _ => ⟨rfl, rfl⟩⟩
  refine (v_asg ((v_eN1 (g := gLen) c).trans (by rw [r_gLenL, List.length_map, e]))).trans rfl
theorem st27 (D' : Dr m t q w) : x_law_27 (E ns m t q w l a2 a9 a10 a11 a12 a13 a14 a15 (.val (.int (mw m t w))) a17 a18 a19 a20 a21 a22 a23 a24) (A ns k) = .nx (E ns m t q w l a2 a9 a10 a11 a12 a13 a14 a15 (.val (.int (mw m t w))) a17 a18 a19 a20 a21 a22 a23 a24) (A ns k) := by
  have := D'.m1
  have := D'.t1
  have := D'.w1
  have e1 := most_within_ok m t w ⟨D'.m0, by omega⟩ ⟨D'.t0, by omega⟩ ⟨D'.w0, by omega⟩ (A ns k)
  have e2' := least_most_ok m t w ⟨D'.m0, by omega⟩ ⟨D'.t0, by omega⟩ ⟨D'.w0, by omega⟩ (A ns k)
  unfold x_law_27
  simp [e1, e2']
end
end Lw
namespace Lw
open Gh L2 PyProof.Rows PySem.Spec PySem
theorem cut_last (l : List Int) : Gh.cutD (I l) none (some (-1)) = I (l.take (l.length - 1)) := by
  unfold Gh.cutD
  rw [HT.sIx_none, I_len, List.drop_zero]
  have : HT.sIx l.length l.length (some (-1)) = l.length - 1 := by
    show (if (-1 : Int) < 0 then ((-1 : Int) + (l.length : Int)).toNat else min (-1 : Int).toNat l.length) = _
    rw [if_pos (by decide)]
    omega
  rw [this, Nat.sub_zero]
  unfold I
  rw [List.map_take]
structure Ps (q w m t : Int) (s : List Int) : Prop where
  ok : okF 0 s
  len : (s.length : Int) = q + 1
  aw : aw m t s = true
  fb : fb q w s = some (s.length - 1)
theorem ps_of {q w m t : Int} (hm : 0 ≤ m) (ht : 1 ≤ t ∧ t ≤ 99) (hq : 0 ≤ q ∧ q < 6) (h : ¬ mw m t w ≤ q) : Ps q w m t (son m t (q + 1).toNat) := by
  have hm1 : 0 < m := by
    refine Classical.byContradiction fun z => h ?_
    have : m = 0 := by omega
    subst this
    unfold mw
    rw [Int.mul_zero]
    exact hq.1
  have e := passed_fb q w m t hm1 (by omega) hq.1 h
  refine ⟨son_ok m t _ hm1 ht (by omega), by rw [son_len]; omega, son_aw m t _ hm1 (by omega), ?_⟩
  rw [e, son_len, show (q + 1).toNat - 1 = q.toNat by omega]
theorem jd_b {q w m t : Int} (h : mw m t w ≤ q) : jd q w m t = BE (mw m t w) := by unfold jd; rw [if_pos h]
theorem jd_p {q w m t : Int} (h : ¬ mw m t w ≤ q) : jd q w m t = PA (son m t (q + 1).toNat) := by unfold jd; rw [if_neg h]
theorem inst_b (v : Int) (st : Store) : instOf st (BE v) = some (("Bears" : Str), [(("many" : Str), D.int v)]) := rfl
theorem inst_p (l : List Int) (st : Store) : instOf st (PA l) = some (("Passed" : Str), [(("falls" : Str), D.tup (I l))]) := rfl
theorem no_b (v : Int) : (List.lookup ("shows" : Str) [(("many" : Str), D.int v)]).isNone = true := by kernel_rfl
theorem no_p (l : List Int) : (List.lookup ("shows" : Str) [(("falls" : Str), D.tup (I l))]).isNone = true := by kernel_rfl


theorem Dr.bnd {m t q w : Int} (D' : Dr m t q w) : Bnd q w m t := ⟨⟨D'.q0, by have := D'.q1; omega⟩, ⟨D'.w0, by have := D'.w1; omega⟩, ⟨D'.m0, by have := D'.m1; omega⟩, ⟨D'.t0, by have := D'.t1; omega⟩⟩
theorem son_take (m t : Int) (n k : Nat) (h : k ≤ n) : (son m t n).take k = son m t k := by
  unfold son
  rw [← List.map_take, List.take_range, Nat.min_eq_left h]
theorem eq_bb (v : Int) (st : Store) : m_Bears___eq__ [BE v, BE v] st = .ok (.bl true) st := by
  refine callD_rt0 rfl ?_ rfl
  show b_Bears___eq__ [.val (BE v), .val (BE v)] st = _
  have i1 : gIsi [] ["Bears"] ["Passed"] (BE v) st = .ok (.bl true) st := by kernel_rfl
  simp [b_Bears___eq__, i1]
theorem eq_pp (l : List Int) (st : Store) : m_Passed___eq__ [PA l, PA l] st = .ok (.bl true) st := by
  refine callD_rt0 rfl ?_ rfl
  show b_Passed___eq__ [.val (PA l), .val (PA l)] st = _
  have i1 : gIsi [] ["Passed"] ["Bears"] (PA l) st = .ok (.bl true) st := by kernel_rfl
  have e1 := eq_self (st := st) (ok_tup l)
  simp [b_Passed___eq__, i1, e1]
theorem eq_pb (l : List Int) (v : Int) (st : Store) : m_Passed___eq__ [PA l, BE v] st = .ok (.bl false) st := by
  refine callD_rt0 rfl ?_ rfl
  show b_Passed___eq__ [.val (PA l), .val (BE v)] st = _
  have i1 : gIsi [] ["Passed"] ["Bears"] (BE v) st = .ok (.bl false) st := by kernel_rfl
  simp [b_Passed___eq__, i1]
theorem shows_b0 {q w m t : Int} (B : Bnd q w m t) (st : Store) : m_Bears_shows [BE (mw m t w), .int q, .int w, FA m t] st = .ok (.bl (decide (mw m t w ≤ q))) st := by
  by_cases h : mw m t w ≤ q
  · rw [shows_b B st h]
    simp [h]
  · refine callD_rt0 rfl ?_ rfl
    show b_Bears_shows [.val (BE (mw m t w)), .val (.int q), .val (.int w), .val (FA m t)] st = _
    have e := eq_pb (son m t (q + 1).toNat) (mw m t w) st
    have ej := jd_p h
    have e2 : gEqI (fun c => List.lookup c [("Bears", m_Bears___eq__), ("Passed", m_Passed___eq__)]) ["Bears"] (PA (son m t (q + 1).toNat)) (BE (mw m t w)) st = .ok (.bl false) st := by
      have i2 : insIn ["Bears"] st (BE (mw m t w)) = true := by kernel_rfl
      unfold gEqI
      rw [if_pos i2]
      simp [gOwnEq, askB, instOf, look_p, e, noX]
    simp [b_Bears_shows, judge_ok B, ej, e2, h]
theorem make_pt (ds : List D) (h : isLoc (.tup ds) = false) (st : Store) : stillD st.length (initD "Passed" m_Passed___init__ [.tup ds] st) = .ok (.ins "Passed" [("falls", .tup ds)]) st := by
  have e : m_Passed___init__ [.loc st.length, .tup ds] (st ++ [.ins "Passed" []]) = .ok .non (st ++ [.ins "Passed" [("falls", .tup ds)]]) := by
    have q : b_Passed___init__ [.val (.loc st.length), .val (.tup ds)] (st ++ [.ins "Passed" []]) = .nx [.val (.loc st.length), .val (.tup ds)] (st ++ [.ins "Passed" [("falls", .tup ds)]]) := by
      have p1 : putFD "falls" (.tup ds) [] = [(("falls" : Str), D.tup ds)] := rfl
      simp [b_Passed___init__, set_last, p1, isLoc]
    have h := callD_nx (np := 2) (nl := 2) (ds := [.loc st.length, .tup ds]) rfl q
    rw [show (st ++ [D.ins "Passed" [("falls", .tup ds)]]).take (st ++ [D.ins "Passed" []]).length = st ++ [D.ins "Passed" [("falls", .tup ds)]] from List.take_of_length_le (by simp)] at h
    exact h
  unfold initD
  rw [e]
  simp [stillD]
theorem att_pt (ds : List D) (st : Store) : eAttC "falls" ["Passed"] (.ins "Passed" [("falls", .tup ds)]) st = .ok (.tup ds) st := by kernel_rfl
theorem shows_n {q w m t : Int} (B : Bnd q w m t) (st : Store) : m_Passed_shows [.ins "Passed" [("falls", .tup [.non])], .int q, .int w, FA m t] st = .ok (.bl false) st := by
  refine callD_rt0 rfl ?_ rfl
  show b_Passed_shows [.val (.ins "Passed" [("falls", .tup [.non])]), .val (.int q), .val (.int w), .val (FA m t), .un, .un] st = _
  have c1 := check_bound_ok B st
  have lp : forGo (bName 5) lb_Passed_shows_0 [.non] [.val (.ins "Passed" [("falls", .tup [.non])]), .val (.int q), .val (.int w), .val (FA m t), .val (.int 0), .un] st = .rt (.bl false) st := by
    have n0 : m_is_integer [.non] st = .ok (.bl false) st := callD_rt0 rfl (by kernel_rfl) rfl
    have n1 : m_is_number [.non, .int 0, .int 99999] st = .ok (.bl false) st := by
      refine callD_rt0 rfl ?_ rfl
      show b_is_number [.val .non, .val (.int 0), .val (.int 99999)] st = _
      simp [b_is_number, n0]
    unfold forGo
    simp [u_lb_Passed_shows_0, n1]
  simp [b_Passed_shows, c1, att_pt, lp]
theorem shows_gen {q w m t : Int} (B : Bnd q w m t) (l : List Int) (st : Store) (h : okF 0 l) (hl : l.length < 100000) : m_Passed_shows [PA l, .int q, .int w, FA m t] st = .ok (.bl (aw m t l && decide (l ≠ [] ∧ fb q w l = some (l.length - 1)))) st := by
  refine callD_rt0 rfl ?_ rfl
  show b_Passed_shows [.val (PA l), .val (.int q), .val (.int w), .val (FA m t), .un, .un] st = _
  obtain ⟨x, z, e⟩ := shows_loop (PA l) (.int q) (.int w) (FA m t) st l 0 .un h
  have e1 := are_within_ok m t l (.tup (I l)) (.inr rfl) h hl st
  have e2 := first_beyond_ok q w l (.tup (I l)) (.inr rfl) h hl B.h1 B.h2 st
  cases ha : aw m t l with
  | false => simp [b_Passed_shows, check_bound_ok B, e, e1, ha]
  | true =>
    cases hf : fb q w l with
    | none =>
      have n1 : ∀ (i : Int) (st : Store), gEq .non (.int i) st = .ok (.bl false) st := fun _ _ => rfl
      simp [b_Passed_shows, check_bound_ok B, e, e1, e2, ha, hf, optD, len_tup, n1]
    | some i =>
      by_cases hn : l = []
      · subst hn
        cases hf
      · have hp := List.length_pos_iff.mpr hn
        by_cases hi : i = l.length - 1
        · have e3 : ((l.length - 1 : Nat) : Int) = (l.length : Int) - 1 := by omega
          simp [b_Passed_shows, check_bound_ok B, e, e1, e2, ha, hf, optD, len_tup, e3, hn, flatL, hi]
        · have e3 : ¬ (i : Int) = (l.length : Int) - 1 := by omega
          simp [b_Passed_shows, check_bound_ok B, e, e1, e2, ha, hf, optD, len_tup, e3, hn, hi]
/-! ### the law's own passed -/
theorem passed_ok (q w m t : Int) (l : List Int) (hm : 0 ≤ m) (hl : l.length < 1000) (st : Store) : m__law_passed [.int q, .int w, .int m, .int t, .lst (I l)] st = .ok (.bl (!decide (l = []) && (aw m t l && (decide (q < mo w l) && decide (mo w (l.take (l.length - 1)) ≤ q))))) st := by
  refine callD_rt0 rfl ?_ rfl
  show b__law_passed [.val (.int q), .val (.int w), .val (.int m), .val (.int t), .val (.lst (I l))] st = _
  have e1 := most_ok t l hl st
  have e2 := most_ok w l hl st
  have e3 := most_ok w (l.take (l.length - 1)) (by rw [List.length_take]; omega) st
  have c := cut_last l
  have q1 : ∀ st, gEq (.lst (I l)) (.lst []) st = .ok (.bl (decide (l = []))) st := fun st => by
    unfold gEq
    rw [show D.lst [] = D.lst (I []) from rfl, eqD_ll]
  by_cases hn : l = []
  · simp [b__law_passed, flatL, q1, hn]
    subst hn
    have := q1 st
    simp at this
    simp [this]
  · have hq : (decide (m < mo t l)) = !aw m t l := by
      cases z : aw m t l with
      | true => exact decide_eq_false (by rw [Int.not_lt]; exact (mo_le t m l hm).mpr z)
      | false => exact decide_eq_true (by rw [← Int.not_le]; exact fun y => by rw [(mo_le t m l hm).mp y] at z; cases z)
    cases z : aw m t l with
    | false =>
      rw [z] at hq
      have hq : m < mo t l := by simpa using hq
      simp [b__law_passed, flatL, q1, hn, e1, hq]
    | true =>
      rw [z] at hq
      have hq : ¬ m < mo t l := by simpa using hq
      by_cases h1 : q < mo w l <;> simp [b__law_passed, flatL, q1, hn, e1, hq, e2, h1, gCutL, c, e3]
theorem row_take (t : Int) (l : List Int) (n i : Nat) (h : i < n) (hn : n ≤ l.length) : row t (l.take n) i = row t l i := by
  unfold row
  have e : at0 (l.take n) i = at0 l i := by
    unfold at0
    simp [List.getD, List.getElem?_take, h]
  rw [e, List.take_take, Nat.min_eq_left (by omega)]
theorem fb_last (q w : Int) (l : List Int) (hq : 0 ≤ q) (hn : l ≠ []) : fb q w l = some (l.length - 1) ↔ (q < mo w l ∧ mo w (l.take (l.length - 1)) ≤ q) := by
  have hp := List.length_pos_iff.mpr hn
  have a1 : q < mo w l ↔ ∃ i, i < l.length ∧ q < (row w l i : Int) := by
    rw [← Int.not_le, mo_le _ _ _ hq, aw_iff]
    constructor
    · intro h
      refine Classical.byContradiction fun z => h fun i hi => ?_
      refine Classical.byContradiction fun y => z ⟨i, hi, by omega⟩
    · rintro ⟨i, hi, h⟩ z
      have := z i hi
      omega
  have a2 : mo w (l.take (l.length - 1)) ≤ q ↔ ∀ i, i < l.length - 1 → (row w l i : Int) ≤ q := by
    rw [mo_le _ _ _ hq, aw_iff]
    have e : (l.take (l.length - 1)).length = l.length - 1 := by rw [List.length_take]; omega
    rw [e]
    constructor
    · intro h i hi
      have := h i hi
      rw [row_take _ _ _ _ hi (by omega)] at this
      exact this
    · intro h i hi
      rw [row_take _ _ _ _ hi (by omega)]
      exact h i hi
  rw [a1, a2]
  unfold fb
  rw [List.find?_range_eq_some]
  constructor
  · rintro ⟨h1, h2, h3⟩
    refine ⟨⟨l.length - 1, by omega, by simpa using h1⟩, fun i hi => ?_⟩
    have := h3 i hi
    simp at this
    omega
  · rintro ⟨⟨i, hi, h1⟩, h2⟩
    have hil : i = l.length - 1 := by
      refine Classical.byContradiction fun z => ?_
      have := h2 i (by omega)
      omega
    subst hil
    refine ⟨by simpa using h1, List.mem_range.mpr (by omega), fun j hj => ?_⟩
    have := h2 j hj
    simp
    omega
section
variable {a2 a9 a10 a11 a12 a13 a14 a15 a16 a17 a18 a19 a20 a21 a22 a23 a24 : Sl} {ns : List Int} {m t q w k n : Int} {l : List Int}
theorem st28 (D' : Dr m t q w) : x_law_28 (E ns m t q w l a2 a9 a10 a11 a12 a13 a14 a15 a16 a17 a18 a19 a20 a21 a22 a23 a24) (A ns k) = .nx (E ns m t q w l a2 a9 a10 a11 a12 a13 a14 a15 a16 (.val (jd q w m t)) a18 a19 a20 a21 a22 a23 a24) (A ns k) := by
  have e := judge_ok D'.bnd (A ns k)
  unfold x_law_28
  simp [e]
theorem st32 (D' : Dr m t q w) (h : okF 0 l) (h8 : l.length ≤ 8) : x_law_32 (E ns m t q w l a2 a9 a10 a11 a12 a13 a14 a15 a16 a17 a18 a19 a20 a21 a22 a23 a24) (A ns k) = .nx (E ns m t q w l a2 a9 a10 a11 a12 a13 a14 a15 a16 a17 a18 a19 a20 a21 a22 a23 a24) (A ns k) := by
  have e1 := make_pa l (A ns k)
  have m1 : eMake "Passed" m_Passed___init__ (aCons (eVar 8) aNil) (E ns m t q w l a2 a9 a10 a11 a12 a13 a14 a15 a16 a17 a18 a19 a20 a21 a22 a23 a24) (A ns k) = .ok (PA l) (A ns k) := (eMake_of (ds := [.lst (I l)]) rfl).trans e1
  have e2' := shows_gen D'.bnd l (A ns k) h (by omega)
  have m2 : eMethU [("Passed", m_Passed_shows)] "shows" (eMake "Passed" m_Passed___init__ (aCons (eVar 8) aNil)) (aCons (eVar 5) (aCons (eVar 6) (aCons (eVar 7) aNil))) (E ns m t q w l a2 a9 a10 a11 a12 a13 a14 a15 a16 a17 a18 a19 a20 a21 a22 a23 a24) (A ns k) = .ok (.bl (aw m t l && decide (l ≠ [] ∧ fb q w l = some (l.length - 1)))) (A ns k) :=
    (v_meth (f := m_Passed_shows) (ds := [.int q, .int w, FA m t]) m1 (inst_p l _) (by kernel_rfl) (no_p l) rfl).trans e2'
  have e3 := passed_ok q w m t l D'.m0 (by omega) (A ns k)
  have m3 : eCall m__law_passed (aCons (eVar 5) (aCons (eVar 6) (aCons (eVar 3) (aCons (eVar 4) (aCons (eVar 8) aNil))))) (E ns m t q w l a2 a9 a10 a11 a12 a13 a14 a15 a16 a17 a18 a19 a20 a21 a22 a23 a24) (A ns k) = _ := (v_call (ds := [.int q, .int w, .int m, .int t, .lst (I l)]) rfl).trans e3
  have same : (aw m t l && decide (l ≠ [] ∧ fb q w l = some (l.length - 1))) = (!decide (l = []) && (aw m t l && (decide (q < mo w l) && decide (mo w (l.take (l.length - 1)) ≤ q)))) := by
    by_cases hn : l = []
    · simp [hn]
    · have := fb_last q w l D'.q0 hn
      cases aw m t l with
      | false => simp
      | true => simp [hn, this, Bool.decide_and]
  rw [← same] at m3
  unfold x_law_32
  exact v_ifF (v_tB ((v_e2 m2 m3).trans (by simp)))
theorem st30 (D' : Dr m t q w) : x_law_30 (E ns m t q w l a2 a9 a10 a11 a12 a13 a14 (.val (.lst (I (rw' m t 60)))) (.val (.int (mw m t w))) (.val (jd q w m t)) a18 a19 a20 a21 a22 a23 a24) (A ns k) = .nx (E ns m t q w l a2 a9 a10 a11 a12 a13 a14 (.val (.lst (I (rw' m t 60)))) (.val (.int (mw m t w))) (.val (jd q w m t)) a18 a19 a20 a21 a22 a23 a24) (A ns k) := by
  have B := D'.bnd
  -- what the law makes itself
  have b1 : eMake "Bears" m_Bears___init__ (aCons (eVar 16) aNil) (E ns m t q w l a2 a9 a10 a11 a12 a13 a14 (.val (.lst (I (rw' m t 60)))) (.val (.int (mw m t w))) (.val (jd q w m t)) a18 a19 a20 a21 a22 a23 a24) (A ns k) = .ok (BE (mw m t w)) (A ns k) := (eMake_of (ds := [.int (mw m t w)]) rfl).trans (make_be _ _)
  have p4 : eMethU [("Bears", m_Bears_shows)] "shows" (eMake "Bears" m_Bears___init__ (aCons (eVar 16) aNil)) (aCons (eVar 5) (aCons (eVar 6) (aCons (eVar 7) aNil))) (E ns m t q w l a2 a9 a10 a11 a12 a13 a14 (.val (.lst (I (rw' m t 60)))) (.val (.int (mw m t w))) (.val (jd q w m t)) a18 a19 a20 a21 a22 a23 a24) (A ns k) = .ok (.bl (decide (mw m t w ≤ q))) (A ns k) :=
    (v_meth (f := m_Bears_shows) (ds := [.int q, .int w, FA m t]) b1 (inst_b _ _) (by kernel_rfl) (no_b _) rfl).trans (shows_b0 B _)
  have p5 : eMethU [("Passed", m_Passed_shows)] "shows" (eMake "Passed" m_Passed___init__ (aCons (eTup (aCons (eC .non) aNil)) aNil)) (aCons (eVar 5) (aCons (eVar 6) (aCons (eVar 7) aNil))) (E ns m t q w l a2 a9 a10 a11 a12 a13 a14 (.val (.lst (I (rw' m t 60)))) (.val (.int (mw m t w))) (.val (jd q w m t)) a18 a19 a20 a21 a22 a23 a24) (A ns k) = .ok (.bl false) (A ns k) :=
    (v_meth (f := m_Passed_shows) (ds := [.int q, .int w, FA m t]) ((eMake_of (ds := [.tup [.non]]) rfl).trans (make_pt [.non] rfl _)) rfl (by kernel_rfl) (by kernel_rfl) rfl).trans (shows_n B _)
  have p6 : eMethU [("Passed", m_Passed_shows)] "shows" (eMake "Passed" m_Passed___init__ (aCons (eTup aNil) aNil)) (aCons (eVar 5) (aCons (eVar 6) (aCons (eVar 7) aNil))) (E ns m t q w l a2 a9 a10 a11 a12 a13 a14 (.val (.lst (I (rw' m t 60)))) (.val (.int (mw m t w))) (.val (jd q w m t)) a18 a19 a20 a21 a22 a23 a24) (A ns k) = .ok (.bl false) (A ns k) := by
    have e := shows_gen B [] (A ns k) True.intro (by simp)
    simp at e
    exact (v_meth (f := m_Passed_shows) (ds := [.int q, .int w, FA m t]) ((eMake_of (ds := [.tup []]) rfl).trans (make_pt [] rfl _)) rfl (by kernel_rfl) (by kernel_rfl) rfl).trans e
  have tp : tB (e2 gLe (ePeek 16) (ePeek 5)) (E ns m t q w l a2 a9 a10 a11 a12 a13 a14 (.val (.lst (I (rw' m t 60)))) (.val (.int (mw m t w))) (.val (jd q w m t)) a18 a19 a20 a21 a22 a23 a24) (A ns k) = .ok (decide (mw m t w ≤ q)) (A ns k) := rfl
  suffices hh : eOwn (fun c => List.lookup c [("Bears", m_Bears___bool__), ("Passed", m_Passed___bool__)]) (eVar 17) (E ns m t q w l a2 a9 a10 a11 a12 a13 a14 (.val (.lst (I (rw' m t 60)))) (.val (.int (mw m t w))) (.val (jd q w m t)) a18 a19 a20 a21 a22 a23 a24) (A ns k) = .ok (.bl (decide (mw m t w ≤ q))) (A ns k) ∧ e2 (gNeI (fun c => List.lookup c [("Bears", m_Bears___eq__), ("Passed", m_Passed___eq__)]) ["Bears", "Passed"]) (eVar 17) (eIf (tB (e2 gLe (ePeek 16) (ePeek 5))) (eMake "Bears" m_Bears___init__ (aCons (eVar 16) aNil)) (eMake "Passed" m_Passed___init__ (aCons (eCutL (ePeek 15) oNone (oSome (e2 gAddI (ePeek 5) (eC (.int 1))))) aNil))) (E ns m t q w l a2 a9 a10 a11 a12 a13 a14 (.val (.lst (I (rw' m t 60)))) (.val (.int (mw m t w))) (.val (jd q w m t)) a18 a19 a20 a21 a22 a23 a24) (A ns k) = .ok (.bl false) (A ns k) ∧ eMethU [("Bears", m_Bears_shows), ("Passed", m_Passed_shows)] "shows" (eVar 17) (aCons (eVar 5) (aCons (eVar 6) (aCons (eVar 7) aNil))) (E ns m t q w l a2 a9 a10 a11 a12 a13 a14 (.val (.lst (I (rw' m t 60)))) (.val (.int (mw m t w))) (.val (jd q w m t)) a18 a19 a20 a21 a22 a23 a24) (A ns k) = .ok (.bl true) (A ns k) by
    obtain ⟨o1, o2, o3⟩ := hh
    have t1 := v_tB ((v_e2 (g := gNe) (y := .bl (decide (mw m t w ≤ q))) (mb := e2 gLe (ePeek 16) (ePeek 5)) o1 rfl).trans (ne_self rfl))
    have t3 := v_tNot (t := tTr (eMethU [("Bears", m_Bears_shows), ("Passed", m_Passed_shows)] "shows" (eVar 17) (aCons (eVar 5) (aCons (eVar 6) (aCons (eVar 7) aNil))))) (b := true) (st1 := A ns k) (by rw [r_tTr, o3]; rfl)
    have t4 := v_tB ((v_e2 (g := gNe) (y := .bl (decide (mw m t w ≤ q))) (mb := e2 gLe (ePeek 16) (ePeek 5)) p4 rfl).trans (ne_self rfl))
    have t5 : tTr _ _ _ = RC.ok false (A ns k) := (congrArg (fun r : RC D => r.bind fun d st1 => match truth d with
      | some b => RC.ok b st1
      | none => .bad) p5)
    have t6 : tTr _ _ _ = RC.ok false (A ns k) := (congrArg (fun r : RC D => r.bind fun d st1 => match truth d with
      | some b => RC.ok b st1
      | none => .bad) p6)
    unfold x_law_30
    exact v_ifF ((v_orF t1).trans ((v_orF (v_tB o2)).trans ((v_orF t3).trans ((v_orF t4).trans ((v_orF t5).trans t6)))))
  by_cases h : mw m t w ≤ q
  · have o1 : eOwn (fun c => List.lookup c [("Bears", m_Bears___bool__), ("Passed", m_Passed___bool__)]) (eVar 17) (E ns m t q w l a2 a9 a10 a11 a12 a13 a14 (.val (.lst (I (rw' m t 60)))) (.val (.int (mw m t w))) (.val (jd q w m t)) a18 a19 a20 a21 a22 a23 a24) (A ns k) = .ok (.bl true) (A ns k) := by
      rw [r_eOwn, r_var]
      show (RC.ok (jd q w m t) (A ns k)).bind _ = _
      rw [jd_b h, RC.bind_ok, bool_b]
      rfl
    have o2 : e2 (gNeI (fun c => List.lookup c [("Bears", m_Bears___eq__), ("Passed", m_Passed___eq__)]) ["Bears", "Passed"]) (eVar 17) (eIf (tB (e2 gLe (ePeek 16) (ePeek 5))) (eMake "Bears" m_Bears___init__ (aCons (eVar 16) aNil)) (eMake "Passed" m_Passed___init__ (aCons (eCutL (ePeek 15) oNone (oSome (e2 gAddI (ePeek 5) (eC (.int 1))))) aNil))) (E ns m t q w l a2 a9 a10 a11 a12 a13 a14 (.val (.lst (I (rw' m t 60)))) (.val (.int (mw m t w))) (.val (jd q w m t)) a18 a19 a20 a21 a22 a23 a24) (A ns k) = .ok (.bl false) (A ns k) := by
      have z : eIf (tB (e2 gLe (ePeek 16) (ePeek 5))) (eMake "Bears" m_Bears___init__ (aCons (eVar 16) aNil)) (eMake "Passed" m_Passed___init__ (aCons (eCutL (ePeek 15) oNone (oSome (e2 gAddI (ePeek 5) (eC (.int 1))))) aNil)) (E ns m t q w l a2 a9 a10 a11 a12 a13 a14 (.val (.lst (I (rw' m t 60)))) (.val (.int (mw m t w))) (.val (jd q w m t)) a18 a19 a20 a21 a22 a23 a24) (A ns k) = .ok (BE (mw m t w)) (A ns k) := by
        rw [r_eIf, tp, RC.bind_ok, if_pos (by simpa using h), b1]
      refine (v_e2 (x := jd q w m t) rfl z).trans ?_
      rw [jd_b h]
      unfold gNeI
      rw [if_pos (by kernel_rfl)]
      simp [askB, instOf, look_b, eq_bb, noX]
    have o3 : eMethU [("Bears", m_Bears_shows), ("Passed", m_Passed_shows)] "shows" (eVar 17) (aCons (eVar 5) (aCons (eVar 6) (aCons (eVar 7) aNil))) (E ns m t q w l a2 a9 a10 a11 a12 a13 a14 (.val (.lst (I (rw' m t 60)))) (.val (.int (mw m t w))) (.val (jd q w m t)) a18 a19 a20 a21 a22 a23 a24) (A ns k) = .ok (.bl true) (A ns k) := by
      have e := shows_b B (A ns k) h
      refine (v_meth (f := m_Bears_shows) (x := BE (mw m t w)) (ds := [.int q, .int w, FA m t]) ?_ (inst_b _ _) (look_b _ _) (no_b _) rfl).trans e
      show RC.ok (jd q w m t) (A ns k) = _
      rw [jd_b h]
    rw [decide_eq_true h]
    exact ⟨o1, o2, o3⟩
  · have hm : 0 < m := by
      refine Classical.byContradiction fun z => h ?_
      have : m = 0 := by have := D'.m0; omega
      subst this
      unfold mw
      rw [Int.mul_zero]
      exact D'.q0
    have S' := ps_of D'.m0 ⟨D'.t0, by have := D'.t1; omega⟩ ⟨D'.q0, by have := D'.q1; omega⟩ h
    have hs : son m t (q + 1).toNat ≠ [] := fun h => by
      have := S'.len
      rw [h] at this
      simp at this
      have := D'.q0
      omega
    have o1 : eOwn (fun c => List.lookup c [("Bears", m_Bears___bool__), ("Passed", m_Passed___bool__)]) (eVar 17) (E ns m t q w l a2 a9 a10 a11 a12 a13 a14 (.val (.lst (I (rw' m t 60)))) (.val (.int (mw m t w))) (.val (jd q w m t)) a18 a19 a20 a21 a22 a23 a24) (A ns k) = .ok (.bl false) (A ns k) := by
      rw [r_eOwn, r_var]
      show (RC.ok (jd q w m t) (A ns k)).bind _ = _
      rw [jd_p h, RC.bind_ok, bool_p]
      rfl
    have o2 : e2 (gNeI (fun c => List.lookup c [("Bears", m_Bears___eq__), ("Passed", m_Passed___eq__)]) ["Bears", "Passed"]) (eVar 17) (eIf (tB (e2 gLe (ePeek 16) (ePeek 5))) (eMake "Bears" m_Bears___init__ (aCons (eVar 16) aNil)) (eMake "Passed" m_Passed___init__ (aCons (eCutL (ePeek 15) oNone (oSome (e2 gAddI (ePeek 5) (eC (.int 1))))) aNil))) (E ns m t q w l a2 a9 a10 a11 a12 a13 a14 (.val (.lst (I (rw' m t 60)))) (.val (.int (mw m t w))) (.val (jd q w m t)) a18 a19 a20 a21 a22 a23 a24) (A ns k) = .ok (.bl false) (A ns k) := by
      have cut : eCutL (ePeek 15) oNone (oSome (e2 gAddI (ePeek 5) (eC (.int 1)))) (E ns m t q w l a2 a9 a10 a11 a12 a13 a14 (.val (.lst (I (rw' m t 60)))) (.val (.int (mw m t w))) (.val (jd q w m t)) a18 a19 a20 a21 a22 a23 a24) (A ns k) = .ok (.lst (I (son m t (q + 1).toNat))) (A ns k) := by
        have hq0 := D'.q0
        have hq1 := D'.q1
        have c := cut_to (son m t 60) q.toNat (by rw [son_len]; omega)
        rw [show ((q.toNat : Nat) : Int) + 1 = q + 1 by omega, son_take _ _ _ _ (by omega), show q.toNat + 1 = (q + 1).toNat by omega] at c
        show RC.ok (D.lst (Gh.cutD (I (rw' m t 60)) none (some (q + 1)))) (A ns k) = _
        rw [show rw' m t 60 = son m t 60 by unfold rw'; rw [if_pos hm], c]
      have mk : eMake "Passed" m_Passed___init__ (aCons (eCutL (ePeek 15) oNone (oSome (e2 gAddI (ePeek 5) (eC (.int 1))))) aNil) (E ns m t q w l a2 a9 a10 a11 a12 a13 a14 (.val (.lst (I (rw' m t 60)))) (.val (.int (mw m t w))) (.val (jd q w m t)) a18 a19 a20 a21 a22 a23 a24) (A ns k) = .ok (PA (son m t (q + 1).toNat)) (A ns k) := (eMake_of (v_cons cut rfl)).trans (make_pa _ _)
      have z : eIf (tB (e2 gLe (ePeek 16) (ePeek 5))) (eMake "Bears" m_Bears___init__ (aCons (eVar 16) aNil)) (eMake "Passed" m_Passed___init__ (aCons (eCutL (ePeek 15) oNone (oSome (e2 gAddI (ePeek 5) (eC (.int 1))))) aNil)) (E ns m t q w l a2 a9 a10 a11 a12 a13 a14 (.val (.lst (I (rw' m t 60)))) (.val (.int (mw m t w))) (.val (jd q w m t)) a18 a19 a20 a21 a22 a23 a24) (A ns k) = .ok (PA (son m t (q + 1).toNat)) (A ns k) := by
        rw [r_eIf, tp, RC.bind_ok, if_neg (by simpa using h), mk]
      refine (v_e2 (x := jd q w m t) rfl z).trans ?_
      rw [jd_p h]
      unfold gNeI
      rw [if_pos (by kernel_rfl)]
      simp [askB, instOf, look_p, eq_pp, noX]
    have o3 : eMethU [("Bears", m_Bears_shows), ("Passed", m_Passed_shows)] "shows" (eVar 17) (aCons (eVar 5) (aCons (eVar 6) (aCons (eVar 7) aNil))) (E ns m t q w l a2 a9 a10 a11 a12 a13 a14 (.val (.lst (I (rw' m t 60)))) (.val (.int (mw m t w))) (.val (jd q w m t)) a18 a19 a20 a21 a22 a23 a24) (A ns k) = .ok (.bl true) (A ns k) := by
      have e := shows_p B (son m t (q + 1).toNat) (A ns k) S'.ok (by have := S'.len; have := D'.q1; omega) S'.aw S'.fb hs
      refine (v_meth (f := m_Passed_shows) (x := PA (son m t (q + 1).toNat)) (ds := [.int q, .int w, FA m t]) ?_ (inst_p _ _) (look_p _ _) (no_p _) rfl).trans e
      show RC.ok (jd q w m t) (A ns k) = _
      rw [jd_p h]
    rw [decide_eq_false h]
    exact ⟨o1, o2, o3⟩
end
end Lw
namespace Lw
open Gh L2 PyProof.Rows PySem.Spec PySem
/-- the ticks that the law finds good -/
def gd (q m t : Int) : List Int := ((List.range 99).filter fun i => decide ((((rw' m t 60 ++ [999]).filter fun z => decide (z < 1 + (i : Int))).length : Int) ≤ q)).map fun (i : Nat) => 1 + (i : Int)
section
variable {a2 a9 a10 a11 a12 a13 a14 a15 a16 a17 a18 a19 a20 a21 a22 a23 a24 : Sl} {ns : List Int} {m t q w k n : Int} {l : List Int}
theorem st35 (D' : Dr m t q w) : x_law_35 (E ns m t q w l a2 a9 a10 a11 a12 a13 a14 (.val (.lst (I (rw' m t 60)))) a16 a17 a18 a19 a20 a21 a22 a23 a24) (A ns k) = .nx (E ns m t q w l a2 a9 a10 a11 a12 a13 a14 (.val (.lst (I (rw' m t 60)))) a16 a17 (.val (.lst (I (gd q m t)))) a19 a20 a21 a22 a23 a24) (A ns k) := by
  have hl := rw_len m t 60
  have e := eComp_map (mi := lRange2 (aCons (eC (.int 1)) (aCons (eC (.int 100)) aNil))) (ρ := E ns m t q w l a2 a9 a10 a11 a12 a13 a14 (.val (.lst (I (rw' m t 60)))) a16 a17 a18 a19 a20 a21 a22 a23 a24) (st := A ns k) (bd := bName 23) (t := ct_law_6) (me := eVar 23) (vs := [23]) (fun (i : Nat) => D.int (1 + (i : Int))) (fun (i : Nat) => D.int (1 + (i : Int)))
    (fun i => decide ((((rw' m t 60 ++ [999]).filter fun z => decide (z < 1 + (i : Int))).length : Int) ≤ q)) (List.range 99) (by rfl) (by rw [List.length_range]; omega) fun i hi => ⟨_, rfl, by
    rw [u_ct_law_6]
    have g : ∀ st, gAdd (.lst (I (rw' m t 60))) (.lst [.int 999]) st = .ok (.lst ((rw' m t 60 ++ [999]).map D.int)) st := fun st => by
      rw [add_lst (by rw [I_len]; simp; omega), List.map_append]
      rfl
    have c : (lSeq (e2 gAdd (ePeek 15) (eLst (aCons (eC (.int 999)) aNil)))) ((wipeR (E ns m t q w l a2 a9 a10 a11 a12 a13 a14 (.val (.lst (I (rw' m t 60)))) a16 a17 a18 a19 a20 a21 a22 a23 a24) [23]).set 23 (.val (.int (1 + (i : Int))))) (A ns k) = .ok ((rw' m t 60 ++ [999]).map D.int) (A ns k) := by
      rw [r_lSeq, (v_e2 (g := gAdd) (ma := ePeek 15) (mb := eLst (aCons (eC (.int 999)) aNil)) (x := .lst (I (rw' m t 60))) (y := .lst [.int 999]) (st1 := A ns k) (st2 := A ns k) rfl rfl).trans (g _)]
      rfl
    have e2' := eComp_map (bd := bName 24) (t := ct_law_5) (me := eVar 24) (vs := [24]) D.int D.int (fun z => decide (z < 1 + (i : Int))) (rw' m t 60 ++ [999]) c (by rw [List.length_append]; simp; omega) fun z _ => ⟨_, rfl, by rw [u_ct_law_5]; simp [wipeR], fun _ => ⟨rfl, rfl⟩⟩
    exact v_tB ((v_e2 (g := gLe) (y := .int q) (v_eN1 (g := gLen) e2') rfl).trans (by rw [List.length_map]; rfl)), fun _ => ⟨rfl, rfl⟩⟩
  unfold x_law_35
  rw [r_val, r_asgO, e]
  have : ((List.range 99).filter fun i => decide ((((rw' m t 60 ++ [999]).filter fun z => decide (z < 1 + (i : Int))).length : Int) ≤ q)).map (fun (i : Nat) => D.int (1 + (i : Int))) = I (gd q m t) := by
    unfold gd I
    rw [List.map_map]
    rfl
  rw [this]
  rfl
theorem gd_good (D' : Dr m t q w) (h1 : 50 < ((rw' m t 60).length : Int)) (h2 : 99 < at0 (rw' m t 60) ((rw' m t 60).length - 1)) : gd q m t = (good m t q).map fun (i : Nat) => 1 + (i : Int) := by
  have hm : 0 < m := by
    refine Classical.byContradiction fun z => ?_
    unfold rw' at h1
    rw [if_neg z] at h1
    simp at h1
  have hr : rw' m t 60 = son m t 60 := by unfold rw'; rw [if_pos hm]
  have ht : 0 < t := by have := D'.t0; omega
  rw [hr, son_len, son_at m t 60 59 (by omega)] at h2
  unfold gd good
  congr 1
  refine List.filter_congr fun i hi => ?_
  have hi : i < 99 := List.mem_range.mp hi
  have hx : 0 ≤ 1 + (i : Int) := by omega
  have hu : up t (1 + (i : Int)) ≤ ((59 : Nat) : Int) / m := by
    rw [← Int.not_lt, up_lt ht]
    omega
  have hb : mw m t (1 + (i : Int)) ≤ ((60 : Nat) : Int) := by
    rw [mw_up]
    have h3 := Int.mul_le_mul_of_nonneg_right hu (Int.le_of_lt hm)
    have h4 := Int.ediv_mul_le ((59 : Nat) : Int) (show m ≠ 0 by omega)
    omega
  have e := cnt_lt D' (1 + (i : Int)) 60 hx hb
  have e3 : ((rw' m t 60 ++ [999]).filter fun z => decide (z < 1 + (i : Int))) = (rw' m t 60).filter fun z => decide (z < 1 + (i : Int)) := by
    rw [List.filter_append]
    have : ([(999 : Int)].filter fun z => decide (z < 1 + (i : Int))) = [] := by
      rw [List.filter_cons, if_neg (by simp; omega)]
      rfl
    rw [this, List.append_nil]
  rw [e3, e]
theorem st37 (D' : Dr m t q w) : x_law_37 (E ns m t q w l a2 a9 a10 a11 a12 a13 a14 (.val (.lst (I (rw' m t 60)))) a16 a17 (.val (.lst (I (gd q m t)))) a19 a20 a21 a22 a23 a24) (A ns k) = .nx (E ns m t q w l a2 a9 a10 a11 a12 a13 a14 (.val (.lst (I (rw' m t 60)))) a16 a17 (.val (.lst (I (gd q m t)))) a19 a20 a21 a22 a23 a24) (A ns k) := by
  have w1 := greatest_ok m t q ⟨D'.m0, by have := D'.m1; omega⟩ ⟨D'.t0, by have := D'.t1; omega⟩ ⟨D'.q0, by have := D'.q1; omega⟩ (A ns k)
  have m1 : eCall m_greatest_ticks (aCons (eVar 5) (aCons (eVar 7) aNil)) (E ns m t q w l a2 a9 a10 a11 a12 a13 a14 (.val (.lst (I (rw' m t 60)))) a16 a17 (.val (.lst (I (gd q m t)))) a19 a20 a21 a22 a23 a24) (A ns k) = .ok (.int (gtD m t q)) (A ns k) := (v_call (ds := [.int q, FA m t]) rfl).trans w1
  obtain ⟨g, hg⟩ : ∃ g : Int, g = if gd q m t = [] then 0 else at0 (gd q m t) ((gd q m t).length - 1) := ⟨_, rfl⟩
  have m2 : eIf (tB (e2 gNe (ePeek 18) (eLst aNil))) (e2 gIx (ePeek 18) (e1 gNeg (eC (.int 1)))) (eC (.int 0)) (E ns m t q w l a2 a9 a10 a11 a12 a13 a14 (.val (.lst (I (rw' m t 60)))) a16 a17 (.val (.lst (I (gd q m t)))) a19 a20 a21 a22 a23 a24) (A ns k) = .ok (.int g) (A ns k) := by
    have n1 : ∀ st, gNe (.lst (I (gd q m t))) (.lst []) st = .ok (.bl (!decide (gd q m t = []))) st := fun st => ne_ll _ [] st
    rw [r_eIf, v_tB ((v_e2 (g := gNe) (x := .lst (I (gd q m t))) (y := .lst []) rfl rfl).trans (n1 _)), RC.bind_ok]
    by_cases h : gd q m t = []
    · rw [hg, if_pos h]
      simp [h]
    · rw [hg, if_neg h]
      simp only [h, decide_false, Bool.not_false, if_true]
      exact (v_e2 (g := gIx) (x := .lst (I (gd q m t))) (y := .int (-1)) rfl rfl).trans (ix_last _ h _)
  have a1 : e2 gNe (eCall m_greatest_ticks (aCons (eVar 5) (aCons (eVar 7) aNil))) (eIf (tB (e2 gNe (ePeek 18) (eLst aNil))) (e2 gIx (ePeek 18) (e1 gNeg (eC (.int 1)))) (eC (.int 0))) (E ns m t q w l a2 a9 a10 a11 a12 a13 a14 (.val (.lst (I (rw' m t 60)))) a16 a17 (.val (.lst (I (gd q m t)))) a19 a20 a21 a22 a23 a24) (A ns k) = .ok (.bl (!decide (gtD m t q = g))) (A ns k) := (v_e2 m1 m2).trans rfl
  unfold x_law_37
  by_cases hq : gtD m t q = g
  · refine v_ifF (v_andF (v_tB (a1.trans ?_)))
    rw [decide_eq_true hq]
    rfl
  · have a1' := a1
    rw [decide_eq_false hq] at a1'
    have b1 : tB (e2 gGt (eN gLen (aCons (ePeek 15) aNil)) (eC (.int 50))) (E ns m t q w l a2 a9 a10 a11 a12 a13 a14 (.val (.lst (I (rw' m t 60)))) a16 a17 (.val (.lst (I (gd q m t)))) a19 a20 a21 a22 a23 a24) (A ns k) = .ok (decide (50 < ((rw' m t 60).length : Int))) (A ns k) := by
      refine v_tB ((v_e2 (g := gGt) (y := .int 50) (v_eN1 (g := gLen) (x := .lst (I (rw' m t 60))) rfl) rfl).trans ?_)
      rw [I_len]
      rfl
    refine v_ifF ((v_andT (v_tB a1')).trans ?_)
    by_cases h1 : 50 < ((rw' m t 60).length : Int)
    · rw [decide_eq_true h1] at b1
      refine (v_andT b1).trans ?_
      have hne : rw' m t 60 ≠ [] := fun z => by rw [z] at h1; simp at h1
      have i1 := ix_last _ hne (A ns k)
      refine v_tB ((v_e2 (g := gGt) (y := .int 99) ((v_e2 (g := gIx) (x := .lst (I (rw' m t 60))) (y := .int (-1)) rfl rfl).trans i1) rfl).trans ?_)
      have : ¬ 99 < at0 (rw' m t 60) ((rw' m t 60).length - 1) := fun h2 => hq (by
        have e := gd_good D' h1 h2
        rw [hg, e]
        unfold gtD
        by_cases z : good m t q = []
        · rw [if_pos z, z]
          rfl
        · have z' : (good m t q).map (fun (i : Nat) => 1 + (i : Int)) ≠ [] := by simpa using z
          rw [if_neg z, if_neg z', List.length_map]
          have hp := List.length_pos_iff.mpr z
          have hlt : (good m t q).length - 1 < (good m t q).length := by omega
          unfold at0
          simp [List.getD, List.getElem?_map, List.getElem?_eq_getElem hlt])
      rw [r_gGt, decide_eq_false this]
    · rw [decide_eq_false h1] at b1
      exact v_andF b1
end
/-! ### turns -/
theorem turn {a2 a3 a4 a5 a6 a7 a8 a9 a10 a11 a12 a13 a14 a15 a16 a17 a18 a19 a20 a21 a22 a23 a24 : Sl} (ns : List Int) (hl : ns.length ≤ 63) (k : Int) (hk : 0 ≤ k) : ∃ (m t q w k' : Int) (l : List Int) (b9 b10 b11 b12 b13 b14 b15 b16 b17 b18 b19 b20 b21 b22 b23 b24 : Sl), Dr m t q w ∧ 0 ≤ k' ∧ lb_law_7 [.val (.scr (I ns)), .val (.loc 0), a2, a3, a4, a5, a6, a7, a8, a9, a10, a11, a12, a13, a14, a15, a16, a17, a18, a19, a20, a21, a22, a23, a24] (A ns k) = .nx (E ns m t q w l a2 b9 b10 b11 b12 b13 b14 b15 b16 b17 b18 b19 b20 b21 b22 b23 b24) (A ns k') := by
  obtain ⟨m, t, q, w, k1, D', h1, e1⟩ := st1 (a2 := a2) (a3 := a3) (a4 := a4) (a5 := a5) (a6 := a6) (a7 := a7) (a8 := a8) (a9 := a9) (a10 := a10) (a11 := a11) (a12 := a12) (a13 := a13) (a14 := a14) (a15 := a15) (a16 := a16) (a17 := a17) (a18 := a18) (a19 := a19) (a20 := a20) (a21 := a21) (a22 := a22) (a23 := a23) (a24 := a24) ns hl k hk
  obtain ⟨l, k2, h2, hok, h8, e2⟩ := st2 (a2 := a2) (a7 := a7) (a8 := a8) (a9 := a9) (a10 := a10) (a11 := a11) (a12 := a12) (a13 := a13) (a14 := a14) (a15 := a15) (a16 := a16) (a17 := a17) (a18 := a18) (a19 := a19) (a20 := a20) (a21 := a21) (a22 := a22) (a23 := a23) (a24 := a24) (k := k1) D' hl h1
  have e4 := st4 (a2 := a2) (a9 := a9) (a10 := a10) (a11 := a11) (a12 := a12) (a13 := a13) (a14 := a14) (a15 := a15) (a16 := a16) (a17 := a17) (a18 := a18) (a19 := a19) (a20 := a20) (a21 := a21) (a22 := a22) (a23 := a23) (a24 := a24) (ns := ns) (k := k2) D' hok h8
  have e7 := st7 (a2 := a2) (a9 := a9) (a10 := a10) (a11 := a11) (a12 := a12) (a13 := a13) (a14 := a14) (a15 := a15) (a16 := a16) (a17 := a17) (a18 := a18) (a19 := a19) (a20 := a20) (a21 := a21) (a22 := a22) (a23 := a23) (a24 := a24) (ns := ns) (m := m) (t := t) (q := q) (w := w) (k := k2) h8
  have e9 := st9 (a2 := a2) (a10 := a10) (a11 := a11) (a12 := a12) (a13 := a13) (a14 := a14) (a15 := a15) (a16 := a16) (a17 := a17) (a18 := a18) (a19 := a19) (a20 := a20) (a21 := a21) (a22 := a22) (a23 := a23) (a24 := a24) (ns := ns) (k := k2) D' hok h8
  obtain ⟨n, n0, n1, e10⟩ := st10 (a2 := a2) (a9 := .val (.lst (I (bey q w l)))) (a10 := a10) (a11 := a11) (a12 := a12) (a13 := a13) (a14 := a14) (a15 := a15) (a16 := a16) (a17 := a17) (a18 := a18) (a19 := a19) (a20 := a20) (a21 := a21) (a22 := a22) (a23 := a23) (a24 := a24) (ns := ns) (m := m) (t := t) (q := q) (w := w) (k := k2) (l := l) hl h2
  obtain ⟨c12, e13⟩ := st13 (a2 := a2) (a9 := .val (.lst (I (bey q w l)))) (a12 := a12) (a13 := a13) (a14 := a14) (a15 := a15) (a16 := a16) (a17 := a17) (a18 := a18) (a19 := a19) (a20 := a20) (a21 := a21) (a22 := a22) (a23 := a23) (a24 := a24) (ns := ns) (k := k2 + 1) (l := l) D' n0 n1
  have e15 := st15 (a2 := a2) (a9 := .val (.lst (I (bey q w l)))) (a12 := c12) (a13 := a13) (a14 := a14) (a15 := a15) (a16 := a16) (a17 := a17) (a18 := a18) (a19 := a19) (a20 := a20) (a21 := a21) (a22 := a22) (a23 := a23) (a24 := a24) (ns := ns) (k := k2 + 1) (l := l) D' n0 n1
  have e16 := st16 (a2 := a2) (a9 := .val (.lst (I (bey q w l)))) (a12 := c12) (a13 := a13) (a14 := a14) (a15 := a15) (a16 := a16) (a17 := a17) (a18 := a18) (a19 := a19) (a20 := a20) (a21 := a21) (a22 := a22) (a23 := a23) (a24 := a24) (ns := ns) (k := k2 + 1) (l := l) D' n0 n1
  have e17 := st17 (a2 := a2) (a9 := .val (.lst (I (bey q w l)))) (a11 := .val (.lst (I (rw' m t n.toNat)))) (a12 := c12) (a13 := .val (sonD m t n)) (a14 := a14) (a15 := a15) (a16 := a16) (a17 := a17) (a18 := a18) (a19 := a19) (a20 := a20) (a21 := a21) (a22 := a22) (a23 := a23) (a24 := a24) (ns := ns) (k := k2 + 1) (l := l) D' n0 n1
  have e19 := st19 (a2 := a2) (a9 := .val (.lst (I (bey q w l)))) (a11 := .val (.lst (I (rw' m t n.toNat)))) (a12 := c12) (a15 := a15) (a16 := a16) (a17 := a17) (a18 := a18) (a19 := a19) (a20 := a20) (a21 := a21) (a22 := a22) (a23 := a23) (a24 := a24) (ns := ns) (k := k2 + 1) (l := l) D' n0 n1
  have e20 := st20 (a2 := a2) (a9 := .val (.lst (I (bey q w l)))) (a10 := .val (.int n)) (a11 := .val (.lst (I (rw' m t n.toNat)))) (a12 := c12) (a13 := .val (sonD m t n)) (a14 := .val (sonD m t n)) (a15 := a15) (a16 := a16) (a17 := a17) (a18 := a18) (a19 := a19) (a20 := a20) (a21 := a21) (a22 := a22) (a23 := a23) (a24 := a24) (ns := ns) (m := m) (t := t) (q := q) (w := w) (k := k2 + 1) (l := l)
  obtain ⟨d12, e23⟩ := st23 (a2 := a2) (a9 := .val (.lst (I (bey q w l)))) (a10 := .val (.int n)) (a11 := .val (.lst (I (rw' m t n.toNat)))) (a12 := c12) (a13 := .val (sonD m t n)) (a14 := .val (sonD m t n)) (a16 := a16) (a17 := a17) (a18 := a18) (a19 := a19) (a20 := a20) (a21 := a21) (a22 := a22) (a23 := a23) (a24 := a24) (ns := ns) (k := k2 + 1) (l := l) D'
  have e25 := st25 (a2 := a2) (a9 := .val (.lst (I (bey q w l)))) (a10 := .val (.int n)) (a11 := .val (.lst (I (rw' m t n.toNat)))) (a12 := d12) (a13 := .val (sonD m t n)) (a14 := .val (sonD m t n)) (a16 := a16) (a17 := a17) (a18 := a18) (a19 := a19) (a20 := a20) (a21 := a21) (a22 := a22) (a23 := a23) (a24 := a24) (ns := ns) (k := k2 + 1) (l := l) D'
  have e27 := st27 (a2 := a2) (a9 := .val (.lst (I (bey q w l)))) (a10 := .val (.int n)) (a11 := .val (.lst (I (rw' m t n.toNat)))) (a12 := d12) (a13 := .val (sonD m t n)) (a14 := .val (sonD m t n)) (a15 := .val (.lst (I (rw' m t 60)))) (a17 := a17) (a18 := a18) (a19 := a19) (a20 := a20) (a21 := a21) (a22 := a22) (a23 := a23) (a24 := a24) (ns := ns) (k := k2 + 1) (l := l) D'
  have e28 := st28 (a2 := a2) (a9 := .val (.lst (I (bey q w l)))) (a10 := .val (.int n)) (a11 := .val (.lst (I (rw' m t n.toNat)))) (a12 := d12) (a13 := .val (sonD m t n)) (a14 := .val (sonD m t n)) (a15 := .val (.lst (I (rw' m t 60)))) (a16 := .val (.int (mw m t w))) (a17 := a17) (a18 := a18) (a19 := a19) (a20 := a20) (a21 := a21) (a22 := a22) (a23 := a23) (a24 := a24) (ns := ns) (k := k2 + 1) (l := l) D'
  have e30 := st30 (a2 := a2) (a9 := .val (.lst (I (bey q w l)))) (a10 := .val (.int n)) (a11 := .val (.lst (I (rw' m t n.toNat)))) (a12 := d12) (a13 := .val (sonD m t n)) (a14 := .val (sonD m t n)) (a18 := a18) (a19 := a19) (a20 := a20) (a21 := a21) (a22 := a22) (a23 := a23) (a24 := a24) (ns := ns) (k := k2 + 1) (l := l) D'
  have e32 := st32 (a2 := a2) (a9 := .val (.lst (I (bey q w l)))) (a10 := .val (.int n)) (a11 := .val (.lst (I (rw' m t n.toNat)))) (a12 := d12) (a13 := .val (sonD m t n)) (a14 := .val (sonD m t n)) (a15 := .val (.lst (I (rw' m t 60)))) (a16 := .val (.int (mw m t w))) (a17 := .val (jd q w m t)) (a18 := a18) (a19 := a19) (a20 := a20) (a21 := a21) (a22 := a22) (a23 := a23) (a24 := a24) (ns := ns) (k := k2 + 1) D' hok h8
  have e35 := st35 (a2 := a2) (a9 := .val (.lst (I (bey q w l)))) (a10 := .val (.int n)) (a11 := .val (.lst (I (rw' m t n.toNat)))) (a12 := d12) (a13 := .val (sonD m t n)) (a14 := .val (sonD m t n)) (a16 := .val (.int (mw m t w))) (a17 := .val (jd q w m t)) (a18 := a18) (a19 := a19) (a20 := a20) (a21 := a21) (a22 := a22) (a23 := a23) (a24 := a24) (ns := ns) (k := k2 + 1) (l := l) D'
  have e37 := st37 (a2 := a2) (a9 := .val (.lst (I (bey q w l)))) (a10 := .val (.int n)) (a11 := .val (.lst (I (rw' m t n.toNat)))) (a12 := d12) (a13 := .val (sonD m t n)) (a14 := .val (sonD m t n)) (a16 := .val (.int (mw m t w))) (a17 := .val (jd q w m t)) (a19 := a19) (a20 := a20) (a21 := a21) (a22 := a22) (a23 := a23) (a24 := a24) (ns := ns) (k := k2 + 1) (l := l) D'
  refine ⟨m, t, q, w, k2 + 1, l, .val (.lst (I (bey q w l))), .val (.int n), .val (.lst (I (rw' m t n.toNat))), d12, .val (sonD m t n), .val (sonD m t n), .val (.lst (I (rw' m t 60))), .val (.int (mw m t w)), .val (jd q w m t), .val (.lst (I (gd q m t))), a19, a20, a21, a22, a23, a24, D', by omega, ?_⟩
  unfold lb_law_7
  rw [seq_nx e1, seq_nx e2, seq_nx e4, seq_nx e7, seq_nx e9, seq_nx e10, seq_nx e13, seq_nx e15, seq_nx e16, seq_nx e17, seq_nx e19, seq_nx e20, seq_nx e23, seq_nx e25, seq_nx e27, seq_nx e28, seq_nx e30, seq_nx e32, seq_nx e35]
  exact e37
theorem turns (ns : List Int) (hl : ns.length ≤ 63) : ∀ (ds : List D) (d : D) (a2 a3 a4 a5 a6 a7 a8 a9 a10 a11 a12 a13 a14 a15 a16 a17 a18 a19 a20 a21 a22 a23 a24 : Sl) (k : Int), 0 ≤ k → ∃ (m t q w k' : Int) (l : List Int) (b2 b9 b10 b11 b12 b13 b14 b15 b16 b17 b18 b19 b20 b21 b22 b23 b24 : Sl), forGo (bName 2) lb_law_7 (d :: ds) [.val (.scr (I ns)), .val (.loc 0), a2, a3, a4, a5, a6, a7, a8, a9, a10, a11, a12, a13, a14, a15, a16, a17, a18, a19, a20, a21, a22, a23, a24] (A ns k) = .nx (E ns m t q w l b2 b9 b10 b11 b12 b13 b14 b15 b16 b17 b18 b19 b20 b21 b22 b23 b24) (A ns k')
  | ds, d, a2, a3, a4, a5, a6, a7, a8, a9, a10, a11, a12, a13, a14, a15, a16, a17, a18, a19, a20, a21, a22, a23, a24, k, hk => by
    obtain ⟨m, t, q, w, k', l, b9, b10, b11, b12, b13, b14, b15, b16, b17, b18, b19, b20, b21, b22, b23, b24, D', h1, e⟩ := turn (a2 := .val d) (a3 := a3) (a4 := a4) (a5 := a5) (a6 := a6) (a7 := a7) (a8 := a8) (a9 := a9) (a10 := a10) (a11 := a11) (a12 := a12) (a13 := a13) (a14 := a14) (a15 := a15) (a16 := a16) (a17 := a17) (a18 := a18) (a19 := a19) (a20 := a20) (a21 := a21) (a22 := a22) (a23 := a23) (a24 := a24) ns hl k hk
    have go : forGo (bName 2) lb_law_7 (d :: ds) [.val (.scr (I ns)), .val (.loc 0), a2, a3, a4, a5, a6, a7, a8, a9, a10, a11, a12, a13, a14, a15, a16, a17, a18, a19, a20, a21, a22, a23, a24] (A ns k) = forGo (bName 2) lb_law_7 ds (E ns m t q w l (.val d) b9 b10 b11 b12 b13 b14 b15 b16 b17 b18 b19 b20 b21 b22 b23 b24) (A ns k') := by
      conv => lhs; unfold forGo
      show (match lb_law_7 [.val (.scr (I ns)), .val (.loc 0), .val d, a3, a4, a5, a6, a7, a8, a9, a10, a11, a12, a13, a14, a15, a16, a17, a18, a19, a20, a21, a22, a23, a24] (A ns k) with
        | .nx ρ2 st2 => forGo (bName 2) lb_law_7 ds ρ2 st2
        | .ct ρ2 st2 => forGo (bName 2) lb_law_7 ds ρ2 st2
        | .bk ρ2 st2 => .nx ρ2 st2
        | r => r) = _
      rw [e]
    rw [go]
    match ds with
    | [] => exact ⟨m, t, q, w, k', l, .val d, b9, b10, b11, b12, b13, b14, b15, b16, b17, b18, b19, b20, b21, b22, b23, b24, rfl⟩
    | d2 :: r => exact turns ns hl r d2 _ _ _ _ _ _ _ _ _ _ _ _ _ _ _ _ _ _ _ _ _ _ _ k' h1
theorem lams_ok (ns : List Int) (m t q w k : Int) (l : List Int) (a2 a9 a10 a11 a12 a13 a14 a15 a16 a17 a18 a19 a20 a21 a22 a23 a24 : Sl) : x_lams (E ns m t q w l a2 a9 a10 a11 a12 a13 a14 a15 a16 a17 a18 a19 a20 a21 a22 a23 a24) (A ns k) = .nx (E ns m t q w l a2 a9 a10 a11 a12 a13 a14 a15 a16 a17 a18 .un (.val (.tup [.str "faults", .non])) .un a22 a23 a24) (A ns k) := by
  kernel_rfl
theorem plain (ns : List Int) (h : ns.length ≤ 63) : ∃ s2, b_law (.val (.scr (ns.map D.int)) :: List.replicate 24 Sl.un) [] = .rt (.bl true) s2 := by
  obtain ⟨m, t, q, w, k', l, b2, b9, b10, b11, b12, b13, b14, b15, b16, b17, b18, b19, b20, b21, b22, b23, b24, e⟩ := turns ns h (upto 1 7) (.int 0) .un .un .un .un .un .un .un .un .un .un .un .un .un .un .un .un .un .un .un .un .un .un .un 0 (Int.le_refl _)
  have e0 : x_law_0 (.val (.scr (ns.map D.int)) :: List.replicate 24 Sl.un) [] = .nx [.val (.scr (I ns)), .val (.loc 0), .un, .un, .un, .un, .un, .un, .un, .un, .un, .un, .un, .un, .un, .un, .un, .un, .un, .un, .un, .un, .un, .un, .un] (A ns 0) := by
    unfold x_law_0
    rfl
  have e3 : x_law_39 [.val (.scr (I ns)), .val (.loc 0), .un, .un, .un, .un, .un, .un, .un, .un, .un, .un, .un, .un, .un, .un, .un, .un, .un, .un, .un, .un, .un, .un, .un] (A ns 0) = .nx (E ns m t q w l b2 b9 b10 b11 b12 b13 b14 b15 b16 b17 b18 b19 b20 b21 b22 b23 b24) (A ns k') := by
    unfold x_law_39
    exact e
  have e4 := lams_ok ns m t q w k' l b2 b9 b10 b11 b12 b13 b14 b15 b16 b17 b18 b19 b20 b21 b22 b23 b24
  refine ⟨A ns k', ?_⟩
  have pre : b_law_pre (.val (.scr (ns.map D.int)) :: List.replicate 24 Sl.un) [] = .nx (E ns m t q w l b2 b9 b10 b11 b12 b13 b14 b15 b16 b17 b18 b19 b20 b21 b22 b23 b24) (A ns k') := by
    unfold b_law_pre
    rw [seq_nx e0, seq_nx e3]
    rfl
  unfold b_law
  rw [seq_nx pre, seq_nx e4]
  rfl
end Lw
open PySem PySem.W PyProof.Rows
set_option maxRecDepth 100000 in
set_option maxHeartbeats 0 in
theorem PySem.Challenge.cw_watchedhands_k41_windows_of_falls_holds : PySem.Challenge.rw_watchedhands_k41_windows_of_falls.Holds := by
  w_on; o_law; k_head; (case hw => w_witness2)
  k_fill
  refine Gh.law_walkT (l := PySem.Challenge.rw_watchedhands_k41_windows_of_falls) (k := 7) rfl rfl ⟨rfl, by decide, by decide⟩ (by decide +kernel) (fun w h Y => by first | exact PySem.W.kIn_of Y | exact PySem.W.km_in_of Y) ?B
  case B =>
    intro w mg h KX G
    obtain ⟨c0, P0, TL0⟩ : ∃ c0 P0, Gh.TL _ mg "law" "law" Lw.s_law c0 P0 := by
      refine' ⟨_, _, Gh.tl_mk KX G ?a ?l ?d ?k ?lc ?lp ?hd ?no⟩
      (case a => k_is); (case l => k_is); (case d => k_is); (case k => k_is); (case lc => k_is); (case lp => rfl); (case hd => kernel_rfl); (case no => kernel_rfl)
    refine Lw.law_T ?_ TL0 Lw.plain
    have c_Faults := Gh.the KX (fun K => Gh.TC K mg "Faults") (by
      refine' Gh.tc_mk KX G ?a ?pg ?hd ?po ?sa ?mk ?kc
      (case a => k_is); (case pg => k_is); (case hd => k_is); (case po => k_is); (case sa => k_is); (case mk => k_is); (case kc => k_is))
    have c_Bears := Gh.the KX (fun K => Gh.TC K mg "Bears") (by
      refine' Gh.tc_mk KX G ?a ?pg ?hd ?po ?sa ?mk ?kc
      (case a => k_is); (case pg => k_is); (case hd => k_is); (case po => k_is); (case sa => k_is); (case mk => k_is); (case kc => k_is))
    have c_Passed := Gh.the KX (fun K => Gh.TC K mg "Passed") (by
      refine' Gh.tc_mk KX G ?a ?pg ?hd ?po ?sa ?mk ?kc
      (case a => k_is); (case pg => k_is); (case hd => k_is); (case po => k_is); (case sa => k_is); (case mk => k_is); (case kc => k_is))
    have m_Bears___bool__ := Gh.the KX (fun K => Gh.TM K mg "Bears" "__bool__" "Bears.__bool__" Lw.s_Bears___bool__) (by
      refine' Gh.tm_mk KX G ?a ?b ?i ?l ?d ?k
      (case a => k_is); (case b => k_is); (case i => k_is); (case l => k_is); (case d => k_is); (case k => k_is))
    have m_Bears___eq__ := Gh.the KX (fun K => Gh.TM K mg "Bears" "__eq__" "Bears.__eq__" Lw.s_Bears___eq__) (by
      refine' Gh.tm_mk KX G ?a ?b ?i ?l ?d ?k
      (case a => k_is); (case b => k_is); (case i => k_is); (case l => k_is); (case d => k_is); (case k => k_is))
    have m_Bears___init__ := Gh.the KX (fun K => Gh.TM K mg "Bears" "__init__" "Bears.__init__" Lw.s_Bears___init__) (by
      refine' Gh.tm_mk KX G ?a ?b ?i ?l ?d ?k
      (case a => k_is); (case b => k_is); (case i => k_is); (case l => k_is); (case d => k_is); (case k => k_is))
    have m_Passed___eq__ := Gh.the KX (fun K => Gh.TM K mg "Passed" "__eq__" "Passed.__eq__" Lw.s_Passed___eq__) (by
      refine' Gh.tm_mk KX G ?a ?b ?i ?l ?d ?k
      (case a => k_is); (case b => k_is); (case i => k_is); (case l => k_is); (case d => k_is); (case k => k_is))
    have m_Passed___init__ := Gh.the KX (fun K => Gh.TM K mg "Passed" "__init__" "Passed.__init__" Lw.s_Passed___init__) (by
      refine' Gh.tm_mk KX G ?a ?b ?i ?l ?d ?k
      (case a => k_is); (case b => k_is); (case i => k_is); (case l => k_is); (case d => k_is); (case k => k_is))
    have g_check_faults := Gh.the KX (fun K => Gh.TG K mg "check_faults" "check_faults" Lw.s_check_faults) (by
      refine' Gh.tg_mk KX G ?a ?l ?c ?k
      (case a => k_is); (case l => k_is); (case c => k_is); (case k => k_is))
    have g_is_integer := Gh.the KX (fun K => Gh.TG K mg "is_integer" "is_integer" Lw.s_is_integer) (by
      refine' Gh.tg_mk KX G ?a ?l ?c ?k
      (case a => k_is); (case l => k_is); (case c => k_is); (case k => k_is))
    have g_is_number := Gh.the KX (fun K => Gh.TG K mg "is_number" "is_number" Lw.s_is_number) (by
      refine' Gh.tg_mk KX G ?a ?l ?c ?k
      (case a => k_is); (case l => k_is); (case c => k_is); (case k => k_is))
    have g_check_number := Gh.the KX (fun K => Gh.TG K mg "check_number" "check_number" Lw.s_check_number) (by
      refine' Gh.tg_mk KX G ?a ?l ?c ?k
      (case a => k_is); (case l => k_is); (case c => k_is); (case k => k_is))
    have g_check_bound := Gh.the KX (fun K => Gh.TG K mg "check_bound" "check_bound" Lw.s_check_bound) (by
      refine' Gh.tg_mk KX G ?a ?l ?c ?k
      (case a => k_is); (case l => k_is); (case c => k_is); (case k => k_is))
    have g_most_within := Gh.the KX (fun K => Gh.TG K mg "most_within" "most_within" Lw.s_most_within) (by
      refine' Gh.tg_mk KX G ?a ?l ?c ?k
      (case a => k_is); (case l => k_is); (case c => k_is); (case k => k_is))
    have g_soonest := Gh.the KX (fun K => Gh.TG K mg "soonest" "soonest" Lw.s_soonest) (by
      refine' Gh.tg_mk KX G ?a ?l ?c ?k
      (case a => k_is); (case l => k_is); (case c => k_is); (case k => k_is))
    have g_judge_bound := Gh.the KX (fun K => Gh.TG K mg "judge_bound" "judge_bound" Lw.s_judge_bound) (by
      refine' Gh.tg_mk KX G ?a ?l ?c ?k
      (case a => k_is); (case l => k_is); (case c => k_is); (case k => k_is))
    have m_Bears_shows := Gh.the KX (fun K => Gh.TM K mg "Bears" "shows" "Bears.shows" Lw.s_Bears_shows) (by
      refine' Gh.tm_mk KX G ?a ?b ?i ?l ?d ?k
      (case a => k_is); (case b => k_is); (case i => k_is); (case l => k_is); (case d => k_is); (case k => k_is))
    have m_Faults___init__ := Gh.the KX (fun K => Gh.TM K mg "Faults" "__init__" "Faults.__init__" Lw.s_Faults___init__) (by
      refine' Gh.tm_mk KX G ?a ?b ?i ?l ?d ?k
      (case a => k_is); (case b => k_is); (case i => k_is); (case l => k_is); (case d => k_is); (case k => k_is))
    have m_Passed___bool__ := Gh.the KX (fun K => Gh.TM K mg "Passed" "__bool__" "Passed.__bool__" Lw.s_Passed___bool__) (by
      refine' Gh.tm_mk KX G ?a ?b ?i ?l ?d ?k
      (case a => k_is); (case b => k_is); (case i => k_is); (case l => k_is); (case d => k_is); (case k => k_is))
    have g_is_row := Gh.the KX (fun K => Gh.TG K mg "is_row" "is_row" Lw.s_is_row) (by
      refine' Gh.tg_mk KX G ?a ?l ?c ?k
      (case a => k_is); (case l => k_is); (case c => k_is); (case k => k_is))
    have g_check_falls := Gh.the KX (fun K => Gh.TG K mg "check_falls" "check_falls" Lw.s_check_falls) (by
      refine' Gh.tg_mk KX G ?a ?l ?c ?k
      (case a => k_is); (case l => k_is); (case c => k_is); (case k => k_is))
    have g_within := Gh.the KX (fun K => Gh.TG K mg "within" "within" Lw.s_within) (by
      refine' Gh.tg_mk KX G ?a ?l ?c ?k
      (case a => k_is); (case l => k_is); (case c => k_is); (case k => k_is))
    have g_are_within := Gh.the KX (fun K => Gh.TG K mg "are_within" "are_within" Lw.s_are_within) (by
      refine' Gh.tg_mk KX G ?a ?l ?c ?k
      (case a => k_is); (case l => k_is); (case c => k_is); (case k => k_is))
    have g_first_beyond := Gh.the KX (fun K => Gh.TG K mg "first_beyond" "first_beyond" Lw.s_first_beyond) (by
      refine' Gh.tg_mk KX G ?a ?l ?c ?k
      (case a => k_is); (case l => k_is); (case c => k_is); (case k => k_is))
    have m_Passed_shows := Gh.the KX (fun K => Gh.TM K mg "Passed" "shows" "Passed.shows" Lw.s_Passed_shows) (by
      refine' Gh.tm_mk KX G ?a ?b ?i ?l ?d ?k
      (case a => k_is); (case b => k_is); (case i => k_is); (case l => k_is); (case d => k_is); (case k => k_is))
    have g__law_number := Gh.the KX (fun K => Gh.TG K mg "_law_number" "_law_number" Lw.s__law_number) (by
      refine' Gh.tg_mk KX G ?a ?l ?c ?k
      (case a => k_is); (case l => k_is); (case c => k_is); (case k => k_is))
    have g__law_take := Gh.the KX (fun K => Gh.TG K mg "_law_take" "_law_take" Lw.s__law_take) (by
      refine' Gh.tg_mk KX G ?a ?l ?c ?k
      (case a => k_is); (case l => k_is); (case c => k_is); (case k => k_is))
    have g__law_falls := Gh.the KX (fun K => Gh.TG K mg "_law_falls" "_law_falls" Lw.s__law_falls) (by
      refine' Gh.tg_mk KX G ?a ?l ?c ?k
      (case a => k_is); (case l => k_is); (case c => k_is); (case k => k_is))
    have g__law_most := Gh.the KX (fun K => Gh.TG K mg "_law_most" "_law_most" Lw.s__law_most) (by
      refine' Gh.tg_mk KX G ?a ?l ?c ?k
      (case a => k_is); (case l => k_is); (case c => k_is); (case k => k_is))
    have g__law_passed := Gh.the KX (fun K => Gh.TG K mg "_law_passed" "_law_passed" Lw.s__law_passed) (by
      refine' Gh.tg_mk KX G ?a ?l ?c ?k
      (case a => k_is); (case l => k_is); (case c => k_is); (case k => k_is))
    have g_greatest_ticks := Gh.the KX (fun K => Gh.TG K mg "greatest_ticks" "greatest_ticks" Lw.s_greatest_ticks) (by
      refine' Gh.tg_mk KX G ?a ?l ?c ?k
      (case a => k_is); (case l => k_is); (case c => k_is); (case k => k_is))
    have g_least_most := Gh.the KX (fun K => Gh.TG K mg "least_most" "least_most" Lw.s_least_most) (by
      refine' Gh.tg_mk KX G ?a ?l ?c ?k
      (case a => k_is); (case l => k_is); (case c => k_is); (case k => k_is))
    have g_span_of := Gh.the KX (fun K => Gh.TG K mg "span_of" "span_of" Lw.s_span_of) (by
      refine' Gh.tg_mk KX G ?a ?l ?c ?k
      (case a => k_is); (case l => k_is); (case c => k_is); (case k => k_is))
    have a_falls_Passed := Gh.the KX (fun K => Gh.AttOk K mg "falls" ["Passed"]) (by
      refine Gh.AttOk.cons (by (refine' Gh.tf_mk KX G c_Passed ?a ?n); (case a => k_is); (case n => k_is)) ?_
      exact Gh.AttOk.nil)
    have a_many_Bears := Gh.the KX (fun K => Gh.AttOk K mg "many" ["Bears"]) (by
      refine Gh.AttOk.cons (by (refine' Gh.tf_mk KX G c_Bears ?a ?n); (case a => k_is); (case n => k_is)) ?_
      exact Gh.AttOk.nil)
    have a_many_Faults := Gh.the KX (fun K => Gh.AttOk K mg "many" ["Faults"]) (by
      refine Gh.AttOk.cons (by (refine' Gh.tf_mk KX G c_Faults ?a ?n); (case a => k_is); (case n => k_is)) ?_
      exact Gh.AttOk.nil)
    have a_ticks_Faults := Gh.the KX (fun K => Gh.AttOk K mg "ticks" ["Faults"]) (by
      refine Gh.AttOk.cons (by (refine' Gh.tf_mk KX G c_Faults ?a ?n); (case a => k_is); (case n => k_is)) ?_
      exact Gh.AttOk.nil)
    have i_Bears__Bears__Passed := Gh.the KX (fun K => Gh.TIs K mg "Bears" ["Bears"] ["Passed"]) (by
      refine' Gh.tis_mk KX G ?a ?ic ?tc ?k1 ?k2 ?k3 ?k4 ?k5 ?k6 ?k7 ?hy ?hn
      (case a => k_is); (case ic => k_is); (case tc => k_is); (case k1 => k_is); (case k2 => k_is); (case k3 => k_is); (case k4 => k_is); (case k5 => k_is); (case k6 => k_is); (case k7 => k_is)
      case hy =>
        intro c hc
        simp only [List.mem_cons, List.not_mem_nil, or_false] at hc
        subst hc
        · refine' Gh.ti1_mk (Gh.insTy_mk KX G c_Bears ?qa ?qha ?qn ?qtk ?qm) Gh.kit_self
          (case qa => k_is); (case qha => k_is); (case qn => k_is); (case qtk => k_is); (case qm => k_is)
      case hn =>
        intro c hc
        simp only [List.mem_cons, List.not_mem_nil, or_false] at hc
        subst hc
        · refine' Gh.ti1_mk (Gh.insTy_mk KX G c_Passed ?qa ?qha ?qn ?qtk ?qm) (Gh.kit_ref ?qic ?qtc ?qs ?qz)
          (case qa => k_is); (case qha => k_is); (case qn => k_is); (case qtk => k_is); (case qm => k_is); (case qic => k_is); (case qtc => k_is); (case qs => k_is); (case qz => rfl)
      skip)
    have i_Faults__Faults__ := Gh.the KX (fun K => Gh.TIs K mg "Faults" ["Faults"] []) (by
      refine' Gh.tis_mk KX G ?a ?ic ?tc ?k1 ?k2 ?k3 ?k4 ?k5 ?k6 ?k7 ?hy ?hn
      (case a => k_is); (case ic => k_is); (case tc => k_is); (case k1 => k_is); (case k2 => k_is); (case k3 => k_is); (case k4 => k_is); (case k5 => k_is); (case k6 => k_is); (case k7 => k_is)
      case hy =>
        intro c hc
        simp only [List.mem_cons, List.not_mem_nil, or_false] at hc
        subst hc
        · refine' Gh.ti1_mk (Gh.insTy_mk KX G c_Faults ?qa ?qha ?qn ?qtk ?qm) Gh.kit_self
          (case qa => k_is); (case qha => k_is); (case qn => k_is); (case qtk => k_is); (case qm => k_is)
      case hn =>
        intro c hc
        cases hc
      skip)
    have i_Passed__Passed__Bears := Gh.the KX (fun K => Gh.TIs K mg "Passed" ["Passed"] ["Bears"]) (by
      refine' Gh.tis_mk KX G ?a ?ic ?tc ?k1 ?k2 ?k3 ?k4 ?k5 ?k6 ?k7 ?hy ?hn
      (case a => k_is); (case ic => k_is); (case tc => k_is); (case k1 => k_is); (case k2 => k_is); (case k3 => k_is); (case k4 => k_is); (case k5 => k_is); (case k6 => k_is); (case k7 => k_is)
      case hy =>
        intro c hc
        simp only [List.mem_cons, List.not_mem_nil, or_false] at hc
        subst hc
        · refine' Gh.ti1_mk (Gh.insTy_mk KX G c_Passed ?qa ?qha ?qn ?qtk ?qm) Gh.kit_self
          (case qa => k_is); (case qha => k_is); (case qn => k_is); (case qtk => k_is); (case qm => k_is)
      case hn =>
        intro c hc
        simp only [List.mem_cons, List.not_mem_nil, or_false] at hc
        subst hc
        · refine' Gh.ti1_mk (Gh.insTy_mk KX G c_Bears ?qa ?qha ?qn ?qtk ?qm) (Gh.kit_ref ?qic ?qtc ?qs ?qz)
          (case qa => k_is); (case qha => k_is); (case qn => k_is); (case qtk => k_is); (case qm => k_is); (case qic => k_is); (case qtc => k_is); (case qs => k_is); (case qz => rfl)
      skip)
    have i_bool := Gh.the KX (fun K => Gh.TIb K mg "bool" []) (Gh.tib_mk (by decide +kernel))
    have i_int := Gh.the KX (fun K => Gh.TIb K mg "int" []) (Gh.tib_mk (by decide +kernel))
    have i_list_tuple := Gh.the KX (fun K => Gh.TIb2 K mg "list" "tuple" []) (Gh.tib2_mk (by decide +kernel) (by decide +kernel) (by decide +kernel))
    have n_Bears_Passed__Bears := Gh.the KX (fun K => Gh.TNf K mg ["Bears", "Passed"] ["Bears"]) (by
      refine Gh.nf_mk fun c hc c' hc' => ?_
      simp only [List.mem_cons, List.not_mem_nil, or_false] at hc hc'
      (rcases hc with rfl | rfl) <;> subst hc'
      · refine' Gh.nf1_mk KX G ?a ?b ?n
        (case a => k_is); (case b => k_is); (case n => k_is)
      · refine' Gh.nf1_mk KX G ?a ?b ?n
        (case a => k_is); (case b => k_is); (case n => k_is)
      skip)
    have n_Bears_Passed__Bears_Passed := Gh.the KX (fun K => Gh.TNf K mg ["Bears", "Passed"] ["Bears", "Passed"]) (by
      refine Gh.nf_mk fun c hc c' hc' => ?_
      simp only [List.mem_cons, List.not_mem_nil, or_false] at hc hc'
      (rcases hc with rfl | rfl) <;> (rcases hc' with rfl | rfl)
      · refine' Gh.nf1_mk KX G ?a ?b ?n
        (case a => k_is); (case b => k_is); (case n => k_is)
      · refine' Gh.nf1_mk KX G ?a ?b ?n
        (case a => k_is); (case b => k_is); (case n => k_is)
      · refine' Gh.nf1_mk KX G ?a ?b ?n
        (case a => k_is); (case b => k_is); (case n => k_is)
      · refine' Gh.nf1_mk KX G ?a ?b ?n
        (case a => k_is); (case b => k_is); (case n => k_is)
      skip)
    have e_Bears := Gh.the KX (fun K => Gh.TNe K mg "Bears") (by
      refine' Gh.tne_mk KX G ?a ?n ?o
      (case a => k_is); (case n => k_is); (case o => k_is))
    have e_Passed := Gh.the KX (fun K => Gh.TNe K mg "Passed") (by
      refine' Gh.tne_mk KX G ?a ?n ?o
      (case a => k_is); (case n => k_is); (case o => k_is))
    have nf_BadPart_part := Gh.the KX (fun K => Gh.NoF K mg "BadPart" "part") (by
      refine' Gh.nof_mk KX G ?a ?n
      (case a => k_is); (case n => k_is))
    have nf_BadPart_place := Gh.the KX (fun K => Gh.NoF K mg "BadPart" "place") (by
      refine' Gh.nof_mk KX G ?a ?n
      (case a => k_is); (case n => k_is))
    have x_BadPart := Gh.the KX (fun K => Gh.TX K mg "BadPart" "BadPart.__init__" ["part", "place"] Lw.s_BadPart___init__) (by
      refine' Gh.tx_mk KX G ?a (Gh.xlook_mk ?xl ?xb) ?sa ?ex ?ty ?kc ?ga ?gg ?hd ?i ?ti ?l ?d ?kf (Gh.nof_cons nf_BadPart_part (Gh.nof_cons nf_BadPart_place Gh.nof_nil))
      (case a => k_is); (case xl => k_is); (case xb => rfl); (case sa => k_is); (case ex => k_is); (case ty => k_is); (case kc => k_is); (case ga => k_is); (case gg => k_is); (case hd => k_is); (case i => k_is); (case ti => k_is); (case l => k_is); (case d => k_is); (case kf => k_is))
    have x_BadPart__BadPart__BadPart := Gh.the KX (fun K => Gh.TEm K mg "BadPart" ["BadPart"] ["BadPart"]) (by
      refine' Gh.tem_mk KX G ?a fun c hc => ?_
      (case a => k_is)
      simp only [List.mem_cons, List.not_mem_nil, or_false] at hc
      subst hc
      · refine' Gh.em1_mk KX G ?e1 ?e2 ?e3 ?e4 ?e5 ?e6
        (case e1 => k_is); (case e2 => k_is); (case e3 => k_is); (case e4 => k_is); (case e5 => k_is); (case e6 => k_is)
      skip)
    have z_all : mg "all" = none := PySem.W.mg_none_of KX G (by k_is)
    have z_bool : mg "bool" = none := PySem.W.mg_none_of KX G (by k_is)
    have z_enumerate : mg "enumerate" = none := PySem.W.mg_none_of KX G (by k_is)
    have z_int : mg "int" = none := PySem.W.mg_none_of KX G (by k_is)
    have z_isinstance : mg "isinstance" = none := PySem.W.mg_none_of KX G (by k_is)
    have z_len : mg "len" = none := PySem.W.mg_none_of KX G (by k_is)
    have z_list : mg "list" = none := PySem.W.mg_none_of KX G (by k_is)
    have z_max : mg "max" = none := PySem.W.mg_none_of KX G (by k_is)
    have z_range : mg "range" = none := PySem.W.mg_none_of KX G (by k_is)
    have z_tuple : mg "tuple" = none := PySem.W.mg_none_of KX G (by k_is)
    exact ⟨m_Bears___bool__, m_Bears___eq__, m_Bears___init__, m_Passed___eq__, m_Passed___init__, g_check_faults, g_is_integer, g_is_number, g_check_number, g_check_bound, g_most_within, g_soonest, g_judge_bound, m_Bears_shows, m_Faults___init__, m_Passed___bool__, g_is_row, g_check_falls, g_within, g_are_within, g_first_beyond, m_Passed_shows, g__law_number, g__law_take, g__law_falls, g__law_most, g__law_passed, g_greatest_ticks, g_least_most, g_span_of, c_Faults, c_Bears, c_Passed, a_falls_Passed, a_many_Bears, a_many_Faults, a_ticks_Faults, i_Bears__Bears__Passed, i_Faults__Faults__, i_Passed__Passed__Bears, i_bool, i_int, i_list_tuple, n_Bears_Passed__Bears, n_Bears_Passed__Bears_Passed, e_Bears, e_Passed, x_BadPart, x_BadPart__BadPart__BadPart, z_all, z_bool, z_enumerate, z_int, z_isinstance, z_len, z_list, z_max, z_range, z_tuple⟩
