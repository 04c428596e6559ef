import PyProof.Rows.All
import Wide.All
import OpenK.AllK
import Wide.FinOn
import HandS.ForMost
import HandS.Exc
import HandS.TryOnly
import HandS.ExcInit
import HandS.ExcField
import HandS.WordsExc
import HandS.Star
import HandS.TupAny
import HandS.IsInst
import HandS.Flow
import HandS.Style
import HandS.Walk
import HandS.WordsDict
import KE.GoesEnum
import HandS.Records
import HandS.SlotsOwn
import HandS.Ends
import PySem.Challenge.RW_watchedhands_k63_falls_within_ticks
set_option Elab.async false
set_option linter.all false
set_option maxRecDepth 100000
set_option maxHeartbeats 4000000
/-! Gh0: data, what represents it, the ghost heap, the store, outcomes. -/
namespace Gh
open L2 PyProof.Rows PySem.Spec PySem

/-- Python data: what stands still. loc: an object of the store, at the top of a value alone -/
inductive D where
  | non | bl (b : Bool) | int (i : Int) | str (s : Str)
  | tup (ds : List D) | lst (ds : List D) | scr (ds : List D) | dct (kvs : List (Key × D))
  | ins (c : Str) (fs : List (Str × D)) | loc (n : Nat)

abbrev Glob := Str → Option Value

mutual
/-- d stands for v, by what the still heap F holds -/
def Rep (K : PySem.W.Frag) (mg : Glob) (F : Hp) : D → V → Prop
  | .non, v => v = .non
  | .bl b, v => v = .bl b
  | .int i, v => v = .int i
  | .str s, v => v = .str s
  | .tup ds, v => ∃ a vs, v = .ref a ∧ SqT K F a vs ∧ RepL K mg F ds vs
  | .lst ds, v => ∃ a vs, v = .ref a ∧ F a = some (.lst vs) ∧ RepL K mg F ds vs
  | .scr ds, v => ∃ a vs, v = .ref a ∧ SqL K F a vs ∧ RepL K mg F ds vs
  | .dct kvs, v => ∃ a kv, v = .ref a ∧ Rd F a (.dK kv) ∧ RepK K mg F kvs kv
  | .ins c fs, v => ∃ a C dx fv, v = .ref a ∧ mg c = some (.ref C) ∧ F a = some (.ins C dx fv) ∧ RepF K mg F fs fv
  | .loc _, _ => False
def RepL (K : PySem.W.Frag) (mg : Glob) (F : Hp) : List D → List V → Prop
  | [], vs => vs = []
  | d :: ds, vs => ∃ v r, vs = v :: r ∧ Rep K mg F d v ∧ RepL K mg F ds r
def RepK (K : PySem.W.Frag) (mg : Glob) (F : Hp) : List (Key × D) → List (Key × V) → Prop
  | [], vs => vs = []
  | (k, d) :: ds, vs => ∃ v r, vs = (k, v) :: r ∧ Rep K mg F d v ∧ RepK K mg F ds r
def RepF (K : PySem.W.Frag) (mg : Glob) (F : Hp) : List (Str × D) → List (Str × V) → Prop
  | [], vs => vs = []
  | (k, d) :: ds, vs => ∃ v r, vs = (k, v) :: r ∧ Rep K mg F d v ∧ RepF K mg F ds r
end

abbrev Ex (H H' : Hp) : Prop := ∀ a o, H a = some o → H' a = some o
theorem Ex.refl (H : Hp) : Ex H H := fun _ _ h => h
theorem Ex.trans {H H1 H2 : Hp} (a : Ex H H1) (b : Ex H1 H2) : Ex H H2 := fun x o h => b x o (a x o h)
theorem Ex.new {H : Hp} {p : Addr} {o : HO} (h : H p = none) : Ex H (upd H p o) := fun a u e => by
  rw [upd_ne (ne_of_none e h)]
  exact e
theorem ex_rd {H H' : Hp} {a : Addr} {u : HO} (e : Ex H H') (h : Rd H a u) : Rd H' a u := by
  rcases h with h | ⟨o, h⟩
  · exact Or.inl (e a _ h)
  · exact Or.inr ⟨o, e a _ h⟩
theorem ex_l {K : PySem.W.Frag} {H H' : Hp} {a : Addr} {xs : List V} (e : Ex H H') (h : SqL K H a xs) : SqL K H' a xs := by
  rcases h with h | h
  · exact Or.inl (ex_rd e h)
  · exact Or.inr h
theorem ex_t {K : PySem.W.Frag} {H H' : Hp} {a : Addr} {xs : List V} (e : Ex H H') (h : SqT K H a xs) : SqT K H' a xs := by
  rcases h with h | h
  · exact Or.inl (ex_rd e h)
  · exact Or.inr h

/-- F is a part of H (a dict may be locked there) -/
def ExF (F H : Hp) : Prop := ∀ a o, F a = some o → H a = some o ∨ ∃ ob kv, o = .dK kv ∧ H a = some (.frz ob o)
theorem ExF.rd {F H : Hp} {a : Addr} {u : HO} (e : ExF F H) (h : Rd F a u) : Rd H a u := by
  rcases h with h | ⟨o, h⟩
  · rcases e a _ h with h | ⟨ob, kv, _, h⟩
    · exact Or.inl h
    · exact Or.inr ⟨ob, h⟩
  · rcases e a _ h with h | ⟨ob, kv, q, h⟩
    · exact Or.inr ⟨o, h⟩
    · cases q
theorem ExF.l {K : PySem.W.Frag} {F H : Hp} {a : Addr} {xs : List V} (e : ExF F H) (h : SqL K F a xs) : SqL K H a xs := by
  rcases h with h | h
  · exact Or.inl (e.rd h)
  · exact Or.inr h
theorem ExF.t {K : PySem.W.Frag} {F H : Hp} {a : Addr} {xs : List V} (e : ExF F H) (h : SqT K F a xs) : SqT K H a xs := by
  rcases h with h | h
  · exact Or.inl (e.rd h)
  · exact Or.inr h
theorem ExF.ins {F H : Hp} {a C dx : Addr} {fs : List (Str × V)} (e : ExF F H) (h : F a = some (.ins C dx fs)) : H a = some (.ins C dx fs) := by
  rcases e a _ h with h | ⟨ob, kv, q, h⟩
  · exact h
  · cases q
theorem ExF.lst {F H : Hp} {a : Addr} {fs : List V} (e : ExF F H) (h : F a = some (.lst fs)) : H a = some (.lst fs) := by
  rcases e a _ h with h | ⟨ob, kv, q, h⟩
  · exact h
  · cases q
theorem ExF.xd {F H : Hp} {a : Addr} {fs : List (Str × V)} (e : ExF F H) (h : F a = some (.xd fs)) : H a = some (.xd fs) := by
  rcases e a _ h with h | ⟨ob, kv, q, h⟩
  · exact h
  · cases q
theorem ExF.tup {F H : Hp} {a : Addr} {fs : List V} (e : ExF F H) (h : F a = some (.tup fs)) : H a = some (.tup fs) := by
  rcases e a _ h with h | ⟨ob, kv, q, h⟩
  · exact h
  · cases q
theorem ExF.free {F H : Hp} {a : Addr} (e : ExF F H) (n : H a = none) : F a = none := by
  cases q : F a with
  | none => rfl
  | some u => rcases e a u q with h | ⟨ob, kv, _, h⟩ <;> (rw [n] at h; cases h)
theorem ExF.more {F H H' : Hp} (e : ExF F H) (x : Ex H H') : ExF F H' := fun a o h => by
  rcases e a o h with h | ⟨ob, kv, q, h⟩
  · exact .inl (x a o h)
  · exact .inr ⟨ob, kv, q, x a _ h⟩
theorem ExF.of {F H : Hp} (e : Ex F H) : ExF F H := fun a o h => .inl (e a o h)

section
variable {K : PySem.W.Frag} {mg : Glob}
mutual
theorem Rep.mono {F F' : Hp} (e : Ex F F') : ∀ (d : D) {v : V}, Rep K mg F d v → Rep K mg F' d v
  | .non, v, h => h
  | .bl b, v, h => h
  | .int i, v, h => h
  | .str s, v, h => h
  | .tup ds, v, h => by
    obtain ⟨a, vs, h1, h2, h3⟩ := h
    exact ⟨a, vs, h1, ex_t e h2, RepL.mono e ds h3⟩
  | .lst ds, v, h => by
    obtain ⟨a, vs, h1, h2, h3⟩ := h
    exact ⟨a, vs, h1, e _ _ h2, RepL.mono e ds h3⟩
  | .scr ds, v, h => by
    obtain ⟨a, vs, h1, h2, h3⟩ := h
    exact ⟨a, vs, h1, ex_l e h2, RepL.mono e ds h3⟩
  | .dct kvs, v, h => by
    obtain ⟨a, vs, h1, h2, h3⟩ := h
    exact ⟨a, vs, h1, ex_rd e h2, RepK.mono e kvs h3⟩
  | .ins c fs, v, h => by
    obtain ⟨a, C, dx, fv, h1, h2, h3, h4⟩ := h
    exact ⟨a, C, dx, fv, h1, h2, e _ _ h3, RepF.mono e fs h4⟩
  | .loc n, v, h => h
theorem RepL.mono {F F' : Hp} (e : Ex F F') : ∀ (ds : List D) {vs : List V}, RepL K mg F ds vs → RepL K mg F' ds vs
  | [], vs, h => h
  | d :: ds, vs, h => by
    obtain ⟨v, r, h1, h2, h3⟩ := h
    exact ⟨v, r, h1, Rep.mono e d h2, RepL.mono e ds h3⟩
theorem RepK.mono {F F' : Hp} (e : Ex F F') : ∀ (ds : List (Key × D)) {vs : List (Key × V)}, RepK K mg F ds vs → RepK K mg F' ds vs
  | [], vs, h => h
  | (k, d) :: ds, vs, h => by
    obtain ⟨v, r, h1, h2, h3⟩ := h
    exact ⟨v, r, h1, Rep.mono e d h2, RepK.mono e ds h3⟩
theorem RepF.mono {F F' : Hp} (e : Ex F F') : ∀ (ds : List (Str × D)) {vs : List (Str × V)}, RepF K mg F ds vs → RepF K mg F' ds vs
  | [], vs, h => h
  | (k, d) :: ds, vs, h => by
    obtain ⟨v, r, h1, h2, h3⟩ := h
    exact ⟨v, r, h1, Rep.mono e d h2, RepF.mono e ds h3⟩
end

/-! ### lists of data -/
theorem RepL.length {F : Hp} : ∀ {ds : List D} {vs : List V}, RepL K mg F ds vs → ds.length = vs.length
  | [], vs, h => by
    have h : vs = [] := h
    rw [h] <;> rfl
  | d :: ds, vs, h => by
    obtain ⟨v, r, rfl, h2, h3⟩ := h
    rw [List.length_cons, List.length_cons, RepL.length h3]
theorem RepL.get {F : Hp} : ∀ {ds : List D} {vs : List V} {i : Nat} {d : D}, RepL K mg F ds vs → ds[i]? = some d → ∃ v, vs[i]? = some v ∧ Rep K mg F d v
  | [], vs, i, d, h, e => by simp at e
  | d :: ds, vs, 0, x, h, e => by
    obtain ⟨v, r, rfl, h2, h3⟩ := h
    have e : d = x := by simpa using e
    exact ⟨v, rfl, e ▸ h2⟩
  | d :: ds, vs, i + 1, x, h, e => by
    obtain ⟨v, r, rfl, h2, h3⟩ := h
    obtain ⟨w, e1, e2⟩ := RepL.get (i := i) h3 (by simpa using e)
    exact ⟨w, by simpa using e1, e2⟩
theorem RepL.getV {F : Hp} : ∀ {ds : List D} {vs : List V} {i : Nat} {v : V}, RepL K mg F ds vs → vs[i]? = some v → ∃ d, ds[i]? = some d ∧ Rep K mg F d v
  | [], vs, i, d, h, e => by
    have h : vs = [] := h
    subst h
    simp at e
  | d :: ds, vs, 0, x, h, e => by
    obtain ⟨v, r, rfl, h2, h3⟩ := h
    have e : v = x := by simpa using e
    exact ⟨d, rfl, e ▸ h2⟩
  | d :: ds, vs, i + 1, x, h, e => by
    obtain ⟨v, r, rfl, h2, h3⟩ := h
    obtain ⟨w, e1, e2⟩ := RepL.getV (i := i) h3 (by simpa using e)
    exact ⟨w, by simpa using e1, e2⟩
theorem RepL.append {F : Hp} : ∀ {ds : List D} {vs : List V} {es : List D} {ws : List V}, RepL K mg F ds vs → RepL K mg F es ws → RepL K mg F (ds ++ es) (vs ++ ws)
  | [], vs, es, ws, h, h' => by
    have h : vs = [] := h
    subst h
    exact h'
  | d :: ds, vs, es, ws, h, h' => by
    obtain ⟨v, r, rfl, h2, h3⟩ := h
    exact ⟨v, r ++ ws, rfl, h2, RepL.append h3 h'⟩
theorem RepL.take {F : Hp} : ∀ {ds : List D} {vs : List V} (n : Nat), RepL K mg F ds vs → RepL K mg F (ds.take n) (vs.take n)
  | ds, vs, 0, h => by rw [List.take_zero, List.take_zero]; exact rfl
  | [], vs, n + 1, h => by
    have h : vs = [] := h
    subst h
    exact rfl
  | d :: ds, vs, n + 1, h => by
    obtain ⟨v, r, rfl, h2, h3⟩ := h
    exact ⟨v, r.take n, rfl, h2, RepL.take n h3⟩
theorem RepL.drop {F : Hp} : ∀ {ds : List D} {vs : List V} (n : Nat), RepL K mg F ds vs → RepL K mg F (ds.drop n) (vs.drop n)
  | ds, vs, 0, h => by rw [List.drop_zero, List.drop_zero]; exact h
  | [], vs, n + 1, h => by
    have h : vs = [] := h
    subst h
    exact rfl
  | d :: ds, vs, n + 1, h => by
    obtain ⟨v, r, rfl, h2, h3⟩ := h
    exact RepL.drop n h3
theorem RepL.set {F : Hp} : ∀ {ds : List D} {vs : List V} (n : Nat) {d : D} {v : V}, RepL K mg F ds vs → Rep K mg F d v → RepL K mg F (ds.set n d) (vs.set n v)
  | [], vs, n, d, v, h, hd => by
    have h : vs = [] := h
    subst h
    exact rfl
  | x :: ds, vs, 0, d, v, h, hd => by
    obtain ⟨w, r, rfl, h2, h3⟩ := h
    exact ⟨v, r, rfl, hd, h3⟩
  | x :: ds, vs, n + 1, d, v, h, hd => by
    obtain ⟨w, r, rfl, h2, h3⟩ := h
    exact ⟨w, r.set n v, rfl, h2, RepL.set n h3 hd⟩
theorem RepL.one {F : Hp} {d : D} {v : V} (h : Rep K mg F d v) : RepL K mg F [d] [v] := ⟨v, [], rfl, h, rfl⟩
theorem RepL.snoc {F : Hp} {ds : List D} {vs : List V} {d : D} {v : V} (h : RepL K mg F ds vs) (hd : Rep K mg F d v) : RepL K mg F (ds ++ [d]) (vs ++ [v]) := h.append (.one hd)
theorem RepL.reverse {F : Hp} : ∀ {ds : List D} {vs : List V}, RepL K mg F ds vs → RepL K mg F ds.reverse vs.reverse
  | [], vs, h => by
    have h : vs = [] := h
    subst h
    exact rfl
  | d :: ds, vs, h => by
    obtain ⟨v, r, rfl, h2, h3⟩ := h
    rw [List.reverse_cons, List.reverse_cons]
    exact h3.reverse.snoc h2
theorem RepL.nil_iff {F : Hp} {ds : List D} {vs : List V} (h : RepL K mg F ds vs) : ds.isEmpty = vs.isEmpty := by
  have e := h.length
  cases ds <;> cases vs <;> simp_all
theorem RepK.length {F : Hp} : ∀ {ds : List (Key × D)} {vs : List (Key × V)}, RepK K mg F ds vs → ds.length = vs.length
  | [], vs, h => by
    have h : vs = [] := h
    rw [h] <;> rfl
  | (k, d) :: ds, vs, h => by
    obtain ⟨v, r, rfl, h2, h3⟩ := h
    rw [List.length_cons, List.length_cons, RepK.length h3]

/-! ### pairs by key -/
def valD (kvs : List (Key × D)) (k : Key) : Option D := (kvs.find? fun kv => decide (kv.1 = k)).map (·.2)
def putD (kvs : List (Key × D)) (k : Key) (v : D) : List (Key × D) :=
  if (kvs.any fun kv => decide (kv.1 = k)) = true then kvs.map (fun kv => if kv.1 = k then (kv.1, v) else kv) else kvs ++ [(k, v)]
def dropD (kvs : List (Key × D)) (k : Key) : List (Key × D) := kvs.filter fun kv => decide (kv.1 ≠ k)
def mergeD (kvs more : List (Key × D)) : List (Key × D) := more.foldl (fun acc kv => putD acc kv.1 kv.2) kvs
theorem RepK.val {F : Hp} : ∀ {kvs : List (Key × D)} {vs : List (Key × V)} (k : Key), RepK K mg F kvs vs → (valD kvs k = none ∧ valV vs k = none) ∨ ∃ d v, valD kvs k = some d ∧ valV vs k = some v ∧ Rep K mg F d v
  | [], vs, k, h => by
    have h : vs = [] := h
    subst h
    exact .inl ⟨rfl, rfl⟩
  | (j, d) :: ds, vs, k, h => by
    obtain ⟨v, r, rfl, h2, h3⟩ := h
    by_cases e : j = k
    · refine .inr ⟨d, v, ?_, ?_, h2⟩
      · unfold valD; simp [e]
      · exact valV_pos e
    · have e1 : valD ((j, d) :: ds) k = valD ds k := by unfold valD; simp [e]
      have e2 : valV ((j, v) :: r) k = valV r k := valV_neg e
      rw [e1, e2]
      exact RepK.val k h3
theorem RepK.any {F : Hp} : ∀ {kvs : List (Key × D)} {vs : List (Key × V)} (k : Key), RepK K mg F kvs vs → (kvs.any fun kv => decide (kv.1 = k)) = vs.any fun kv => decide (kv.1 = k)
  | [], vs, k, h => by
    have h : vs = [] := h
    subst h
    rfl
  | (j, d) :: ds, vs, k, h => by
    obtain ⟨v, r, rfl, h2, h3⟩ := h
    rw [List.any_cons, List.any_cons, RepK.any k h3]
theorem RepK.append {F : Hp} : ∀ {ds : List (Key × D)} {vs : List (Key × V)} {es : List (Key × D)} {ws : List (Key × V)}, RepK K mg F ds vs → RepK K mg F es ws → RepK K mg F (ds ++ es) (vs ++ ws)
  | [], vs, es, ws, h, h' => by
    have h : vs = [] := h
    subst h
    exact h'
  | (k, d) :: ds, vs, es, ws, h, h' => by
    obtain ⟨v, r, rfl, h2, h3⟩ := h
    exact ⟨v, r ++ ws, rfl, h2, RepK.append h3 h'⟩
theorem RepK.mapv {F : Hp} {d : D} {v : V} (hd : Rep K mg F d v) (k : Key) : ∀ {kvs : List (Key × D)} {vs : List (Key × V)}, RepK K mg F kvs vs →
    RepK K mg F (kvs.map fun kv => if kv.1 = k then (kv.1, d) else kv) (vs.map fun kv => if kv.1 = k then (kv.1, v) else kv)
  | [], vs, h => by
    have h : vs = [] := h
    subst h
    exact rfl
  | (j, x) :: ds, vs, h => by
    obtain ⟨w, r, rfl, h2, h3⟩ := h
    have ih := RepK.mapv hd k h3
    rw [List.map_cons, List.map_cons]
    by_cases e : j = k
    · rw [if_pos e, if_pos e]
      exact ⟨v, _, rfl, hd, ih⟩
    · rw [if_neg e, if_neg e]
      exact ⟨w, _, rfl, h2, ih⟩
theorem RepK.put {F : Hp} {kvs : List (Key × D)} {vs : List (Key × V)} (h : RepK K mg F kvs vs) (k : Key) {d : D} {v : V} (hd : Rep K mg F d v) : RepK K mg F (putD kvs k d) (putK vs k v) := by
  unfold putD putK
  rw [h.any k]
  split
  · exact h.mapv hd k
  · exact h.append ⟨v, [], rfl, hd, rfl⟩
theorem RepK.drop {F : Hp} (k : Key) : ∀ {kvs : List (Key × D)} {vs : List (Key × V)}, RepK K mg F kvs vs → RepK K mg F (dropD kvs k) (dropK vs k)
  | [], vs, h => by
    have h : vs = [] := h
    subst h
    exact rfl
  | (j, x) :: ds, vs, h => by
    obtain ⟨w, r, rfl, h2, h3⟩ := h
    have ih := RepK.drop k h3
    unfold dropD dropK at ih ⊢
    rw [List.filter_cons, List.filter_cons]
    by_cases e : j = k
    · rw [if_neg (by simp [e]), if_neg (by simp [e])]
      exact ih
    · rw [if_pos (by simp [e]), if_pos (by simp [e])]
      exact ⟨w, _, rfl, h2, ih⟩
theorem RepK.merge {F : Hp} : ∀ {more : List (Key × D)} {mvs : List (Key × V)} {kvs : List (Key × D)} {vs : List (Key × V)}, RepK K mg F more mvs → RepK K mg F kvs vs → RepK K mg F (mergeD kvs more) (mergeK vs mvs)
  | [], mvs, kvs, vs, h, h' => by
    have h : mvs = [] := h
    subst h
    exact h'
  | (k, d) :: ds, mvs, kvs, vs, h, h' => by
    obtain ⟨v, r, rfl, h2, h3⟩ := h
    show RepK K mg F (mergeD (putD kvs k d) ds) (mergeK (putK vs k v) r)
    exact RepK.merge h3 (h'.put k h2)
theorem RepK.getV {F : Hp} : ∀ {ds : List (Key × D)} {vs : List (Key × V)} {i : Nat} {k : Key} {v : V}, RepK K mg F ds vs → vs[i]? = some (k, v) → ∃ d, ds[i]? = some (k, d) ∧ Rep K mg F d v
  | [], vs, i, k, d, h, e => by
    have h : vs = [] := h
    subst h
    simp at e
  | (j, d) :: ds, vs, 0, k, x, h, e => by
    obtain ⟨v, r, rfl, h2, h3⟩ := h
    have e : (j, v) = (k, x) := by simpa using e
    cases e
    exact ⟨d, rfl, h2⟩
  | (j, d) :: ds, vs, i + 1, k, x, h, e => by
    obtain ⟨v, r, rfl, h2, h3⟩ := h
    obtain ⟨w, e1, e2⟩ := RepK.getV (i := i) h3 (by simpa using e)
    exact ⟨w, by simpa using e1, e2⟩
/-! ### fields by name -/
def lookD (fs : List (Str × D)) (f : Str) : Option D := fs.lookup f
def putFD (f : Str) (v : D) : List (Str × D) → List (Str × D)
  | [] => [(f, v)]
  | (g, x) :: r => if g = f then (g, v) :: r else (g, x) :: putFD f v r
theorem RepF.look {F : Hp} : ∀ {fs : List (Str × D)} {vs : List (Str × V)} {f : Str} {d : D}, RepF K mg F fs vs → fs.lookup f = some d → ∃ v, vs.lookup f = some v ∧ Rep K mg F d v
  | [], vs, f, d, h, e => by simp at e
  | (g, x) :: fs, vs, f, d, h, e => by
    obtain ⟨v, r, rfl, h2, h3⟩ := h
    rw [List.lookup_cons] at e
    rw [List.lookup_cons]
    cases q : f == g with
    | true => rw [q] at e; cases e; exact ⟨v, rfl, h2⟩
    | false => rw [q] at e; exact RepF.look h3 e
theorem RepF.lookNone {F : Hp} : ∀ {fs : List (Str × D)} {vs : List (Str × V)} {f : Str}, RepF K mg F fs vs → fs.lookup f = none → vs.lookup f = none
  | [], vs, f, h, e => by
    have h : vs = [] := h
    subst h
    rfl
  | (g, x) :: fs, vs, f, h, e => by
    obtain ⟨v, r, rfl, h2, h3⟩ := h
    rw [List.lookup_cons] at e
    rw [List.lookup_cons]
    cases q : f == g with
    | true => rw [q] at e; cases e
    | false => rw [q] at e; exact RepF.lookNone h3 e
theorem RepF.put {F : Hp} {d : D} {v : V} (hd : Rep K mg F d v) (f : Str) : ∀ {fs : List (Str × D)} {vs : List (Str × V)}, RepF K mg F fs vs → RepF K mg F (putFD f d fs) (putF f v vs)
  | [], vs, h => by
    have h : vs = [] := h
    subst h
    exact ⟨v, [], rfl, hd, rfl⟩
  | (g, x) :: fs, vs, h => by
    obtain ⟨w, r, rfl, h2, h3⟩ := h
    unfold putFD putF
    by_cases e : g = f
    · rw [if_pos e, if_pos e]
      exact ⟨v, r, rfl, hd, h3⟩
    · rw [if_neg e, if_neg e]
      exact ⟨w, _, rfl, h2, RepF.put hd f h3⟩
theorem RepF.length {F : Hp} : ∀ {fs : List (Str × D)} {vs : List (Str × V)}, RepF K mg F fs vs → fs.length = vs.length
  | [], vs, h => by
    have h : vs = [] := h
    rw [h] <;> rfl
  | (k, d) :: ds, vs, h => by
    obtain ⟨v, r, rfl, h2, h3⟩ := h
    rw [List.length_cons, List.length_cons, RepF.length h3]
end

/-! ### values, what stands at an address -/
/-- a value: data, or an object of the store (at L) -/
def VRep (K : PySem.W.Frag) (mg : Glob) (L : List Addr) (F : Hp) (d : D) (v : V) : Prop := (∃ n a, d = .loc n ∧ L[n]? = some a ∧ v = .ref a) ∨ Rep K mg F d v
/-- at a in H stands what d tells, its parts in F -/
def Has (K : PySem.W.Frag) (mg : Glob) (F H : Hp) (a : Addr) : D → Prop
  | .lst ds => ∃ vs, H a = some (.lst vs) ∧ RepL K mg F ds vs
  | .dct kvs => ∃ kv, H a = some (.dK kv) ∧ RepK K mg F kvs kv
  | .ins c fs => ∃ C dx fv, mg c = some (.ref C) ∧ H a = some (.ins C dx fv) ∧ RepF K mg F fs fv
  | _ => False
section
variable {K : PySem.W.Frag} {mg : Glob} {L : List Addr} {F F' H H' : Hp} {a : Addr} {d : D} {v : V}
theorem Has.mono (h : Has K mg F H a d) (e : Ex F F') (k : ∀ o, H a = some o → H' a = some o) : Has K mg F' H' a d := by
  cases d with
  | lst ds => obtain ⟨vs, h1, h2⟩ := h; exact ⟨vs, k _ h1, RepL.mono e ds h2⟩
  | dct kvs => obtain ⟨vs, h1, h2⟩ := h; exact ⟨vs, k _ h1, RepK.mono e kvs h2⟩
  | ins c fs => obtain ⟨C, dx, fv, h1, h2, h3⟩ := h; exact ⟨C, dx, fv, h1, k _ h2, RepF.mono e fs h3⟩
  | _ => exact h
theorem Has.there (h : Has K mg F H a d) : ∃ o, H a = some o := by
  cases d with
  | lst ds => obtain ⟨vs, h1, h2⟩ := h; exact ⟨_, h1⟩
  | dct kvs => obtain ⟨vs, h1, h2⟩ := h; exact ⟨_, h1⟩
  | ins c fs => obtain ⟨C, dx, fv, h1, h2, h3⟩ := h; exact ⟨_, h2⟩
  | _ => exact h.elim
/-- it stands still from now on -/
theorem Has.still {o : HO} (h : Has K mg F H a d) (e : H a = some o) (n : F a = none) : Rep K mg (upd F a o) d (.ref a) := by
  have x : Ex F (upd F a o) := Ex.new n
  cases d with
  | lst ds => obtain ⟨vs, h1, h2⟩ := h; rw [e] at h1; cases h1; exact ⟨a, vs, rfl, upd_same, RepL.mono x ds h2⟩
  | dct kvs => obtain ⟨vs, h1, h2⟩ := h; rw [e] at h1; cases h1; exact ⟨a, vs, rfl, .inl upd_same, RepK.mono x kvs h2⟩
  | ins c fs => obtain ⟨C, dx, fv, h1, h2, h3⟩ := h; rw [e] at h2; cases h2; exact ⟨a, C, dx, fv, rfl, h1, upd_same, RepF.mono x fs h3⟩
  | _ => exact h.elim
theorem VRep.data (h : Rep K mg F d v) : VRep K mg L F d v := .inr h
theorem VRep.mono {M : List Addr} (h : VRep K mg L F d v) (e : Ex F F') : VRep K mg (L ++ M) F' d v := by
  rcases h with ⟨n, a, h1, h2, h3⟩ | h
  · refine .inl ⟨n, a, h1, ?_, h3⟩
    obtain ⟨hl, _⟩ := List.getElem?_eq_some_iff.mp h2
    rw [List.getElem?_append_left hl]
    exact h2
  · exact .inr (Rep.mono e d h)
theorem VRep.int {i : Int} (h : VRep K mg L F (.int i) v) : v = .int i := by
  rcases h with ⟨n, a, h1, _⟩ | h
  · cases h1
  · exact h
theorem VRep.bl {b : Bool} (h : VRep K mg L F (.bl b) v) : v = .bl b := by
  rcases h with ⟨n, a, h1, _⟩ | h
  · cases h1
  · exact h
theorem VRep.str {s : Str} (h : VRep K mg L F (.str s) v) : v = .str s := by
  rcases h with ⟨n, a, h1, _⟩ | h
  · cases h1
  · exact h
theorem VRep.non (h : VRep K mg L F .non v) : v = .non := by
  rcases h with ⟨n, a, h1, _⟩ | h
  · cases h1
  · exact h
theorem VRep.loc {n : Nat} (h : VRep K mg L F (.loc n) v) : ∃ a, L[n]? = Option.some a ∧ v = .ref a := by
  rcases h with ⟨m, a, h1, h2, h3⟩ | h
  · cases h1; exact ⟨a, h2, h3⟩
  · exact h.elim
end

def VRepL (K : PySem.W.Frag) (mg : Glob) (L : List Addr) (F : Hp) : List D → List V → Prop
  | [], vs => vs = []
  | d :: ds, vs => ∃ v r, vs = v :: r ∧ VRep K mg L F d v ∧ VRepL K mg L F ds r
section
variable {K : PySem.W.Frag} {mg : Glob} {L : List Addr} {F F' : Hp}
theorem VRepL.mono {M : List Addr} (e : Ex F F') : ∀ {ds : List D} {vs : List V}, VRepL K mg L F ds vs → VRepL K mg (L ++ M) F' ds vs
  | [], vs, h => h
  | d :: ds, vs, h => by
    obtain ⟨v, r, h1, h2, h3⟩ := h
    exact ⟨v, r, h1, h2.mono e, VRepL.mono e h3⟩
theorem VRepL.length : ∀ {ds : List D} {vs : List V}, VRepL K mg L F ds vs → ds.length = vs.length
  | [], vs, h => by
    have h : vs = [] := h
    rw [h] <;> rfl
  | d :: ds, vs, h => by
    obtain ⟨v, r, rfl, h2, h3⟩ := h
    rw [List.length_cons, List.length_cons, VRepL.length h3]
theorem VRepL.get : ∀ {ds : List D} {vs : List V} {i : Nat} {d : D}, VRepL K mg L F ds vs → ds[i]? = some d → ∃ v, vs[i]? = some v ∧ VRep K mg L F d v
  | [], vs, i, d, h, e => by simp at e
  | d :: ds, vs, 0, x, h, e => by
    obtain ⟨v, r, rfl, h2, h3⟩ := h
    have e : d = x := by simpa using e
    exact ⟨v, rfl, e ▸ h2⟩
  | d :: ds, vs, i + 1, x, h, e => by
    obtain ⟨v, r, rfl, h2, h3⟩ := h
    obtain ⟨w, e1, e2⟩ := VRepL.get (i := i) h3 (by simpa using e)
    exact ⟨w, by simpa using e1, e2⟩
end

/-! ### one step of the heaps -/
/-- the store -/
abbrev Store := List D
structure Stp (F : Hp) (L : List Addr) (H F' : Hp) (L' : List Addr) (H' : Hp) : Prop where
  ex : Ex F F'
  pre : ∃ M, L' = L ++ M
  kp : ∀ a o, H a = some o → a ∉ L → H' a = some o ∧ F' a = F a ∧ a ∉ L'
structure Sto (K : PySem.W.Frag) (mg : Glob) (F : Hp) (L : List Addr) (H : Hp) (st : Store) : Prop where
  ex : ExF F H
  nd : L.Nodup
  len : L.length = st.length
  at_ : ∀ (n : Nat) (a : Addr) (d : D), L[n]? = some a → st[n]? = some d → F a = none ∧ Has K mg F H a d
section
variable {K : PySem.W.Frag} {mg : Glob} {F F1 F2 H H1 H2 : Hp} {L L1 L2 : List Addr} {st : Store} {d : D} {u : V} {a : Addr} {o : HO}
theorem Stp.refl : Stp F L H F L H := ⟨Ex.refl F, ⟨[], (List.append_nil L).symm⟩, fun a o h n => ⟨h, rfl, n⟩⟩
theorem Stp.trans (x : Stp F L H F1 L1 H1) (y : Stp F1 L1 H1 F2 L2 H2) : Stp F L H F2 L2 H2 := by
  refine ⟨x.ex.trans y.ex, ?_, fun a o h n => ?_⟩
  · obtain ⟨M, e⟩ := x.pre
    obtain ⟨M', e'⟩ := y.pre
    exact ⟨M ++ M', by rw [e', e, List.append_assoc]⟩
  · obtain ⟨h1, h2, h3⟩ := x.kp a o h n
    obtain ⟨g1, g2, g3⟩ := y.kp a o h1 h3
    exact ⟨g1, g2.trans h2, g3⟩
theorem Stp.vrep (x : Stp F L H F1 L1 H1) (h : VRep K mg L F d u) : VRep K mg L1 F1 d u := by
  obtain ⟨M, e⟩ := x.pre
  rw [e]
  exact h.mono x.ex
theorem Stp.vrepl (x : Stp F L H F1 L1 H1) {ds : List D} {vs : List V} (h : VRepL K mg L F ds vs) : VRepL K mg L1 F1 ds vs := by
  obtain ⟨M, e⟩ := x.pre
  rw [e]
  exact h.mono x.ex
theorem Stp.mem (x : Stp F L H F1 L1 H1) (h : a ∈ L) : a ∈ L1 := by
  obtain ⟨M, e⟩ := x.pre
  rw [e]
  exact List.mem_append_left _ h
theorem Sto.mem (x : Sto K mg F L H st) (h : a ∈ L) : F a = none ∧ ∃ o, H a = some o := by
  obtain ⟨n, hn, e⟩ := List.getElem_of_mem h
  have h2 : n < st.length := by rw [← x.len]; exact hn
  obtain ⟨h3, h4⟩ := x.at_ n a st[n] (by rw [List.getElem?_eq_getElem hn, e]) (List.getElem?_eq_getElem h2)
  exact ⟨h3, h4.there⟩
/-- a new still object -/
theorem Stp.still (e : ExF F H) (n : H a = none) : Stp F L H (upd F a o) L (upd H a o) := by
  have nF : F a = none := e.free n
  refine ⟨Ex.new nF, ⟨[], (List.append_nil L).symm⟩, fun b u h nb => ?_⟩
  have hb : b ≠ a := ne_of_none h n
  exact ⟨by rw [upd_ne hb]; exact h, by rw [upd_ne hb], nb⟩
theorem Sto.still (x : Sto K mg F L H st) (n : H a = none) : Sto K mg (upd F a o) L (upd H a o) st := by
  have nF := x.ex.free n
  refine ⟨fun b u h => ?_, x.nd, x.len, fun m b d h1 h2 => ?_⟩
  · by_cases hb : b = a
    · subst hb; rw [upd_same] at h ⊢; exact .inl h
    · rw [upd_ne hb] at h ⊢; exact x.ex b u h
  · obtain ⟨h3, h4⟩ := x.at_ m b d h1 h2
    obtain ⟨u, hu⟩ := h4.there
    have hb : b ≠ a := ne_of_none hu n
    refine ⟨by rw [upd_ne hb]; exact h3, h4.mono (Ex.new nF) fun u q => by rw [upd_ne hb]; exact q⟩
theorem Sto.there (x : Sto K mg F L H st) : ∀ a ∈ L, ∃ o, H a = some o := fun a h => (x.mem h).2
/-- a new object that may change -/
theorem Stp.fresh (n : H a = none) : Stp F L H F L (upd H a o) := by
  refine ⟨Ex.refl F, ⟨[], (List.append_nil L).symm⟩, fun b u h nb => ?_⟩
  have hb : b ≠ a := ne_of_none h n
  exact ⟨by rw [upd_ne hb]; exact h, rfl, nb⟩
theorem Sto.fresh (x : Sto K mg F L H st) (n : H a = none) : Sto K mg F L (upd H a o) st := by
  refine ⟨x.ex.more (Ex.new n), x.nd, x.len, fun m b d h1 h2 => ?_⟩
  obtain ⟨h3, h4⟩ := x.at_ m b d h1 h2
  obtain ⟨u, hu⟩ := h4.there
  have hb : b ≠ a := ne_of_none hu n
  exact ⟨h3, h4.mono (Ex.refl F) fun u q => by rw [upd_ne hb]; exact q⟩
/-- an object that may change stands still from now on -/
theorem Sto.freeze (x : Sto K mg F L H st) (h : H a = some o) (nL : a ∉ L) (nF : F a = none) : Sto K mg (upd F a o) L H st := by
  refine ⟨fun b u q => ?_, x.nd, x.len, fun m b d h1 h2 => ?_⟩
  · by_cases hb : b = a
    · subst hb; rw [upd_same] at q; cases q; exact .inl h
    · rw [upd_ne hb] at q; exact x.ex b u q
  · obtain ⟨h3, h4⟩ := x.at_ m b d h1 h2
    have hb : b ≠ a := fun z => nL (by rw [← z]; exact List.mem_of_getElem? h1)
    exact ⟨by rw [upd_ne hb]; exact h3, h4.mono (Ex.new nF) fun u q => q⟩
/-- .. an object that a step had made -/
theorem Stp.freeze (x : Stp F L H F1 L1 H1) (n : H a = none) (nF : F1 a = none) : Stp F L H (upd F1 a o) L1 H1 := by
  refine ⟨x.ex.trans (Ex.new nF), x.pre, fun b u h nb => ?_⟩
  obtain ⟨h1, h2, h3⟩ := x.kp b u h nb
  have hb : b ≠ a := ne_of_none h n
  exact ⟨h1, by rw [upd_ne hb]; exact h2, h3⟩
end

/-! ### outcomes -/
/-- of an expression, a call -/
inductive RC (α : Type) where
  | ok (a : α) (st : Store)
  | exc (c : Str) (fs : List (Str × D)) (st : Store)
  | bad
def RC.bind {α β : Type} (x : RC α) (f : α → Store → RC β) : RC β := match x with
  | .ok a st => f a st
  | .exc c fs st => .exc c fs st
  | .bad => .bad
@[simp] theorem RC.bind_ok {α β : Type} (a : α) (st : Store) (f : α → Store → RC β) : (RC.ok a st).bind f = f a st := rfl
@[simp] theorem RC.bind_exc {α β : Type} (c : Str) (fs : List (Str × D)) (st : Store) (f : α → Store → RC β) : (RC.exc c fs st : RC α).bind f = .exc c fs st := rfl
@[simp] theorem RC.bind_bad {α β : Type} (f : α → Store → RC β) : (RC.bad : RC α).bind f = .bad := rfl
/-- a slot: nothing, data (or an object of the store), a list or dict of its own, a caught exception -/
inductive Sl where
  | un | val (d : D) | own (d : D) | exc (c : Str) (fs : List (Str × D))
abbrev REnv := List Sl
abbrev EDen := REnv → Store → RC D
abbrev TDen := REnv → Store → RC Bool
abbrev ADen := REnv → Store → RC (List D)
/-- of a statement -/
inductive SR where
  | nx (ρ : REnv) (st : Store) | rt (d : D) (st : Store) | bk (ρ : REnv) (st : Store) | ct (ρ : REnv) (st : Store)
  | exc (c : Str) (fs : List (Str × D)) (ρ : REnv) (st : Store) | bad
abbrev SDen := REnv → Store → SR
abbrev CallF := List D → Store → RC D
end Gh
/-! Gh1: the relation between a frame and its data; readings by denotations; the core rules. -/
namespace Gh
open L2 PyProof.Rows PySem.Spec PySem

abbrev St := L2.St

/-- what stood at the def's entry; the exception that a suite holds -/
structure Ent where
  F0 : Hp
  L0 : List Addr
  H0 : Hp
  x : Option (Nat × Addr × Value × Option Addr) := none
/-- an exception of the class c with fields fs -/
def Exc (K : PySem.W.Frag) (mg : Glob) (F : Hp) (c : Str) (fs : List (Str × D)) (cls : Value) (dd : Option Addr) : Prop :=
  ∃ C d fv, mg c = some (.ref C) ∧ cls = .ref C ∧ dd = some d ∧ F d = some (.xd fv) ∧ RepF K mg F fs fv
theorem Exc.mono {K : PySem.W.Frag} {mg : Glob} {F F' : Hp} {c : Str} {fs : List (Str × D)} {cls : Value} {dd : Option Addr} (h : Exc K mg F c fs cls dd) (e : Ex F F') : Exc K mg F' c fs cls dd := by
  obtain ⟨C, d, fv, h1, h2, h3, h4, h5⟩ := h
  exact ⟨C, d, fv, h1, h2, h3, e _ _ h4, RepF.mono e fs h5⟩
structure Rl (K : PySem.W.Frag) (mg : Glob) (Γ : Ent) (F : Hp) (L : List Addr) (σ : St) (H : Hp) (ρ : REnv) (st : Store) : Prop where
  sto : Sto K mg F L H st
  stp : Stp Γ.F0 Γ.L0 Γ.H0 F L H
  sl : ∀ (i : Nat) (d : D), ρ[i]? = some (Sl.val d) → ∃ v, σ[i]? = some (some v) ∧ VRep K mg L F d v
  so : ∀ (i : Nat) (d : D), ρ[i]? = some (Sl.own d) → ∃ a, σ[i]? = some (some (.ref a)) ∧ F a = none ∧ a ∉ L ∧ Γ.H0 a = none ∧ Has K mg F H a d
  sd : ∀ (i j : Nat) (d e : D) (a : Addr), ρ[i]? = some (Sl.own d) → ρ[j]? = some (Sl.own e) → σ[i]? = some (some (.ref a)) → σ[j]? = some (some (.ref a)) → i = j
  sx : ∀ (i : Nat) (c : Str) (fs : List (Str × D)), ρ[i]? = some (Sl.exc c fs) → ∃ a cls dd, Γ.x = some (i, a, cls, dd) ∧ σ[i]? = some (some (.ref a)) ∧ Exc K mg F c fs cls dd
  len : ρ.length = σ.length
section
variable {K : PySem.W.Frag} {mg : Glob} {Γ : Ent} {F F' F1 H H' H1 : Hp} {L L' L1 : List Addr} {σ : St} {ρ : REnv} {st st' st1 : Store}
theorem Rl.step (r : Rl K mg Γ F L σ H ρ st) (s : Stp F L H F' L' H') (o : Sto K mg F' L' H' st') : Rl K mg Γ F' L' σ H' ρ st' := by
  refine ⟨o, r.stp.trans s, fun i d e => ?_, fun i d e => ?_, r.sd, fun i c fs e => ?_, r.len⟩
  · obtain ⟨v, h1, h2⟩ := r.sl i d e
    exact ⟨v, h1, s.vrep h2⟩
  · obtain ⟨a, h1, h2, h3, h4, h5⟩ := r.so i d e
    obtain ⟨u, hu⟩ := h5.there
    obtain ⟨g1, g2, g3⟩ := s.kp a u hu h3
    exact ⟨a, h1, g2.trans h2, g3, h4, h5.mono s.ex fun w q => by rw [hu] at q; cases q; exact g1⟩
  · obtain ⟨a, cls, dd, h1, h2, h3⟩ := r.sx i c fs e
    exact ⟨a, cls, dd, h1, h2, h3.mono s.ex⟩
/-- new now is new since the entry -/
theorem Rl.new0 (r : Rl K mg Γ F L σ H ρ st) {a : Addr} (n : H a = none) : Γ.H0 a = none := by
  cases q : Γ.H0 a with
  | none => rfl
  | some o =>
    by_cases hm : a ∈ Γ.L0
    · obtain ⟨u, hu⟩ := (r.sto.mem (r.stp.mem hm)).2
      rw [n] at hu; cases hu
    · have := (r.stp.kp a o q hm).1
      rw [n] at this; cases this
theorem Rl.newL (r : Rl K mg Γ F L σ H ρ st) {a : Addr} (n : H a = none) : a ∉ L := fun h => by
  obtain ⟨u, hu⟩ := (r.sto.mem h).2
  rw [n] at hu; cases hu
theorem Rl.newF (r : Rl K mg Γ F L σ H ρ st) {a : Addr} (n : H a = none) : F a = none := r.sto.ex.free n
end

/-- what is wished of an outcome -/
def Post {α : Type} (K : PySem.W.Frag) (mg : Glob) (W : WX) (σ : St) (F : Hp) (L : List Addr) (H : Hp) (r : RC α) (ok : Hp → List Addr → Hp → Store → α → Prop) : Prop := match r with
  | .ok d st' => ∀ F' L' H', Stp F L H F' L' H' → Sto K mg F' L' H' st' → ok F' L' H' st' d
  | .exc c fs st' => ∀ F' L' H' cls dd, Stp F L H F' L' H' → Sto K mg F' L' H' st' → Exc K mg F' c fs cls dd → W cls dd σ H'
  | .bad => False
section
variable {α β : Type} {K : PySem.W.Frag} {mg : Glob} {W : WX} {Γ : Ent} {F F' F1 H H' H1 : Hp} {L L' L1 : List Addr} {σ : St} {ρ : REnv} {st st' st1 : Store} {r : RC α} {f : α → Store → RC β}
  {ok ok' : Hp → List Addr → Hp → Store → α → Prop} {okb : Hp → List Addr → Hp → Store → β → Prop}
theorem Post.step (h : Post K mg W σ F L H r ok) (s : Stp F L H F1 L1 H1) : Post K mg W σ F1 L1 H1 r ok := by
  cases r with
  | ok d st' => exact fun F' L' H' s' o => h F' L' H' (s.trans s') o
  | exc c fs st' => exact fun F' L' H' cls dd s' o e => h F' L' H' cls dd (s.trans s') o e
  | bad => exact h.elim
theorem Post.imp (h : Post K mg W σ F L H r ok) (k : ∀ F' L' H' st' d, Stp F L H F' L' H' → Sto K mg F' L' H' st' → ok F' L' H' st' d → ok' F' L' H' st' d) : Post K mg W σ F L H r ok' := by
  cases r with
  | ok d st' => exact fun F' L' H' s' o => k F' L' H' st' d s' o (h F' L' H' s' o)
  | exc c fs st' => exact h
  | bad => exact h.elim
theorem Post.impE (h : Post K mg W σ F L H r ok) (k : ∀ F' L' H' st' d, r = .ok d st' → Stp F L H F' L' H' → Sto K mg F' L' H' st' → ok F' L' H' st' d → ok' F' L' H' st' d) : Post K mg W σ F L H r ok' := by
  cases r with
  | ok d st' => exact fun F' L' H' s o => k F' L' H' st' d rfl s o (h F' L' H' s o)
  | exc c fs st' => exact h
  | bad => exact h.elim
theorem Post.bind (h : Post K mg W σ F L H (r.bind f) okb) : Post K mg W σ F L H r (fun F1 L1 H1 st1 d => Post K mg W σ F1 L1 H1 (f d st1) okb) := by
  cases r with
  | ok d st' => exact fun F' L' H' s' o => Post.step (r := f d st') h s'
  | exc c fs st' => exact h
  | bad => exact h.elim
theorem Post.okD {d : α} (h : Post K mg W σ F L H (.ok d st) ok) (s : Stp F L H F' L' H') (o : Sto K mg F' L' H' st) : ok F' L' H' st d := h F' L' H' s o
theorem Post.here {d : α} (h : Post K mg W σ F L H (.ok d st) ok) (o : Sto K mg F L H st) : ok F L H st d := h F L H Stp.refl o
end

/-! ### kinds of results -/
abbrev Kd := PySem.W.Frag → Glob → St → Hp → REnv → Hp → List Addr → Hp → D → V → Prop
/-- a value -/
def kV : Kd := fun K mg _ _ _ F L _ d v => VRep K mg L F d v
/-- something that is read: a value, or a list or dict of the frame's own -/
def kR : Kd := fun K mg σ _ ρ F L _ d v => VRep K mg L F d v ∨ ∃ i : Nat, ρ[i]? = some (Sl.own d) ∧ σ[i]? = some (some v)
/-- a new list, dict, object that none knows but who asked for it -/
def kO : Kd := fun K mg _ H _ F L H' d v => ∃ a, v = .ref a ∧ H a = none ∧ F a = none ∧ a ∉ L ∧ Has K mg F H' a d

def teG (k : Kd) (K : PySem.W.Frag) (mg : Glob) (Γ : Ent) (W : WX) (m : EDen) : TE := fun σ H Q => ∃ F L ρ st, Rl K mg Γ F L σ H ρ st ∧
  Post K mg W σ F L H (m ρ st) fun F' L' H' _ d => ∀ v, k K mg σ H ρ F' L' H' d v → Q v H'
abbrev teV := teG kV
abbrev teR := teG kR
abbrev teO := teG kO
def ttG (K : PySem.W.Frag) (mg : Glob) (Γ : Ent) (W : WX) (m : TDen) : TT := fun σ H Q => ∃ F L ρ st, Rl K mg Γ F L σ H ρ st ∧
  Post K mg W σ F L H (m ρ st) fun F' L' H' _ b => Q b H'
def taG (K : PySem.W.Frag) (mg : Glob) (Γ : Ent) (W : WX) (m : ADen) : TA := fun σ H Q => ∃ F L ρ st, Rl K mg Γ F L σ H ρ st ∧
  Post K mg W σ F L H (m ρ st) fun F' L' H' _ ds => ∀ vs, VRepL K mg L' F' ds vs → Q vs H'

theorem pe_imp {X : Cx} {e : Expr} {t t' : TE} (h : PE X e t) (k : ∀ σ H Q, t' σ H Q → t σ H Q) : PE X e t' := ⟨fun pins s σ H Q I q => h.run pins s σ H Q I (k σ H Q q)⟩
theorem pt_imp {X : Cx} {e : Expr} {t t' : TT} (h : PT X e t) (k : ∀ σ H Q, t' σ H Q → t σ H Q) : PT X e t' := ⟨fun pins s σ H Q I q => h.run pins s σ H Q I (k σ H Q q)⟩
theorem pw_imp {X : Cx} {e : Expr} {t t' : TT} (h : PW X e t) (k : ∀ σ H Q, t' σ H Q → t σ H Q) : PW X e t' := ⟨fun w pins s σ H Q I q => h.run w pins s σ H Q I (k σ H Q q)⟩
theorem pa_imp {X : Cx} {es : List Expr} {t t' : TA} (h : PA X es t) (k : ∀ σ H Q, t' σ H Q → t σ H Q) : PA X es t' := ⟨fun pos pins s σ H Q I q => h.run pos pins s σ H Q I (k σ H Q q)⟩
theorem ps_imp {X : Cx} {s : Stmt} {t t' : TS} (h : PS X s t) (k : ∀ D σ H, t' D σ H → t D σ H) : PS X s t' := ⟨fun pins s σ H D I q => h.run pins s σ H D I (k D σ H q)⟩
theorem pss_imp {X : Cx} {s : List Stmt} {t t' : TS} (h : PSs X s t) (k : ∀ D σ H, t' D σ H → t D σ H) : PSs X s t' := ⟨fun pins s σ H D I q => h.run pins s σ H D I (k D σ H q)⟩

section
variable {X : Cx} {K : PySem.W.Frag} {mg : Glob} {Γ : Ent} {W : WX} {e a b c : Expr} {m ma mb mc : EDen} {pos : Pos}
/-- a value is something to be read -/
theorem g_vr (h : PE X e (teV K mg Γ W m)) : PE X e (teR K mg Γ W m) :=
  pe_imp h fun σ H Q ⟨F, L, ρ, st, r, p⟩ => ⟨F, L, ρ, st, r, p.imp fun F' L' H' st' d s o q v kv => q v (.inl kv)⟩
/-- a new object stands still: a value -/
theorem g_ov (h : PE X e (teO K mg Γ W m)) : PE X e (teV K mg Γ W m) := by
  refine pe_imp h fun σ H Q ⟨F, L, ρ, st, r, p⟩ => ⟨F, L, ρ, st, r, ?_⟩
  cases hm : m ρ st with
  | ok d st' =>
    rw [hm] at p
    intro F' L' H' s o v ⟨a, e1, n, nF, nL, hs⟩
    subst e1
    obtain ⟨u, hu⟩ := hs.there
    exact p (upd F' a u) L' H' (s.freeze n nF) (o.freeze hu nL nF) _ (.inr (hs.still hu nF))
  | exc c fs st' => rw [hm] at p; exact p
  | bad => rw [hm] at p; exact p.elim

/-! ### names, constants -/
def eVar (i : Nat) : EDen := fun ρ st => match ρ[i]? with
  | some (Sl.val d) => .ok d st
  | _ => .bad
/-- .. a list or dict of the frame's own, read -/
def ePeek (i : Nat) : EDen := fun ρ st => match ρ[i]? with
  | some (Sl.val d) => .ok d st
  | some (Sl.own d) => .ok d st
  | _ => .bad
def eC (d : D) : EDen := fun _ st => .ok d st
theorem g_var (i : Nat) {x : Str} (hN : X.N[i]? = some x := by rfl) (hv : Vis X.env.scope x := by first | exact Or.inl rfl | exact Or.inr (Or.inl rfl) | exact Or.inr (Or.inr rfl)) (hd : (x == ("__debug__" : Str)) = false := by decide)
    (hcd : (x == ("__classdict__" : Str)) = false := by decide) : PE X (.Name x pos) (teV K mg Γ W (eVar i)) := by
  refine pe_imp (pe_var hN hv hd hcd) fun σ H Q ⟨F, L, ρ, st, r, p⟩ => ?_
  unfold eVar at p
  split at p
  · rename_i d e
    obtain ⟨v, h1, h2⟩ := r.sl i d e
    exact ⟨v, h1, p.here r.sto v h2⟩
  · exact p.elim
theorem g_peek (i : Nat) {x : Str} (hN : X.N[i]? = some x := by rfl) (hv : Vis X.env.scope x := by first | exact Or.inl rfl | exact Or.inr (Or.inl rfl) | exact Or.inr (Or.inr rfl)) (hd : (x == ("__debug__" : Str)) = false := by decide)
    (hcd : (x == ("__classdict__" : Str)) = false := by decide) : PE X (.Name x pos) (teR K mg Γ W (ePeek i)) := by
  refine pe_imp (pe_var hN hv hd hcd) fun σ H Q ⟨F, L, ρ, st, r, p⟩ => ?_
  unfold ePeek at p
  split at p
  · rename_i d e
    obtain ⟨v, h1, h2⟩ := r.sl i d e
    exact ⟨v, h1, p.here r.sto v (.inl h2)⟩
  · rename_i d e
    obtain ⟨a, h1, _⟩ := r.so i d e
    exact ⟨_, h1, p.here r.sto _ (.inr ⟨i, e, h1⟩)⟩
  · exact p.elim
theorem g_c {d : D} {v : V} (h : PE X e (tC v)) (r : ∀ F, Rep K mg F d v) : PE X e (teV K mg Γ W (eC d)) :=
  pe_imp h fun σ H Q ⟨F, L, ρ, st, rl, p⟩ => p.here rl.sto v (.inr (r F))
theorem g_int {i : Int} {j pos} : PE X (.Constant (.int i) j pos) (teV K mg Γ W (eC (.int i))) := g_c pe_int fun _ => rfl
theorem g_bl {i : Bool} {j pos} : PE X (.Constant (.bool i) j pos) (teV K mg Γ W (eC (.bl i))) := g_c pe_bl fun _ => rfl
theorem g_non {j pos} : PE X (.Constant .none j pos) (teV K mg Γ W (eC .non)) := g_c pe_non fun _ => rfl
theorem g_str {x : Str} {j pos} : PE X (.Constant (.str x) j pos) (teV K mg Γ W (eC (.str x))) := g_c pe_str fun _ => rfl
/-- a global constant -/
theorem g_glob {x : Str} {d : D} {v : V} {u : Value} (hm : X.mg x = some u) (r : RelV v u) (hr : ∀ F, Rep K mg F d v) (hg : Gl X x := by rfl) (hd : (x == ("__debug__" : Str)) = false := by decide) : PE X (.Name x pos) (teV K mg Γ W (eC d)) :=
  g_c (pe_glob hg hm r hd) hr

/-! ### operations -/
abbrev Op1 := D → Store → RC D
abbrev Op2 := D → D → Store → RC D
abbrev OpN := List D → Store → RC D
def e1 (g : Op1) (ma : EDen) : EDen := fun ρ st => (ma ρ st).bind fun x st1 => g x st1
def e2 (g : Op2) (ma mb : EDen) : EDen := fun ρ st => (ma ρ st).bind fun x st1 => (mb ρ st1).bind fun y st2 => g x y st2
def eN (g : OpN) (ma : ADen) : EDen := fun ρ st => (ma ρ st).bind fun xs st1 => g xs st1
/-- what a rule by values asks is had by an operation on data -/
def Sem1 (k : Kd) (K : PySem.W.Frag) (mg : Glob) (g : Op1) (r : V → Hp → VK → Prop) : Prop :=
  ∀ (Γ : Ent) (W : WX) (F : Hp) (L : List Addr) (σ : St) (H : Hp) (ρ : REnv) (st : Store) (x : D) (v : V) (Q : VK), Rl K mg Γ F L σ H ρ st → kR K mg σ H ρ F L H x v →
    Post K mg W σ F L H (g x st) (fun F' L' H' _ d => ∀ w, k K mg σ H ρ F' L' H' d w → Q w H') → r v H Q
def Sem2 (k : Kd) (K : PySem.W.Frag) (mg : Glob) (g : Op2) (r : R2) : Prop :=
  ∀ (Γ : Ent) (W : WX) (F : Hp) (L : List Addr) (σ : St) (H : Hp) (ρ : REnv) (st : Store) (x y : D) (v u : V) (Q : VK), Rl K mg Γ F L σ H ρ st → kR K mg σ H ρ F L H x v → kR K mg σ H ρ F L H y u →
    Post K mg W σ F L H (g x y st) (fun F' L' H' _ d => ∀ w, k K mg σ H ρ F' L' H' d w → Q w H') → r v u H Q
end

/-- kinds whose result may be had later than asked -/
theorem kR.step {K : PySem.W.Frag} {mg : Glob} {σ : St} {H H0 H0' H1 F F1 H2 H3 : Hp} {ρ : REnv} {L L1 : List Addr} {d : D} {v : V} (h : kR K mg σ H0 ρ F L H d v) (s : Stp F L H1 F1 L1 H2) : kR K mg σ H0' ρ F1 L1 H3 d v := by
  rcases h with h | h
  · exact .inl (s.vrep h)
  · exact .inr h
def KLate (k : Kd) : Prop := ∀ {K : PySem.W.Frag} {mg : Glob} {σ : St} {H H1 F L H' : _} {ρ : REnv} {d : D} {v : V}, (∀ a, H a ≠ none → H1 a ≠ none) → k K mg σ H1 ρ F L H' d v → k K mg σ H ρ F L H' d v
theorem kV_late : KLate kV := fun _ h => h
theorem kR_late : KLate kR := fun _ h => h
theorem kO_late : KLate kO := fun {K mg σ H H1 F L H' ρ d v} k ⟨a, h1, h2, h3⟩ => ⟨a, h1, by
  cases q : H a with
  | none => rfl
  | some o => exact absurd h2 (k a (by rw [q]; simp)), h3⟩
theorem Stp.more {F H F' H' : Hp} {L L' : List Addr} {K : PySem.W.Frag} {mg : Glob} {st : Store} (s : Stp F L H F' L' H') (o : Sto K mg F' L' H' st) : ∀ a, H a ≠ none → H' a ≠ none := fun a h => by
  cases q : H a with
  | none => exact absurd q h
  | some u =>
    by_cases hm : a ∈ L
    · obtain ⟨w, hw⟩ := (o.mem (s.mem hm)).2
      rw [hw]; simp
    · rw [(s.kp a u q hm).1]; simp

section
variable {X : Cx} {K : PySem.W.Frag} {mg : Glob} {Γ : Ent} {W : WX} {e a b c : Expr} {m ma mb mc : EDen} {pos : Pos} {k : Kd}
theorem t2_of {r : R2} {g : Op2} (kl : KLate k) (hs : Sem2 k K mg g r) : ∀ σ H Q, teG k K mg Γ W (e2 g ma mb) σ H Q → tOp r (teR K mg Γ W ma) (teR K mg Γ W mb) σ H Q := by
  intro σ H Q ⟨F, L, ρ, st, rl, p⟩
  refine ⟨F, L, ρ, st, rl, p.bind.imp fun F1 L1 H1 st1 x s1 o1 p1 v kv => ?_⟩
  have rl1 := rl.step s1 o1
  refine ⟨F1, L1, ρ, st1, rl1, p1.bind.imp fun F2 L2 H2 st2 y s2 o2 p2 u ku => ?_⟩
  have rl2 := rl1.step s2 o2
  have m1 := s1.more o1
  have m2 := s2.more o2
  exact hs Γ W F2 L2 σ H2 ρ st2 x y v u Q rl2 (kR.step kv s2) ku (p2.imp fun F3 L3 H3 st3 d s3 o3 q w kw => q w (kl (fun a h => m2 a (m1 a h)) kw))
theorem t1_of {r : V → Hp → VK → Prop} {g : Op1} (kl : KLate k) (hs : Sem1 k K mg g r) : ∀ σ H Q, teG k K mg Γ W (e1 g ma) σ H Q → tUn r (teR K mg Γ W ma) σ H Q := by
  intro σ H Q ⟨F, L, ρ, st, rl, p⟩
  refine ⟨F, L, ρ, st, rl, p.bind.imp fun F1 L1 H1 st1 x s1 o1 p1 v kv => ?_⟩
  have rl1 := rl.step s1 o1
  have m1 := s1.more o1
  exact hs Γ W F1 L1 σ H1 ρ st1 x v Q rl1 kv (p1.imp fun F3 L3 H3 st3 d s3 o3 q w kw => q w (kl m1 kw))
theorem g_bin {op : Operator} {r : R2} {g : Op2} (ho : OpR X (binaryOp op) r) (kl : KLate k) (hs : Sem2 k K mg g r) (ha : PE X a (teR K mg Γ W ma)) (hb : PE X b (teR K mg Γ W mb)) : PE X (.BinOp a op b pos) (teG k K mg Γ W (e2 g ma mb)) :=
  pe_imp (pe_op ho ha hb) (t2_of kl hs)
theorem g_un {op : UnaryOp} {r : V → Hp → VK → Prop} {g : Op1} (ho : UnR X (unaryOp op) r) (kl : KLate k) (hs : Sem1 k K mg g r) (ha : PE X a (teR K mg Γ W ma)) : PE X (.UnaryOp op a pos) (teG k K mg Γ W (e1 g ma)) :=
  pe_imp (pe_un ho ha) (t1_of kl hs)
theorem g_cmp {op : CmpOp} {r : R2} {g : Op2} (ho : OpR X (compareOp op) r) (hs : Sem2 kV K mg g r) (ha : PE X a (teR K mg Γ W ma)) (hb : PE X b (teR K mg Γ W mb)) (hm : behindInMarks op b = false) : PE X (.Compare a [op] [b] pos) (teV K mg Γ W (e2 g ma mb)) :=
  pe_imp (pe_cmpR ho ha hb hm) (t2_of kV_late hs)
theorem g_ix {r : R2} {g : Op2} (hr : IxR X r) (hs : Sem2 kV K mg g r) (ha : PE X a (teR K mg Γ W ma)) (hb : PE X b (teR K mg Γ W mb)) (hx : PlainIx b := by exact fun _ _ => rfl) : PE X (.Subscript a b pos) (teV K mg Γ W (e2 g ma mb)) :=
  pe_imp (pe_ix hr ha hb hx) (t2_of kV_late hs)
/-- a op1 b op2 c, the answers truth values -/
def eChain (g g' : Op2) (ma mb mc : EDen) : EDen := fun ρ st => (ma ρ st).bind fun x st1 => (mb ρ st1).bind fun y st2 => (g x y st2).bind fun z st3 => match z with
  | .bl true => (mc ρ st3).bind fun u st4 => g' y u st4
  | .bl false => .ok (.bl false) st3
  | _ => .bad
theorem g_chain {op op' : CmpOp} {r r' : R2} {g g' : Op2} (ho : OpR X (compareOp op) r) (ho' : OpR X (compareOp op') r') (hs : Sem2 kV K mg g r) (hs' : Sem2 kV K mg g' r') (ha : PE X a (teR K mg Γ W ma)) (hb : PE X b (teR K mg Γ W mb)) (hc : PE X c (teR K mg Γ W mc))
    (hm : lastMarks [op, op'] [b, c] = false := by with_unfolding_all rfl) : PE X (.Compare a [op, op'] [b, c] pos) (teV K mg Γ W (eChain g g' ma mb mc)) := by
  refine pe_imp (pe_chain ho ho' ha hb hc hm) fun σ H Q ⟨F, L, ρ, st, rl, p⟩ => ?_
  refine ⟨F, L, ρ, st, rl, p.bind.imp fun F1 L1 H1 st1 x s1 o1 p1 v kv => ?_⟩
  have rl1 := rl.step s1 o1
  refine ⟨F1, L1, ρ, st1, rl1, p1.bind.imp fun F2 L2 H2 st2 y s2 o2 p2 u ku => ?_⟩
  have rl2 := rl1.step s2 o2
  refine hs Γ W F2 L2 σ H2 ρ st2 x y v u _ rl2 (kR.step kv s2) ku (p2.bind.imp fun F3 L3 H3 st3 z s3 o3 p3 w kw => ?_)
  have rl3 := rl2.step s3 o3
  split at p3
  · obtain rfl := kw.bl
    refine ⟨true, rfl, ?_⟩
    rw [if_pos rfl]
    refine ⟨F3, L3, ρ, st3, rl3, p3.bind.imp fun F4 L4 H4 st4 u' s4 o4 p4 v' kv' => ?_⟩
    have rl4 := rl3.step s4 o4
    exact hs' Γ W F4 L4 σ H4 ρ st4 y u' u v' Q rl4 (kR.step (H0 := H2) (H := H3) (kR.step ku s3) s4) kv' p4
  · obtain rfl := kw.bl
    refine ⟨false, rfl, ?_⟩
    rw [if_neg Bool.false_ne_true]
    exact p3.here o3 _ (.inr rfl)
  · exact p3.elim
end
end Gh
/-! Gh2: tests, arguments, displays, calls, attributes. -/
namespace Gh
open L2 PyProof.Rows PySem.Spec PySem

/-! ### tests -/
section
variable {X : Cx} {K : PySem.W.Frag} {mg : Glob} {Γ : Ent} {W : WX} {e a b c : Expr} {m ma mb mc : EDen} {t u : TDen} {pos : Pos} {k : Kd}
def tB (m : EDen) : TDen := fun ρ st => (m ρ st).bind fun d st1 => match d with
  | .bl b => .ok b st1
  | _ => .bad
/-- a value's truth -/
def truth : D → Option Bool
  | .non => some false
  | .bl b => some b
  | .int i => some (i != 0)
  | .str s => if s.length ≤ sizeLine then some ((s.length : Int) != 0) else none
  | .lst ds => some (!ds.isEmpty)
  | .tup ds => some (!ds.isEmpty)
  | _ => none
def tTr (m : EDen) : TDen := fun ρ st => (m ρ st).bind fun d st1 => match truth d with
  | some b => .ok b st1
  | none => .bad
theorem g_tb (h : PE X a (teR K mg Γ W m)) (he : ∀ whole, isTrue a X.env whole = (do let v ← whole; standAt a.pos; holding [v] (truthy v)) := by intro _; rfl) : PT X a (ttG K mg Γ W (tB m)) := by
  refine pt_imp (pt_val h he) fun σ H Q ⟨F, L, ρ, st, rl, p⟩ => ⟨F, L, ρ, st, rl, p.bind.imp fun F1 L1 H1 st1 d s o p1 v kv => ?_⟩
  split at p1
  · rename_i b
    rcases kv with kv | ⟨i, h1, _⟩
    · exact ⟨b, kv.bl, p1.here o⟩
    · obtain ⟨_, _, _, _, _, hs⟩ := (rl.step s o).so i _ h1
      exact hs.elim
  · exact p1.elim
theorem kR.truth {F H H0 : Hp} {L : List Addr} {σ : St} {ρ : REnv} {st : Store} {d : D} {v : V} {b : Bool} (rl : Rl K mg Γ F L σ H ρ st) (kv : kR K mg σ H0 ρ F L H d v) (e : truth d = some b) : TruV K v H b := by
  cases d with
  | non =>
    rcases kv with kv | ⟨i, h1, _⟩
    · rw [kv.non]; cases e; rfl
    · obtain ⟨_, _, _, _, _, hs⟩ := rl.so i _ h1; exact hs.elim
  | bl x =>
    rcases kv with kv | ⟨i, h1, _⟩
    · rw [kv.bl]; cases e; rfl
    · obtain ⟨_, _, _, _, _, hs⟩ := rl.so i _ h1; exact hs.elim
  | int x =>
    rcases kv with kv | ⟨i, h1, _⟩
    · rw [kv.int]; cases e; rfl
    · obtain ⟨_, _, _, _, _, hs⟩ := rl.so i _ h1; exact hs.elim
  | str x =>
    rcases kv with kv | ⟨i, h1, _⟩
    · rw [kv.str]
      have e : (if x.length ≤ sizeLine then some ((x.length : Int) != 0) else none) = some b := e
      split at e
      · rename_i hl; cases e; exact ⟨hl, rfl⟩
      · cases e
    · obtain ⟨_, _, _, _, _, hs⟩ := rl.so i _ h1; exact hs.elim
  | lst ds =>
    cases e
    rcases kv with kv | ⟨i, h1, h2⟩
    · rcases kv with ⟨n, a, q, _⟩ | kv
      · cases q
      · obtain ⟨a, vs, rfl, h3, h4⟩ := kv
        exact .inl ⟨vs, .inl (.inl (rl.sto.ex.lst h3)), by rw [h4.nil_iff]⟩
    · obtain ⟨a, g1, _, _, _, vs, g2, g3⟩ := rl.so i _ h1
      rw [g1] at h2; cases h2
      exact .inl ⟨vs, .inl (.inl g2), by rw [g3.nil_iff]⟩
  | tup ds =>
    cases e
    rcases kv with kv | ⟨i, h1, h2⟩
    · rcases kv with ⟨n, a, q, _⟩ | kv
      · cases q
      · obtain ⟨a, vs, rfl, h3, h4⟩ := kv
        exact .inr (.inl ⟨vs, rl.sto.ex.t h3, by rw [h4.nil_iff]⟩)
    · obtain ⟨_, _, _, _, _, hs⟩ := rl.so i _ h1; exact hs.elim
  | scr ds => cases e
  | dct ds => cases e
  | ins c fs => cases e
  | loc n => cases e
theorem g_tr (hK : X.K = K) (h : PE X a (teR K mg Γ W m)) (he : ∀ whole, isTrue a X.env whole = (do let v ← whole; standAt a.pos; holding [v] (truthy v)) := by intro _; rfl) : PT X a (ttG K mg Γ W (tTr m)) := by
  refine pt_imp (pt_truth h he) fun σ H Q ⟨F, L, ρ, st, rl, p⟩ => ⟨F, L, ρ, st, rl, p.bind.imp fun F1 L1 H1 st1 d s o p1 v kv => ?_⟩
  split at p1
  · rename_i b e
    exact ⟨b, by rw [hK]; exact kv.truth (rl.step s o) e, p1.here o⟩
  · exact p1.elim
def tAnd (t u : TDen) : TDen := fun ρ st => (t ρ st).bind fun b st1 => if b then u ρ st1 else .ok false st1
def tOr (t u : TDen) : TDen := fun ρ st => (t ρ st).bind fun b st1 => if b then .ok true st1 else u ρ st1
def tNot (t : TDen) : TDen := fun ρ st => (t ρ st).bind fun b st1 => .ok (!b) st1
theorem g_and {rest : List Expr} (ha : PT X a (ttG K mg Γ W t)) (hb : PW X (.BoolOp .And (b :: rest) pos) (ttG K mg Γ W u)) : PW X (.BoolOp .And (a :: b :: rest) pos) (ttG K mg Γ W (tAnd t u)) := by
  refine pw_imp (pw_and ha hb) fun σ H Q ⟨F, L, ρ, st, rl, p⟩ => ⟨F, L, ρ, st, rl, p.bind.imp fun F1 L1 H1 st1 d s o p1 => ?_⟩
  cases d with
  | true => exact iteT ⟨F1, L1, ρ, st1, rl.step s o, p1⟩
  | false => exact iteF (p1.here o)
theorem g_or {rest : List Expr} (ha : PT X a (ttG K mg Γ W t)) (hb : PW X (.BoolOp .Or (b :: rest) pos) (ttG K mg Γ W u)) : PW X (.BoolOp .Or (a :: b :: rest) pos) (ttG K mg Γ W (tOr t u)) := by
  refine pw_imp (pw_or ha hb) fun σ H Q ⟨F, L, ρ, st, rl, p⟩ => ⟨F, L, ρ, st, rl, p.bind.imp fun F1 L1 H1 st1 d s o p1 => ?_⟩
  cases d with
  | true => exact iteT (p1.here o)
  | false => exact iteF ⟨F1, L1, ρ, st1, rl.step s o, p1⟩
theorem g_not (ha : PT X a (ttG K mg Γ W t)) : PT X (.UnaryOp .Not a pos) (ttG K mg Γ W (tNot t)) :=
  pt_imp (pt_not ha) fun σ H Q ⟨F, L, ρ, st, rl, p⟩ => ⟨F, L, ρ, st, rl, p.bind.imp fun F1 L1 H1 st1 d s o p1 => p1.here o⟩
/-- x or y, x and y, not x as values -/
def eOr (ma mb : EDen) : EDen := fun ρ st => (ma ρ st).bind fun d st1 => match truth d with
  | some true => .ok d st1
  | some false => mb ρ st1
  | none => .bad
def eAnd (ma mb : EDen) : EDen := fun ρ st => (ma ρ st).bind fun d st1 => match truth d with
  | some false => .ok d st1
  | some true => mb ρ st1
  | none => .bad
def eNot (ma : EDen) : EDen := fun ρ st => (ma ρ st).bind fun d st1 => match truth d with
  | some b => .ok (.bl (!b)) st1
  | none => .bad
theorem g_orV (hK : X.K = K) {rest : List Expr} (ha : PE X a (teV K mg Γ W ma)) (hb : PE X (.BoolOp .Or (b :: rest) pos) (teV K mg Γ W mb)) : PE X (.BoolOp .Or (a :: b :: rest) pos) (teV K mg Γ W (eOr ma mb)) := by
  refine pe_imp (pe_orT ha hb) fun σ H Q ⟨F, L, ρ, st, rl, p⟩ => ⟨F, L, ρ, st, rl, p.bind.imp fun F1 L1 H1 st1 d s o p1 v kv => ?_⟩
  have tr : ∀ b, truth d = some b → TruV X.K v H1 b := fun b e => by rw [hK]; exact kR.truth (H0 := H) (rl.step s o) (.inl kv) e
  split at p1
  · rename_i e
    exact ⟨true, tr _ e, iteT (p1.here o v kv)⟩
  · rename_i e
    exact ⟨false, tr _ e, iteF ⟨F1, L1, ρ, st1, rl.step s o, p1⟩⟩
  · exact p1.elim
theorem g_andV (hK : X.K = K) {rest : List Expr} (ha : PE X a (teV K mg Γ W ma)) (hb : PE X (.BoolOp .And (b :: rest) pos) (teV K mg Γ W mb)) : PE X (.BoolOp .And (a :: b :: rest) pos) (teV K mg Γ W (eAnd ma mb)) := by
  refine pe_imp (pe_andT ha hb) fun σ H Q ⟨F, L, ρ, st, rl, p⟩ => ⟨F, L, ρ, st, rl, p.bind.imp fun F1 L1 H1 st1 d s o p1 v kv => ?_⟩
  have tr : ∀ b, truth d = some b → TruV X.K v H1 b := fun b e => by rw [hK]; exact kR.truth (H0 := H) (rl.step s o) (.inl kv) e
  split at p1
  · rename_i e
    exact ⟨false, tr _ e, iteF (p1.here o v kv)⟩
  · rename_i e
    exact ⟨true, tr _ e, iteT ⟨F1, L1, ρ, st1, rl.step s o, p1⟩⟩
  · exact p1.elim
theorem g_notV (hK : X.K = K) (ha : PE X a (teR K mg Γ W ma)) : PE X (.UnaryOp .Not a pos) (teV K mg Γ W (eNot ma)) := by
  refine pe_imp (pe_notT ha) fun σ H Q ⟨F, L, ρ, st, rl, p⟩ => ⟨F, L, ρ, st, rl, p.bind.imp fun F1 L1 H1 st1 d s o p1 v kv => ?_⟩
  split at p1
  · rename_i b e
    exact ⟨b, by rw [hK]; exact kv.truth (rl.step s o) e, p1.here o _ (.inr rfl)⟩
  · exact p1.elim
theorem g_one {op : BoolOp} (ha : PE X a (teG k K mg Γ W ma)) : PE X (.BoolOp op [a] pos) (teG k K mg Γ W ma) := pe_one ha
def eIf (t : TDen) (ma mb : EDen) : EDen := fun ρ st => (t ρ st).bind fun b st1 => if b then ma ρ st1 else mb ρ st1
theorem g_if (kl : KLate k) (ht : PT X c (ttG K mg Γ W t)) (ha : PE X a (teG k K mg Γ W ma)) (hb : PE X b (teG k K mg Γ W mb)) : PE X (.IfExp c a b pos) (teG k K mg Γ W (eIf t ma mb)) := by
  refine pe_imp (pe_ifExp ht ha hb) fun σ H Q ⟨F, L, ρ, st, rl, p⟩ => ⟨F, L, ρ, st, rl, p.bind.imp fun F1 L1 H1 st1 d s o p1 => ?_⟩
  have mo := s.more o
  cases d with
  | true => exact iteT ⟨F1, L1, ρ, st1, rl.step s o, p1.imp fun F2 L2 H2 st2 x s2 o2 q v kv => q v (kl mo kv)⟩
  | false => exact iteF ⟨F1, L1, ρ, st1, rl.step s o, p1.imp fun F2 L2 H2 st2 x s2 o2 q v kv => q v (kl mo kv)⟩
end

/-! ### arguments and displays -/
def aNil : ADen := fun _ st => .ok [] st
def aCons (m : EDen) (r : ADen) : ADen := fun ρ st => (m ρ st).bind fun d st1 => (r ρ st1).bind fun ds st2 => .ok (d :: ds) st2
/-- *e, e a tuple or a list -/
def starOf : D → Option (List D)
  | .tup es => some es
  | .lst es => some es
  | _ => none
def aStar (m : EDen) (r : ADen) : ADen := fun ρ st => (m ρ st).bind fun d st1 => match starOf d with
  | some es => (r ρ st1).bind fun ds st2 => .ok (es ++ ds) st2
  | none => .bad
def isLoc : D → Bool
  | .loc _ => true
  | _ => false
/-- items of a display: no object of the store among them -/
def flatL (ds : List D) : Bool := ds.all fun d => !isLoc d
section
variable {K : PySem.W.Frag} {mg : Glob} {L : List Addr} {F : Hp}
theorem VRep.flat {d : D} {v : V} (h : VRep K mg L F d v) (n : isLoc d = false) : Rep K mg F d v := by
  rcases h with ⟨m, a, e, _⟩ | h
  · rw [e] at n; cases n
  · exact h
theorem VRepL.flat : ∀ {ds : List D} {vs : List V}, VRepL K mg L F ds vs → flatL ds = true → RepL K mg F ds vs
  | [], vs, h, _ => h
  | d :: ds, vs, h, n => by
    obtain ⟨v, r, h1, h2, h3⟩ := h
    unfold flatL at n
    rw [List.all_cons, Bool.and_eq_true] at n
    exact ⟨v, r, h1, h2.flat (by simpa using n.1), VRepL.flat h3 n.2⟩
theorem RepL.up : ∀ {ds : List D} {vs : List V}, RepL K mg F ds vs → VRepL K mg L F ds vs
  | [], vs, h => h
  | d :: ds, vs, h => by
    obtain ⟨v, r, h1, h2, h3⟩ := h
    exact ⟨v, r, h1, .inr h2, RepL.up h3⟩
theorem VRepL.append : ∀ {ds : List D} {vs : List V} {es : List D} {ws : List V}, VRepL K mg L F ds vs → VRepL K mg L F es ws → VRepL K mg L F (ds ++ es) (vs ++ ws)
  | [], vs, es, ws, h, h' => by
    have h : vs = [] := h
    subst h
    exact h'
  | d :: ds, vs, es, ws, h, h' => by
    obtain ⟨v, r, rfl, h2, h3⟩ := h
    exact ⟨v, r ++ ws, rfl, h2, VRepL.append h3 h'⟩
end
section
variable {X : Cx} {K : PySem.W.Frag} {mg : Glob} {Γ : Ent} {W : WX} {e a b c : Expr} {es : List Expr} {m ma mb mc : EDen} {ms : ADen} {pos p : Pos} {k : Kd}
theorem g_nil : PA X [] (taG K mg Γ W aNil) := pa_imp pa_nil fun σ H Q ⟨F, L, ρ, st, rl, q⟩ => q.here rl.sto [] rfl
theorem g_cons (ha : PE X e (teV K mg Γ W m)) (hr : PA X es (taG K mg Γ W ms)) (hs : starEach (e :: es) X.env = (false, eval e X.env) :: starEach es X.env := by rfl) : PA X (e :: es) (taG K mg Γ W (aCons m ms)) := by
  refine pa_imp (pa_cons ha hr hs) fun σ H Q ⟨F, L, ρ, st, rl, q⟩ => ⟨F, L, ρ, st, rl, q.bind.imp fun F1 L1 H1 st1 d s o q1 v kv => ?_⟩
  refine ⟨F1, L1, ρ, st1, rl.step s o, q1.bind.imp fun F2 L2 H2 st2 ds s2 o2 q2 vs kvs => ?_⟩
  exact q2.here o2 (v :: vs) ⟨v, vs, rfl, s2.vrep kv, kvs⟩
theorem kR.star {F H H0 : Hp} {L : List Addr} {σ : St} {ρ : REnv} {st : Store} {d : D} {v : V} {es : List D} (rl : Rl K mg Γ F L σ H ρ st) (kv : kR K mg σ H0 ρ F L H d v) (e : d = .tup es ∨ d = .lst es) :
    ∃ a vs, v = .ref a ∧ (SqT K H a vs ∨ SqL K H a vs) ∧ RepL K mg F es vs := by
  rcases e with rfl | rfl
  · rcases kv with kv | ⟨i, h1, h2⟩
    · rcases kv with ⟨n, a, q, _⟩ | kv
      · cases q
      · obtain ⟨a, vs, rfl, h3, h4⟩ := kv
        exact ⟨a, vs, rfl, .inl (rl.sto.ex.t h3), h4⟩
    · obtain ⟨_, _, _, _, _, hs⟩ := rl.so i _ h1; exact hs.elim
  · rcases kv with kv | ⟨i, h1, h2⟩
    · rcases kv with ⟨n, a, q, _⟩ | kv
      · cases q
      · obtain ⟨a, vs, rfl, h3, h4⟩ := kv
        exact ⟨a, vs, rfl, .inr (.inl (.inl (rl.sto.ex.lst h3))), h4⟩
    · obtain ⟨a, g1, _, _, _, vs, g2, g3⟩ := rl.so i _ h1
      rw [g1] at h2; cases h2
      exact ⟨a, vs, rfl, .inr (.inl (.inl g2)), g3⟩
theorem g_star (hK : X.K = K) (ha : PE X e (teR K mg Γ W m)) (hr : PA X es (taG K mg Γ W ms)) (hs : starEach (.Starred e p :: es) X.env = (true, eval e X.env) :: starEach es X.env := by rfl) : PA X (.Starred e p :: es) (taG K mg Γ W (aStar m ms)) := by
  refine pa_imp (StX.pa_star ha hr hs) fun σ H Q ⟨F, L, ρ, st, rl, q⟩ => ⟨F, L, ρ, st, rl, q.bind.imp fun F1 L1 H1 st1 d s o q1 v kv => ?_⟩
  have rl1 := rl.step s o
  split at q1
  · rename_i es e
    have e : d = .tup es ∨ d = .lst es := by
      cases d with
      | tup _ => cases e; exact .inl rfl
      | lst _ => cases e; exact .inr rfl
      | _ => cases e
    obtain ⟨a, vs, rfl, h1, h2⟩ := kv.star rl1 e
    refine ⟨a, vs, rfl, by rw [hK]; exact h1, F1, L1, ρ, st1, rl1, q1.bind.imp fun F2 L2 H2 st2 ds s2 o2 q3 ws kws => ?_⟩
    exact q3.here o2 (vs ++ ws) ((s2.vrepl h2.up).append kws)
  · exact q1.elim

/-- (a, b, ..), [a, b, ..] -/
def eTup (ms : ADen) : EDen := fun ρ st => (ms ρ st).bind fun ds st1 => if flatL ds = true ∧ ds.length ≤ 1000 then .ok (.tup ds) st1 else .bad
def eLst (ms : ADen) : EDen := fun ρ st => (ms ρ st).bind fun ds st1 => if flatL ds = true ∧ ds.length ≤ 100000 then .ok (.lst ds) st1 else .bad
theorem Sto.lay {F H : Hp} {L : List Addr} {st : Store} {p : Addr} {o : HO} (x : Sto K mg F L H st) (n : H p = none) : Stp F L H (upd F p o) L (upd H p o) ∧ Sto K mg (upd F p o) L (upd H p o) st := ⟨Stp.still x.ex n, x.still n⟩
theorem g_tup {x1} (h : PA X es (taG K mg Γ W ms)) : PE X (.Tuple es x1 pos) (teV K mg Γ W (eTup ms)) := by
  refine pe_imp (pe_tup h) fun σ H Q ⟨F, L, ρ, st, rl, q⟩ => ⟨F, L, ρ, st, rl, q.bind.imp fun F1 L1 H1 st1 ds s o q1 vs kvs => ?_⟩
  split at q1
  · rename_i c
    have r := kvs.flat c.1
    refine ⟨by rw [← r.length]; have := c.2; rw [sizeLine_eq]; omega, fun p np => ?_⟩
    obtain ⟨s2, o2⟩ := o.lay (o := .tup vs) np
    refine q1 _ _ _ s2 o2 _ (.inr ⟨p, vs, rfl, .inl (.inl upd_same), RepL.mono s2.ex ds r⟩)
  · exact q1.elim
theorem g_lst (h : PA X es (taG K mg Γ W ms)) : PE X (.List es pos) (teO K mg Γ W (eLst ms)) := by
  refine pe_imp (pe_lst h) fun σ H Q ⟨F, L, ρ, st, rl, q⟩ => ⟨F, L, ρ, st, rl, q.bind.imp fun F1 L1 H1 st1 ds s o q1 vs kvs => ?_⟩
  split at q1
  · rename_i c
    have r := kvs.flat c.1
    refine ⟨by rw [← r.length]; have := c.2; rw [sizeLine_eq]; omega, fun p np => ?_⟩
    have rl1 := rl.step s o
    refine q1 _ _ _ (Stp.fresh np) (o.fresh np) _ ⟨p, rfl, ?_, rl1.newF np, rl1.newL np, vs, upd_same, r⟩
    cases h : H p with
    | none => rfl
    | some u => exact absurd np (s.more o p (by rw [h]; simp))
  · exact q1.elim

/-! ### calls -/
/-- what a def promises: what m tells -/
def spG (K : PySem.W.Frag) (mg : Glob) (m : CallF) : Sp := fun vs H Q E => ∃ F L ds st, Sto K mg F L H st ∧ VRepL K mg L F ds vs ∧
  Post K mg (fun c d _ H' => E c d H') [] F L H (m ds st) fun F' L' H' _ d => ∀ v, VRep K mg L' F' d v → Q v H'
theorem Post.wish {α : Type} {F H : Hp} {L : List Addr} {σ : St} {r : RC α} {ok : Hp → List Addr → Hp → Store → α → Prop} (h : Post K mg W σ F L H r ok) : Post K mg (fun c d _ H' => WE W σ c d H') [] F L H r ok := by
  cases r with
  | ok d st => exact h
  | exc c fs st => exact h
  | bad => exact h.elim
abbrev eCall (f : CallF) (ms : ADen) : EDen := eN f ms
theorem spG_of {Q : VK} {f : CallF} {σ : St} {H : Hp} {t : TA} (kl : ∀ {d v F L}, VRep K mg L F d v → VRep K mg L F d v) (h : teV K mg Γ W (eCall f ms) σ H Q) : taG K mg Γ W ms σ H fun vs H1 => spG K mg f vs H1 Q (WE W σ) := by
  obtain ⟨F, L, ρ, st, rl, q⟩ := h
  exact ⟨F, L, ρ, st, rl, q.bind.imp fun F1 L1 H1 st1 ds s o q1 vs kvs => ⟨F1, L1, ds, st1, o, kvs, Post.wish q1⟩⟩
section
variable {kk : Nat} {f C : Addr} {fd : FuncData} {ps : List Str} {x mname : Str} {cf : CallF} {apos : Pos}
theorem g_call (F : FnOk X.prog X.w X.K X.mg X.base (L2.CX X.prog X.w) kk f fd ps (spG K mg cf)) (hr : Room kk X.A) (hm : X.mg x = some (.ref f)) (hk : PySem.W.keepIn X.K (.ref f) = true) (hb : Binds X.K fd ps []) (tk : Takes X W)
    (ha : PA X (e :: es) (taG K mg Γ W ms)) (hg : Gl X x := by rfl) (hdb : (x == ("__debug__" : Str)) = false := by decide) (he : starEach (e :: es) X.env = (false, eval e X.env) :: starEach es X.env := by rfl) (hpl : (backTo pos (starEach es X.env)).any (·.1) = false := by rfl) :
    PE X (.Call (.Name x p) (e :: es) [] pos) (teV K mg Γ W (eCall cf ms)) :=
  pe_imp (pe_callS F hr hg hm hk hb (passAt tk) ha hdb he hpl) fun σ H Q h => spG_of (t := tNil) (fun h => h) h
theorem g_call0 (F : FnOk X.prog X.w X.K X.mg X.base (L2.CX X.prog X.w) kk f fd ps (spG K mg cf)) (hr : Room kk X.A) (hm : X.mg x = some (.ref f)) (hk : PySem.W.keepIn X.K (.ref f) = true) (hb : Binds X.K fd ps []) (tk : Takes X W)
    (hg : Gl X x := by rfl) (hdb : (x == ("__debug__" : Str)) = false := by decide) : PE X (.Call (.Name x p) [] [] pos) (teV K mg Γ W (eCall cf aNil)) := by
  refine ⟨fun pins s σ H Q I ⟨F', L, ρ, st, rl, q⟩ => ?_⟩
  exact wpAny_Call_Name_kw (ld_glob I hg hm (PySem.W.callWith_K0 I.kIn hk (run_fnS (us := []) (E := WE W) F hr hb (passAt tk σ) I .nil ⟨F', L, [], st, rl.sto, rfl, Post.wish q⟩)) hdb)
/-- an instance, still or in the store -/
theorem inst_at {F H : Hp} {L : List Addr} {st : Store} {d : D} {v : V} {c : Str} {fs : List (Str × D)} (o : Sto K mg F L H st) (kv : VRep K mg L F d v) (e : d = .ins c fs ∨ ∃ n : Nat, d = .loc n ∧ st[n]? = some (.ins c fs)) :
    ∃ a C dx fv, v = .ref a ∧ mg c = some (.ref C) ∧ H a = some (.ins C dx fv) ∧ RepF K mg F fs fv := by
  rcases e with rfl | ⟨n, rfl, e⟩
  · rcases kv with ⟨n, a, q, _⟩ | ⟨a, C, dx, fv, rfl, h1, h2, h3⟩
    · cases q
    · exact ⟨a, C, dx, fv, rfl, h1, o.ex.ins h2, h3⟩
  · obtain ⟨a, h1, rfl⟩ := kv.loc
    obtain ⟨nF, C, dx, fv, h2, h3, h4⟩ := o.at_ n a _ h1 e
    exact ⟨a, C, dx, fv, rfl, h2, h3, h4⟩
/-- the class of the instance, as eMeth and eAtt look for it -/
def instOf (st : Store) : D → Option (Str × List (Str × D))
  | .ins c fs => some (c, fs)
  | .loc n => (match st[n]? with
    | some (.ins c fs) => some (c, fs)
    | _ => none)
  | _ => none
theorem instOf_at {st : Store} {d : D} {c : Str} {fs : List (Str × D)} (h : instOf st d = some (c, fs)) : d = .ins c fs ∨ ∃ n : Nat, d = .loc n ∧ st[n]? = some (.ins c fs) := by
  cases d with
  | ins c' fs' => cases h; exact .inl rfl
  | loc n =>
    have h : (match st[n]? with
      | some (.ins c fs) => some (c, fs)
      | _ => none) = some (c, fs) := h
    split at h
    · rename_i c' fs' e
      cases h
      exact .inr ⟨n, rfl, e⟩
    · cases h
  | _ => cases h
/-- o.m(..), o of the class c -/
def eMeth (c m : Str) (f : CallF) (mo : EDen) (ms : ADen) : EDen := fun ρ st => (mo ρ st).bind fun d st1 => match instOf st1 d with
  | some (c', fs) => if c' = c ∧ (fs.lookup m).isNone = true then (ms ρ st1).bind fun ds st2 => f (d :: ds) st2 else .bad
  | none => .bad
theorem meth_go {Q : VK} {mo : EDen} {c : Str} {σ : St} {H : Hp} (hmg : X.mg = mg) (hC : mg c = some (.ref C)) (h : teV K mg Γ W (eMeth c mname cf mo ms) σ H Q) : teV K mg Γ W mo σ H fun x H1 => ∃ a dx fs, x = .ref a ∧ H1 a = some (.ins C dx fs) ∧ fs.lookup mname = none ∧
    taG K mg Γ W ms σ H1 fun vs H2 => spG K mg cf (x :: vs) H2 Q (WE W σ) := by
  obtain ⟨F, L, ρ, st, rl, q⟩ := h
  refine ⟨F, L, ρ, st, rl, q.bind.imp fun F1 L1 H1 st1 d s o q1 v kv => ?_⟩
  split at q1
  · rename_i c' fs e
    split at q1
    · rename_i hc
      obtain ⟨rfl, hn⟩ := hc
      obtain ⟨a, C', dx, fv, rfl, h1, h2, h3⟩ := inst_at o kv (instOf_at e)
      rw [hC] at h1; cases h1
      refine ⟨a, dx, fv, rfl, h2, h3.lookNone (by simpa using hn), F1, L1, ρ, st1, rl.step s o, q1.bind.imp fun F2 L2 H2 st2 ds s2 o2 q2 vs kvs => ?_⟩
      exact ⟨F2, L2, d :: ds, st2, o2, ⟨_, vs, rfl, s2.vrep kv, kvs⟩, Post.wish q2⟩
    · exact q1.elim
  · exact q1.elim
theorem g_meth {o : Expr} {mo : EDen} {c : Str} {pl : Sem Bool} (hmg : X.mg = mg) (ho : PE X o (teV K mg Γ W mo)) (hC : mg c = some (.ref C)) (cl : Cls X.K C) (hm : Meth X.K C mname f) (F : FnOk X.prog X.w X.K X.mg X.base (L2.CX X.prog X.w) kk f fd ps (spG K mg cf)) (hr : Room kk X.A)
    (hb : Binds X.K fd ps []) (tk : Takes X W) (ha : PA X (e :: es) (taG K mg Γ W ms)) (hst : starEach (e :: es) X.env = (false, eval e X.env) :: starEach es X.env := by rfl) (hpl : (backTo pos (starEach es X.env)).any (·.1) = false := by rfl)
    (ht : eval (.Call (.Attribute o mname apos) (e :: es) [] pos) X.env = (do let ov ← eval o X.env; standAt apos.atName; let (f, first) ← holding [ov] (getMethod ov mname pl); callWith pos f first (backTo pos (starEach (e :: es) X.env)) (backToKw pos (keywordEach [] X.env))) := by rfl) :
    PE X (.Call (.Attribute o mname apos) (e :: es) [] pos) (teV K mg Γ W (eMeth c mname cf mo ms)) := by
  refine ⟨fun pins s σ H Q I h => PySem.W.methodCall_KW (pl := pl) (thn (ho.run pins s σ H _ I (meth_go hmg hC h)) fun u s1 hh => ?_) ht⟩
  obtain ⟨x, H1, I1, rx, a, dx, fs, ex, ea, l, q⟩ := hh
  cases ex
  cases (show u = Value.ref a from rx)
  exact getmeth_ok I1 ea cl hm l (PySem.W.callWith_K (first := [.ref a]) (h₀ := X.base) I.ok.mod.kin hm.kp (thn (ha.run pos pins s1 σ H1 _ I1 q) fun us s2 ⟨vs, H2, I2, r, q2⟩ =>
    ⟨I2.kIn, run_fnS (us := .ref a :: us) (vs := .ref a :: vs) (E := WE W) F hr hb (passAt tk σ) I2 (.cons rfl r) q2⟩) hst hpl)
theorem g_meth0 {o : Expr} {mo : EDen} {c : Str} {pl : Sem Bool} (hmg : X.mg = mg) (ho : PE X o (teV K mg Γ W mo)) (hC : mg c = some (.ref C)) (cl : Cls X.K C) (hm : Meth X.K C mname f) (F : FnOk X.prog X.w X.K X.mg X.base (L2.CX X.prog X.w) kk f fd ps (spG K mg cf)) (hr : Room kk X.A)
    (hb : Binds X.K fd ps []) (tk : Takes X W)
    (ht : eval (.Call (.Attribute o mname apos) [] [] pos) X.env = (do let ov ← eval o X.env; standAt apos.atName; let (f, first) ← holding [ov] (getMethod ov mname pl); callWith pos f first (backTo pos (starEach [] X.env)) (backToKw pos (keywordEach [] X.env))) := by rfl) :
    PE X (.Call (.Attribute o mname apos) [] [] pos) (teV K mg Γ W (eMeth c mname cf mo aNil)) := by
  refine ⟨fun pins s σ H Q I h => PySem.W.methodCall_KW (pl := pl) (thn (ho.run pins s σ H _ I (meth_go hmg hC h)) fun u s1 hh => ?_) ht⟩
  obtain ⟨x, H1, I1, rx, a, dx, fs, ex, ea, l, F', L', ρ', st', rl', q⟩ := hh
  cases ex
  cases (show u = Value.ref a from rx)
  obtain ⟨F2, L2', ds, st2, o2, k2, q2⟩ := q.here rl'.sto [] rfl
  exact getmeth_ok I1 ea cl hm l (PySem.W.callWith_K0 (first := [.ref a]) I1.kIn hm.kp (run_fnS (us := [.ref a]) (vs := [.ref a]) (E := WE W) F hr hb (passAt tk σ) I1 (.cons rfl .nil) ⟨F2, L2', ds, st2, o2, k2, q2⟩))
/-- o.f -/
def eAtt (f : Str) : Op1 := fun d st => match instOf st d with
  | some (_, fs) => (match fs.lookup f with
    | some x => .ok x st
    | none => .bad)
  | none => .bad
/-- what the text must have for the attribute f of any class of cs -/
def AttOk (K : PySem.W.Frag) (mg : Glob) (f : Str) (cs : List Str) : Prop := ∀ c ∈ cs, ∀ C, mg c = some (.ref C) → Cls K C ∧ NoAttr K C f
def eAttC (f : Str) (cs : List Str) : Op1 := fun d st => match instOf st d with
  | some (c, fs) => if c ∈ cs then (match fs.lookup f with
    | some x => .ok x st
    | none => .bad) else .bad
  | none => .bad
theorem g_att {o : Expr} {mo : EDen} {fn : Str} {cs : List Str} (hK : X.K = K) (A : AttOk K mg fn cs) (ho : PE X o (teV K mg Γ W mo)) (hb : attributeBase o fn X.env (eval o X.env) = eval o X.env := by rfl) : PE X (.Attribute o fn pos) (teV K mg Γ W (e1 (eAttC fn cs) mo)) := by
  refine pe_imp (pe_fld ho hb) fun σ H Q ⟨F, L, ρ, st, rl, q⟩ => ⟨F, L, ρ, st, rl, q.bind.imp fun F1 L1 H1 st1 d s o q1 v kv => ?_⟩
  unfold eAttC at q1
  split at q1
  · rename_i c fs e
    split at q1
    · rename_i hc
      split at q1
      · rename_i x ex
        obtain ⟨a, C, dx, fv, rfl, h1, h2, h3⟩ := inst_at o kv (instOf_at e)
        obtain ⟨w, hw, rw'⟩ := h3.look ex
        obtain ⟨cl, na⟩ := A c hc C h1
        exact ⟨a, C, dx, fv, w, rfl, h2, by rw [hK]; exact cl, by rw [hK]; exact na, hw, q1.here o w (.inr rw')⟩
      · exact q1.elim
    · exact q1.elim
  · exact q1.elim
end
end
end Gh
/-! Gh3: instances made; statements. -/
namespace Gh
open L2 PyProof.Rows PySem.Spec PySem

section
variable {K : PySem.W.Frag} {mg : Glob} {F F' H H' : Hp} {L M : List Addr} {st st' : Store}
theorem Sto.take (o : Sto K mg F (L ++ M) H st) : Sto K mg F L H (st.take L.length) := by
  have hl := o.len
  rw [List.length_append] at hl
  refine ⟨o.ex, (List.nodup_append.mp o.nd).1, by rw [List.length_take]; omega, fun n a d h1 h2 => ?_⟩
  obtain ⟨hn, _⟩ := List.getElem?_eq_some_iff.mp h1
  rw [List.getElem?_take_of_lt hn] at h2
  exact o.at_ n a d (by rw [List.getElem?_append_left hn]; exact h1) h2
theorem Stp.take (s : Stp F L H F' (L ++ M) H') : Stp F L H F' L H' :=
  ⟨s.ex, ⟨[], (List.append_nil L).symm⟩, fun a o h n => ⟨(s.kp a o h n).1, (s.kp a o h n).2.1, n⟩⟩
theorem Sto.add {a : Addr} {d : D} (o : Sto K mg F L H st) (h : Has K mg F H a d) (nF : F a = none) (nL : a ∉ L) : Sto K mg F (L ++ [a]) H (st ++ [d]) := by
  refine ⟨o.ex, ?_, by rw [List.length_append, List.length_append, o.len] <;> rfl, fun n b e h1 h2 => ?_⟩
  · rw [List.nodup_append]
    refine ⟨o.nd, List.nodup_cons.mpr ⟨by simp, List.nodup_nil⟩, fun x hx y hy => ?_⟩
    have : y = a := by simpa using hy
    rw [this]
    exact fun z => nL (z ▸ hx)
  · by_cases hn : n < L.length
    · rw [List.getElem?_append_left hn] at h1
      rw [List.getElem?_append_left (by rw [← o.len]; exact hn)] at h2
      exact o.at_ n b e h1 h2
    · have hn' : L.length ≤ n := Nat.not_lt.mp hn
      rw [List.getElem?_append_right hn'] at h1
      rw [List.getElem?_append_right (by rw [← o.len]; exact hn')] at h2
      cases q : n - L.length with
      | zero =>
        rw [q] at h1
        rw [← o.len, q] at h2
        cases h1; cases h2
        exact ⟨nF, h⟩
      | succ k => rw [q] at h1; simp at h1
end

section
variable {X : Cx} {K : PySem.W.Frag} {mg : Glob} {Γ : Ent} {W : WX} {e a b : Expr} {es : List Expr} {m ma mb : EDen} {ms : ADen} {pos p : Pos} {k : Kd}
variable {kk : Nat} {f C : Addr} {fd : FuncData} {ps : List Str} {x c : Str} {cf : CallF}
/-- a new instance, in the store, behind its __init__ -/
def initD (c : Str) (f : CallF) (ds : List D) (st : Store) : RC D := (f (.loc st.length :: ds) (st ++ [.ins c []])).bind fun d st2 => match d with
  | .non => .ok (.loc st.length) st2
  | _ => .bad
/-- C(..), to be changed by methods: an object of the store -/
def eMakeM (c : Str) (f : CallF) (ms : ADen) : EDen := fun ρ st => (ms ρ st).bind fun ds st1 => initD c f ds st1
/-- C(..), never changed behind __init__ -/
def stillD (n : Nat) (r : RC D) : RC D := match r with
  | .ok _ st => (match st[n]? with
    | some d => .ok d (st.take n)
    | none => .bad)
  | .exc c fs st => .exc c fs (st.take n)
  | .bad => .bad
def eMake (c : Str) (f : CallF) (ms : ADen) : EDen := fun ρ st => (ms ρ st).bind fun ds st1 => stillD st1.length (initD c f ds st1)
theorem run_mkS {pins : List (Addr × Obj)} {σ : St} {H : Hp} {s : Shared} {Q : VK} {us : List Value} {vs : List V} {sp : Sp} {CX : CXT} {E : St → XK} (M : Mk X.K C f) (F : FnOk X.prog X.w X.K X.mg X.base CX kk f fd ps sp) (hr : Room (kk + 1) X.A) (hb : Binds X.K fd ps [])
    (hx : PassesAt CX X σ (E σ)) (I : Inv X pins σ H s) (r : Vals vs us)
    (h : ∀ x dx, H x = none → H dx = none → dx ≠ x → sp (.ref x :: vs) (upd (upd H dx (.own x)) x (.ins C dx [])) (fun v H2 => v = .non ∧ Q (.ref x) H2) (E σ)) :
    wpAny (model X.prog X.w) X.A (call (.ref C) us) (EP X pins σ Q) X.xe s := by
  have q0 := h (s.heap.objs.size + 1) s.heap.objs.size (I.hok.fresh (Nat.le_succ _)) (I.hok.fresh (Nat.le_refl _)) (Nat.ne_of_lt (Nat.lt_succ_self _))
  have J := Inv.made (C := C) I
  have rr : Vals (V.ref (s.heap.objs.size + 1) :: vs) (Value.ref (s.heap.objs.size + 1) :: us) := .cons rfl r
  have hl : (Value.ref (s.heap.objs.size + 1) :: us).length = ps.length := by rw [← rr.length]; exact F.len _ _ _ _ q0
  have bb := hb { s with heap := (s.heap.push PySem.W.emptyDict).push (PySem.W.instObj C s.heap.objs.size) } (Value.ref (s.heap.objs.size + 1) :: us) J.kIn (by rw [List.append_nil]; exact hl)
  rw [List.append_nil] at bb
  refine wpAny_call (make_map (f := f) I.kIn M.makes M.init (beq_iff_eq.mp M.fn) (codeAny_mono (F.run _ X.stack _ _ ⟨Value.ref (s.heap.objs.size + 1) :: us, []⟩ (Value.ref (s.heap.objs.size + 1) :: us) _ _ (E σ) (hr.make C us []) (J.env0.make C us []) bb rr q0) fun z s' hz => ?_))
  cases z with
  | error e => exact hx pins _ _ e s' J hz
  | ok fl =>
    cases fl with
    | ret u =>
      obtain ⟨v, H', I3, rv, ev, q3⟩ := J.after hz
      cases ev
      exact ⟨rv, V.ref (s.heap.objs.size + 1), H', I3, rfl, q3⟩
    | _ => exact hz.elim
theorem Post.stillD {n : Nat} {F H : Hp} {L : List Addr} {σ : St} {r : RC D} {ok : Hp → List Addr → Hp → Store → D → Prop} (hl : L.length = n) (h : Post K mg W σ F L H (stillD n r) ok) :
    Post K mg W σ F L H r fun _ L' H' _ _ => ∀ a : Addr, L'[n]? = some a → H a = none → ∃ F2 st2 e, Stp F L H F2 L H' ∧ Rep K mg F2 e (.ref a) ∧ ok F2 L H' st2 e := by
  cases r with
  | bad => exact h.elim
  | exc c fs st' =>
    intro F' L' H' cls dd s o x
    obtain ⟨M, e⟩ := s.pre
    subst e
    exact h F' L H' cls dd s.take (by rw [← hl]; exact o.take) x
  | ok d st' =>
    intro F' L' H' s o a ha hn
    obtain ⟨M, e⟩ := s.pre
    subst e
    have h : Post K mg W σ F L H (match st'[n]? with
      | some d => RC.ok d (st'.take n)
      | none => .bad) ok := h
    split at h
    · rename_i e he
      obtain ⟨nF, hs⟩ := o.at_ n a e ha he
      obtain ⟨u, hu⟩ := hs.there
      have nL : a ∉ L := fun z => by
        obtain ⟨m, hm, e⟩ := List.getElem_of_mem z
        have h1 : (L ++ M)[m]? = some a := by rw [List.getElem?_append_left hm, List.getElem?_eq_getElem hm, e]
        obtain ⟨hn1, e1⟩ := List.getElem?_eq_some_iff.mp ha
        obtain ⟨hm1, e2⟩ := List.getElem?_eq_some_iff.mp h1
        have := (List.getElem_inj o.nd).mp (e1.trans e2.symm)
        omega
      have o1 : Sto K mg F' L H' (st'.take n) := by rw [← hl]; exact o.take
      have s1 := (s.take).freeze (o := u) hn nF
      exact ⟨_, _, e, s1, hs.still hu nF, h _ _ _ s1 (o1.freeze hu nL nF)⟩
    · exact h.elim
theorem init_goL {F H : Hp} {L : List Addr} {σ : St} {st : Store} {ds : List D} {vs : List V} {Q : VK} {ok : Hp → List Addr → Hp → Store → D → Prop} (hC : mg c = some (.ref C)) (o : Sto K mg F L H st) (kvs : VRepL K mg L F ds vs)
    (q : Post K mg W σ F L H (initD c cf ds st) ok) (hq : ∀ F' L' H' st' x, H x = none → L'[st.length]? = some x → ok F' L' H' st' (.loc st.length) → Q (.ref x) H') (x dx : Addr) (nx : H x = none) (ndx : H dx = none) (ne : dx ≠ x) :
    spG K mg cf (.ref x :: vs) (upd (upd H dx (.own x)) x (.ins C dx [])) (fun v H2 => v = .non ∧ Q (.ref x) H2) (WE W σ) := by
  have nL : x ∉ L := fun z => by
    obtain ⟨u, hu⟩ := (o.mem z).2
    rw [nx] at hu; cases hu
  have hn : (upd H dx (.own x)) x = none := by rw [upd_ne (Ne.symm ne)]; exact nx
  have s1 : Stp F L H F L (upd (upd H dx (.own x)) x (.ins C dx [])) := (Stp.fresh ndx).trans (Stp.fresh hn)
  have o1 : Sto K mg F L (upd (upd H dx (.own x)) x (.ins C dx [])) st := (o.fresh ndx).fresh hn
  have nF : F x = none := o.ex.free nx
  have o2 : Sto K mg F (L ++ [x]) (upd (upd H dx (.own x)) x (.ins C dx [])) (st ++ [.ins c []]) := o1.add (d := .ins c []) ⟨C, dx, [], hC, upd_same, rfl⟩ nF nL
  have s2 : Stp F L H F (L ++ [x]) (upd (upd H dx (.own x)) x (.ins C dx [])) := by
    refine ⟨s1.ex, ⟨[x], rfl⟩, fun a u h n => ⟨(s1.kp a u h n).1, rfl, fun z => ?_⟩⟩
    rcases List.mem_append.mp z with z | z
    · exact n z
    · have : a = x := by simpa using z
      rw [this, nx] at h; cases h
  have lx : (L ++ [x])[st.length]? = some x := by rw [← o.len]; simp
  refine ⟨F, L ++ [x], .loc st.length :: ds, st ++ [.ins c []], o2, ⟨_, vs, rfl, .inl ⟨st.length, x, rfl, lx, rfl⟩, kvs.mono (Ex.refl F)⟩, ?_⟩
  refine Post.wish (W := W) (σ := σ) ((Post.step q.bind s2).imp fun F' L' H' st' d s' o' p v kv => ?_)
  split at p
  · refine ⟨kv.non, hq F' L' H' st' x nx ?_ (p.here o')⟩
    obtain ⟨M, e⟩ := s'.pre
    rw [e, List.getElem?_append_left (by rw [← o.len]; simp)]
    exact lx
  · exact p.elim
theorem g_make (M : Mk X.K C f) (F : FnOk X.prog X.w X.K X.mg X.base (L2.CX X.prog X.w) kk f fd ps (spG K mg cf)) (hr : Room (kk + 1) X.A) (hm : X.mg c = some (.ref C)) (hmg : mg c = some (.ref C)) (hb : Binds X.K fd ps []) (tk : Takes X W) (ha : PA X (e :: es) (taG K mg Γ W ms))
    (hg : Gl X c := by rfl) (hdb : (c == ("__debug__" : Str)) = false := by decide) (he : starEach (e :: es) X.env = (false, eval e X.env) :: starEach es X.env := by rfl) (hpl : (backTo pos (starEach es X.env)).any (·.1) = false := by rfl) :
    PE X (.Call (.Name c p) (e :: es) [] pos) (teV K mg Γ W (eMake c cf ms)) := by
  refine ⟨fun pins s σ H Q I ⟨F', L, ρ, st, rl, q⟩ => wpAny_Call_Name_kw (ld_glob I hg hm ?_ hdb)⟩
  have q' : taG K mg Γ W ms σ H fun vs H1 => ∀ x dx, H1 x = none → H1 dx = none → dx ≠ x → spG K mg cf (.ref x :: vs) (upd (upd H1 dx (.own x)) x (.ins C dx [])) (fun v H2 => v = .non ∧ Q (.ref x) H2) (WE W σ) := by
    refine ⟨F', L, ρ, st, rl, q.bind.imp fun F1 L1 H1 st1 ds s1 o1 q1 vs kvs => ?_⟩
    exact init_goL hmg o1 kvs (Post.stillD o1.len q1) fun F2 L2 H2 st2 x nx lx h => by
      obtain ⟨F3, st3, d, s3, r3, h3⟩ := h x lx nx
      exact h3 _ (.inr r3)
  exact PySem.W.callWith_K (h₀ := X.base) I.ok.mod.kin M.kp (thn (ha.run pos pins s σ H _ I q') fun us s1 ⟨vs, H1, I1, r, q⟩ => ⟨I1.kIn, run_mkS (E := WE W) M F hr hb (passAt tk σ) I1 r q⟩) he hpl
theorem g_makeM (M : Mk X.K C f) (F : FnOk X.prog X.w X.K X.mg X.base (L2.CX X.prog X.w) kk f fd ps (spG K mg cf)) (hr : Room (kk + 1) X.A) (hm : X.mg c = some (.ref C)) (hmg : mg c = some (.ref C)) (hb : Binds X.K fd ps []) (tk : Takes X W) (ha : PA X (e :: es) (taG K mg Γ W ms))
    (hg : Gl X c := by rfl) (hdb : (c == ("__debug__" : Str)) = false := by decide) (he : starEach (e :: es) X.env = (false, eval e X.env) :: starEach es X.env := by rfl) (hpl : (backTo pos (starEach es X.env)).any (·.1) = false := by rfl) :
    PE X (.Call (.Name c p) (e :: es) [] pos) (teV K mg Γ W (eMakeM c cf ms)) := by
  refine ⟨fun pins s σ H Q I ⟨F', L, ρ, st, rl, q⟩ => wpAny_Call_Name_kw (ld_glob I hg hm ?_ hdb)⟩
  have q' : taG K mg Γ W ms σ H fun vs H1 => ∀ x dx, H1 x = none → H1 dx = none → dx ≠ x → spG K mg cf (.ref x :: vs) (upd (upd H1 dx (.own x)) x (.ins C dx [])) (fun v H2 => v = .non ∧ Q (.ref x) H2) (WE W σ) := by
    refine ⟨F', L, ρ, st, rl, q.bind.imp fun F1 L1 H1 st1 ds s1 o1 q1 vs kvs => ?_⟩
    exact init_goL hmg o1 kvs q1 fun F2 L2 H2 st2 x nx lx h => h _ (.inl ⟨_, x, rfl, lx, rfl⟩)
  exact PySem.W.callWith_K (h₀ := X.base) I.ok.mod.kin M.kp (thn (ha.run pos pins s σ H _ I q') fun us s1 ⟨vs, H1, I1, r, q⟩ => ⟨I1.kIn, run_mkS (E := WE W) M F hr hb (passAt tk σ) I1 r q⟩) he hpl
theorem g_makeM0 (M : Mk X.K C f) (F : FnOk X.prog X.w X.K X.mg X.base (L2.CX X.prog X.w) kk f fd ps (spG K mg cf)) (hr : Room (kk + 1) X.A) (hm : X.mg c = some (.ref C)) (hmg : mg c = some (.ref C)) (hb : Binds X.K fd ps []) (tk : Takes X W)
    (hg : Gl X c := by rfl) (hdb : (c == ("__debug__" : Str)) = false := by decide) : PE X (.Call (.Name c p) [] [] pos) (teV K mg Γ W (eMakeM c cf aNil)) := by
  refine ⟨fun pins s σ H Q I ⟨F', L, ρ, st, rl, q⟩ => wpAny_Call_Name_kw (ld_glob I hg hm ?_ hdb)⟩
  have q1 := q.bind.here (d := []) (st := st) rl.sto
  exact PySem.W.callWith_K0 I.kIn M.kp (run_mkS (us := []) (vs := []) (E := WE W) M F hr hb (passAt tk σ) I .nil fun x dx nx ndx ne =>
    init_goL hmg rl.sto (show VRepL K mg L F' [] [] from rfl) q1 (fun F2 L2 H2 st2 x nx lx h => h _ (.inl ⟨_, x, rfl, lx, rfl⟩)) x dx nx ndx ne)
end
end Gh
/-! Gh4: statements. -/
namespace Gh
open L2 PyProof.Rows PySem.Spec PySem

/-! ### slots changed -/
section
variable {K : PySem.W.Frag} {mg : Glob} {Γ : Ent} {F F' H H' : Hp} {L L' : List Addr} {σ : St} {ρ : REnv} {st st' : Store} {d e : D} {v : V} {a : Addr} {i : Nat}
theorem set_get {α : Type} {l : List α} {i j : Nat} {x y : α} (h : (l.set i x)[j]? = some y) : (j = i ∧ y = x ∧ i < l.length) ∨ (j ≠ i ∧ l[j]? = some y) := by
  by_cases e : j = i
  · subst e
    have hl : j < l.length := by
      have := (List.getElem?_eq_some_iff.mp h).1
      rwa [List.length_set] at this
    rw [List.getElem?_set_self hl] at h
    cases h
    exact .inl ⟨rfl, rfl, hl⟩
  · rw [List.getElem?_set_ne (Ne.symm e)] at h
    exact .inr ⟨e, h⟩
/-- a slot gets something: x by ρ, z by σ -/
theorem Rl.set (r : Rl K mg Γ F L σ H ρ st) (i : Nat) (x : Sl) (z : Option V) (hv : ∀ d, x = .val d → ∃ v, z = some v ∧ VRep K mg L F d v)
    (ho : ∀ d, x = .own d → ∃ a, z = some (.ref a) ∧ F a = none ∧ a ∉ L ∧ Γ.H0 a = none ∧ Has K mg F H a d ∧ ∀ (j : Nat) (e : D), j ≠ i → ρ[j]? = some (Sl.own e) → σ[j]? ≠ some (some (.ref a)))
    (hx : ∀ c fs, x = .exc c fs → ∃ a cls dd, Γ.x = some (i, a, cls, dd) ∧ z = some (.ref a) ∧ Exc K mg F c fs cls dd) : Rl K mg Γ F L (σ.set i z) H (ρ.set i x) st := by
  have sg : ∀ {j : Nat} {w : Option V}, j ≠ i → σ[j]? = some w → (σ.set i z)[j]? = some w := fun {j w} n h => by rw [List.getElem?_set_ne (Ne.symm n)]; exact h
  have ss : i < ρ.length → (σ.set i z)[i]? = some z := fun h => List.getElem?_set_self (by rw [← r.len]; exact h)
  refine ⟨r.sto, r.stp, fun j d h => ?_, fun j d h => ?_, fun j l d e b h1 h2 h3 h4 => ?_, fun j c fs h => ?_, by rw [List.length_set, List.length_set]; exact r.len⟩
  · rcases set_get h with ⟨rfl, q, hl⟩ | ⟨n, h⟩
    · obtain ⟨v, rfl, h2⟩ := hv d q.symm
      exact ⟨v, ss hl, h2⟩
    · obtain ⟨v, h1, h2⟩ := r.sl j d h
      exact ⟨v, sg n h1, h2⟩
  · rcases set_get h with ⟨rfl, q, hl⟩ | ⟨n, h⟩
    · obtain ⟨a, rfl, h2, h3, h4, h5, _⟩ := ho d q.symm
      exact ⟨a, ss hl, h2, h3, h4, h5⟩
    · obtain ⟨a, h1, h2⟩ := r.so j d h
      exact ⟨a, sg n h1, h2⟩
  · rcases set_get h1 with ⟨rfl, q, hl⟩ | ⟨n, g1⟩
    · rcases set_get h2 with ⟨rfl, q2, _⟩ | ⟨n2, g2⟩
      · rfl
      · obtain ⟨a, e1, _, _, _, _, hu⟩ := ho d q.symm
        rw [ss hl, e1] at h3
        cases h3
        rw [List.getElem?_set_ne (Ne.symm n2)] at h4
        exact absurd h4 (hu l e n2 g2)
    · rcases set_get h2 with ⟨rfl, q2, hl⟩ | ⟨n2, g2⟩
      · obtain ⟨a, e1, _, _, _, _, hu⟩ := ho e q2.symm
        rw [ss hl, e1] at h4
        cases h4
        rw [List.getElem?_set_ne (Ne.symm n)] at h3
        exact absurd h3 (hu j d n g1)
      · rw [List.getElem?_set_ne (Ne.symm n)] at h3
        rw [List.getElem?_set_ne (Ne.symm n2)] at h4
        exact r.sd j l d e b g1 g2 h3 h4
  · rcases set_get h with ⟨rfl, q, hl⟩ | ⟨n, h⟩
    · obtain ⟨a, cls, dd, h1, rfl, h3⟩ := hx c fs q.symm
      exact ⟨a, cls, dd, h1, ss hl, h3⟩
    · obtain ⟨a, cls, dd, h1, h2, h3⟩ := r.sx j c fs h
      exact ⟨a, cls, dd, h1, sg n h2, h3⟩
theorem Rl.setV (r : Rl K mg Γ F L σ H ρ st) (i : Nat) (h : VRep K mg L F d v) : Rl K mg Γ F L (σ.set i (some v)) H (ρ.set i (.val d)) st :=
  r.set i _ _ (fun e q => by cases q; exact ⟨v, rfl, h⟩) (fun e q => by cases q) (fun c fs q => by cases q)
theorem Rl.setU (r : Rl K mg Γ F L σ H ρ st) (i : Nat) (z : Option V) : Rl K mg Γ F L (σ.set i z) H (ρ.set i .un) st :=
  r.set i _ _ (fun e q => by cases q) (fun e q => by cases q) (fun c fs q => by cases q)
theorem Rl.setO (r : Rl K mg Γ F L σ H ρ st) (i : Nat) (nF : F a = none) (nL : a ∉ L) (n0 : Γ.H0 a = none) (hs : Has K mg F H a d) (hu : ∀ (j : Nat) (e : D), ρ[j]? = some (Sl.own e) → σ[j]? ≠ some (some (.ref a))) :
    Rl K mg Γ F L (σ.set i (some (.ref a))) H (ρ.set i (.own d)) st :=
  r.set i _ _ (fun e q => by cases q) (fun e q => by cases q; exact ⟨a, rfl, nF, nL, n0, hs, fun j e _ h => hu j e h⟩) (fun c fs q => by cases q)
/-- what a slot owns is changed -/
theorem Rl.mut (r : Rl K mg Γ F L σ H ρ st) {i : Nat} {o : HO} (h1 : ρ[i]? = some (Sl.own d)) (h2 : σ[i]? = some (some (.ref a))) (hs : ∀ H', H' a = some o → Has K mg F H' a e) : Rl K mg Γ F L σ (upd H a o) (ρ.set i (.own e)) st := by
  obtain ⟨b, e1, nF, nL, n0, hh⟩ := r.so i d h1
  rw [h2] at e1; cases e1
  have sto : Sto K mg F L (upd H a o) st := by
    refine ⟨fun b u q => ?_, r.sto.nd, r.sto.len, fun n b u q1 q2 => ?_⟩
    · have hb : b ≠ a := fun z => by rw [z, nF] at q; cases q
      rw [upd_ne hb]
      exact r.sto.ex b u q
    · obtain ⟨g1, g2⟩ := r.sto.at_ n b u q1 q2
      have hb : b ≠ a := fun z => nL (z ▸ List.mem_of_getElem? q1)
      exact ⟨g1, g2.mono (Ex.refl F) fun w q => by rw [upd_ne hb]; exact q⟩
  have stp : Stp Γ.F0 Γ.L0 Γ.H0 F L (upd H a o) := by
    refine ⟨r.stp.ex, r.stp.pre, fun b u q n => ?_⟩
    obtain ⟨g1, g2, g3⟩ := r.stp.kp b u q n
    have hb : b ≠ a := fun z => by rw [z, n0] at q; cases q
    exact ⟨by rw [upd_ne hb]; exact g1, g2, g3⟩
  have base : Rl K mg Γ F L σ (upd H a o) (ρ.set i .un) st := by
    have r' := r.setU i (some (.ref a))
    have es : σ.set i (some (V.ref a)) = σ := by
      apply List.ext_getElem? 
      intro j
      by_cases hj : j = i
      · subst hj
        rw [List.getElem?_set_self (List.getElem?_eq_some_iff.mp h2).1, h2]
      · rw [List.getElem?_set_ne (Ne.symm hj)]
    rw [es] at r'
    refine ⟨sto, stp, r'.sl, fun j u q => ?_, r'.sd, r'.sx, r'.len⟩
    obtain ⟨b, g1, g2, g3, g4, g5⟩ := r'.so j u q
    refine ⟨b, g1, g2, g3, g4, g5.mono (Ex.refl F) fun w z => ?_⟩
    have hb : b ≠ a := fun z => by
      subst z
      rcases set_get q with ⟨_, q, _⟩ | ⟨n, q⟩
      · cases q
      · exact n (r.sd j i u d b q h1 g1 h2)
    rw [upd_ne hb]; exact z
  have fin := base.setO (d := e) (a := a) i nF nL n0 (hs _ upd_same) (fun j u q => ?_)
  · have es : σ.set i (some (V.ref a)) = σ := by
      apply List.ext_getElem? 
      intro j
      by_cases hj : j = i
      · subst hj
        rw [List.getElem?_set_self (List.getElem?_eq_some_iff.mp h2).1, h2]
      · rw [List.getElem?_set_ne (Ne.symm hj)]
    rw [es, List.set_set] at fin
    exact fin
  · rcases set_get q with ⟨_, q, _⟩ | ⟨n, q⟩
    · cases q
    · exact fun z => n (r.sd j i u d a q h1 z h2)
/-- what a slot owns stands still from now on -/
theorem Rl.frz (r : Rl K mg Γ F L σ H ρ st) {i : Nat} (h1 : ρ[i]? = some (Sl.own d)) : ∃ F', Ex F F' ∧ Rl K mg Γ F' L σ H (ρ.set i (.val d)) st := by
  obtain ⟨a, h2, nF, nL, n0, hs⟩ := r.so i d h1
  obtain ⟨o, ho⟩ := hs.there
  have ex : Ex F (upd F a o) := Ex.new nF
  have sto := r.sto.freeze ho nL nF
  have stp : Stp Γ.F0 Γ.L0 Γ.H0 (upd F a o) L H := r.stp.freeze n0 nF
  have es : σ.set i (some (V.ref a)) = σ := by
    apply List.ext_getElem? 
    intro j
    by_cases hj : j = i
    · subst hj
      rw [List.getElem?_set_self (List.getElem?_eq_some_iff.mp h2).1, h2]
    · rw [List.getElem?_set_ne (Ne.symm hj)]
  have r1 := r.setU i (some (.ref a))
  rw [es] at r1
  have r2 : Rl K mg Γ (upd F a o) L σ H (ρ.set i .un) st := by
    refine ⟨sto, stp, fun j u q => ?_, fun j u q => ?_, r1.sd, fun j c fs q => ?_, r1.len⟩
    · obtain ⟨v, g1, g2⟩ := r1.sl j u q
      refine ⟨v, g1, ?_⟩
      have := g2.mono (M := []) ex
      rwa [List.append_nil] at this
    · obtain ⟨b, g1, g2, g3, g4, g5⟩ := r1.so j u q
      have hb : b ≠ a := fun z => by
        subst z
        rcases set_get q with ⟨_, q, _⟩ | ⟨n, q⟩
        · cases q
        · exact n (r.sd j i u d b q h1 g1 h2)
      exact ⟨b, g1, by rw [upd_ne hb]; exact g2, g3, g4, g5.mono ex fun w z => z⟩
    · obtain ⟨b, cls, dd, g1, g2, g3⟩ := r1.sx j c fs q
      exact ⟨b, cls, dd, g1, g2, g3.mono ex⟩
  have r3 := r2.setV (d := d) (v := .ref a) i (.inr (hs.still ho nF))
  rw [es, List.set_set] at r3
  exact ⟨_, ex, r3⟩
end

/-! ### readings of statements -/
def SPost (K : PySem.W.Frag) (mg : Glob) (Γ : Ent) (W : WX) (D' : Ends) (r : SR) : Prop := match r with
  | .nx ρ st => ∀ F L σ H, Rl K mg Γ F L σ H ρ st → D'.nx σ H
  | .rt d st => ∀ F L σ H ρ v, Rl K mg Γ F L σ H ρ st → VRep K mg L F d v → D'.rt v H
  | .bk ρ st => ∀ F L σ H, Rl K mg Γ F L σ H ρ st → D'.bk σ H
  | .ct ρ st => ∀ F L σ H, Rl K mg Γ F L σ H ρ st → D'.ct σ H
  | .exc c fs ρ st => ∀ F L σ H cls dd, Rl K mg Γ F L σ H ρ st → Exc K mg F c fs cls dd → W cls dd σ H
  | .bad => False
def tsG (K : PySem.W.Frag) (mg : Glob) (Γ : Ent) (W : WX) (m : SDen) : TS := fun D' σ H => ∃ F L ρ st, Rl K mg Γ F L σ H ρ st ∧ SPost K mg Γ W D' (m ρ st)
/-- an expression's outcome, then .. -/
def RC.s {α : Type} (r : RC α) (ρ : REnv) (f : α → Store → SR) : SR := match r with
  | .ok d st => f d st
  | .exc c fs st => .exc c fs ρ st
  | .bad => .bad
@[simp] theorem RC.s_ok {α : Type} (d : α) (st : Store) (ρ : REnv) (f : α → Store → SR) : (RC.ok d st).s ρ f = f d st := rfl
@[simp] theorem RC.s_exc {α : Type} (c : Str) (fs : List (Str × D)) (st : Store) (ρ : REnv) (f : α → Store → SR) : (RC.exc c fs st : RC α).s ρ f = .exc c fs ρ st := rfl
@[simp] theorem RC.s_bad {α : Type} (ρ : REnv) (f : α → Store → SR) : (RC.bad : RC α).s ρ f = .bad := rfl
section
variable {K : PySem.W.Frag} {mg : Glob} {Γ : Ent} {W : WX} {F H : Hp} {L : List Addr} {σ : St} {ρ : REnv} {st : Store} {D' : Ends}
theorem SPost.s {α : Type} {r : RC α} {f : α → Store → SR} (h : SPost K mg Γ W D' (r.s ρ f)) (rl : Rl K mg Γ F L σ H ρ st) : Post K mg W σ F L H r fun _ _ _ st' d => SPost K mg Γ W D' (f d st') := by
  cases r with
  | ok d st' => exact fun F' L' H' s o => h
  | exc c fs st' => exact fun F' L' H' cls dd s o x => h F' L' σ H' cls dd (rl.step s o) x
  | bad => exact h.elim
end
section
variable {X : Cx} {K : PySem.W.Frag} {mg : Glob} {Γ : Ent} {W : WX} {e a b c : Expr} {es : List Expr} {m ma mb : EDen} {ms : ADen} {pos pos' tpos p : Pos} {k : Kd} {sa sb : SDen} {st0 : Stmt} {rest body orelse : List Stmt} {t : TDen}
def sNil : SDen := fun ρ st => .nx ρ st
def sSeq (sa sb : SDen) : SDen := fun ρ st => match sa ρ st with
  | .nx ρ' st' => sb ρ' st'
  | r => r
theorem s_nil : PSs X [] (tsG K mg Γ W sNil) := pss_imp pss_nil fun D' σ H ⟨F, L, ρ, st, rl, q⟩ => q F L σ H rl
theorem s_cons (h1 : PS X st0 (tsG K mg Γ W sa)) (h2 : PSs X rest (tsG K mg Γ W sb)) : PSs X (st0 :: rest) (tsG K mg Γ W (sSeq sa sb)) := by
  refine pss_imp (pss_cons h1 h2) fun D' σ H ⟨F, L, ρ, st, rl, q⟩ => ⟨F, L, ρ, st, rl, ?_⟩
  unfold sSeq at q
  cases h : sa ρ st with
  | nx ρ' st' => rw [h] at q; exact fun F' L' σ' H' rl' => ⟨F', L', ρ', st', rl', q⟩
  | _ => rw [h] at q; exact q
theorem s_one (h1 : PS X st0 (tsG K mg Γ W sa)) : PSs X [st0] (tsG K mg Γ W sa) := pss_one h1
def sPass : SDen := sNil
theorem s_pass : PS X (.Pass pos) (tsG K mg Γ W sPass) := ps_imp ps_pass fun D' σ H ⟨F, L, ρ, st, rl, q⟩ => q F L σ H rl
def sBrk : SDen := fun ρ st => .bk ρ st
def sCnt : SDen := fun ρ st => .ct ρ st
theorem s_brk : PS X (.Break pos) (tsG K mg Γ W sBrk) := ps_imp ps_break fun D' σ H ⟨F, L, ρ, st, rl, q⟩ => q F L σ H rl
theorem s_cnt : PS X (.Continue pos) (tsG K mg Γ W sCnt) := ps_imp ps_continue fun D' σ H ⟨F, L, ρ, st, rl, q⟩ => q F L σ H rl
/-- an expression alone -/
def sDrop (m : EDen) : SDen := fun ρ st => (m ρ st).s ρ fun _ st' => .nx ρ st'
theorem s_drop (h : PE X e (teV K mg Γ W m)) (hs : swapsWith e none pos.line X.env = pure false := by rfl) : PS X (.Expr e pos) (tsG K mg Γ W (sDrop m)) :=
  ps_imp (ps_expr h hs) fun D' σ H ⟨F, L, ρ, st, rl, q⟩ => ⟨F, L, ρ, st, rl, (SPost.s q rl).imp fun F' L' H' st' d s o q' v kv => q' F' L' σ H' (rl.step s o)⟩
def sRet (m : EDen) : SDen := fun ρ st => (m ρ st).s ρ fun d st' => .rt d st'
theorem s_ret (h : PE X e (teV K mg Γ W m)) : PS X (.Return (some e) pos) (tsG K mg Γ W (sRet m)) :=
  ps_imp (ps_ret h) fun D' σ H ⟨F, L, ρ, st, rl, q⟩ => ⟨F, L, ρ, st, rl, (SPost.s q rl).imp fun F' L' H' st' d s o q' v kv => q' F' L' σ H' ρ v (rl.step s o) kv⟩
def sRetN : SDen := fun _ st => .rt .non st
theorem s_retN : PS X (.Return none pos) (tsG K mg Γ W sRetN) := ps_imp ps_retN fun D' σ H ⟨F, L, ρ, st, rl, q⟩ => q F L σ H ρ .non rl (.inr rfl)
def sIf (t : TDen) (sa sb : SDen) : SDen := fun ρ st => (t ρ st).s ρ fun b st' => if b then sa ρ st' else sb ρ st'
theorem s_if (ht : PT X c (ttG K mg Γ W t)) (ha : PSs X body (tsG K mg Γ W sa)) (hb : PSs X orelse (tsG K mg Γ W sb)) : PS X (.If c body orelse pos) (tsG K mg Γ W (sIf t sa sb)) := by
  refine ps_imp (ps_if ht ha hb) fun D' σ H ⟨F, L, ρ, st, rl, q⟩ => ⟨F, L, ρ, st, rl, (SPost.s q rl).imp fun F' L' H' st' d s o q' => ?_⟩
  cases d with
  | true => exact iteT ⟨F', L', ρ, st', rl.step s o, q'⟩
  | false => exact iteF ⟨F', L', ρ, st', rl.step s o, q'⟩
/-- x = e -/
def sAsg (i : Nat) (m : EDen) : SDen := fun ρ st => (m ρ st).s ρ fun d st' => .nx (ρ.set i (.val d)) st'
theorem s_asg {x : Str} {pos' : Pos} {i : Nat} (hN : X.N.Nodup) (h : PE X e (teV K mg Γ W m)) (hi : X.N[i]? = some x := by rfl) (hx : Loc X.env.scope x := by first | exact Or.inl rfl | exact Or.inr rfl) (hs : swapsWith e (some (.Name x pos')) pos.line X.env = pure false := by rfl)
    (hf : X.fn x = true ∨ X.env.scope.names.lookup x = some .local := by first | exact .inl rfl | exact .inr rfl | assumption) : PS X (.Assign [.Name x pos'] e pos) (tsG K mg Γ W (sAsg i m)) :=
  ps_imp (ps_set hN hi hx h hs hf) fun D' σ H ⟨F, L, ρ, st, rl, q⟩ => ⟨F, L, ρ, st, rl, (SPost.s q rl).imp fun F' L' H' st' d s o q' v kv => q' F' L' _ H' ((rl.step s o).setV i kv)⟩
/-- .. a list or dict of the frame's own from now on -/
def sAsgO (i : Nat) (m : EDen) : SDen := fun ρ st => (m ρ st).s ρ fun d st' => .nx (ρ.set i (.own d)) st'
theorem Rl.setN {F H F' H' : Hp} {L L' : List Addr} {σ : St} {ρ : REnv} {st st' : Store} {d : D} {a : Addr} (rl : Rl K mg Γ F L σ H ρ st) (s : Stp F L H F' L' H') (o : Sto K mg F' L' H' st') (i : Nat) (n : H a = none) (nF : F' a = none) (nL : a ∉ L') (hs : Has K mg F' H' a d) :
    Rl K mg Γ F' L' (σ.set i (some (.ref a))) H' (ρ.set i (.own d)) st' :=
  (rl.step s o).setO i nF nL (rl.new0 n) hs fun j e h z => by
    obtain ⟨b, g1, _, _, _, hh⟩ := rl.so j e h
    rw [g1] at z; cases z
    obtain ⟨u, hu⟩ := hh.there
    rw [n] at hu; cases hu
theorem s_asgO {x : Str} {pos' : Pos} {i : Nat} (hN : X.N.Nodup) (h : PE X e (teO K mg Γ W m)) (hi : X.N[i]? = some x := by rfl) (hx : Loc X.env.scope x := by first | exact Or.inl rfl | exact Or.inr rfl) (hs : swapsWith e (some (.Name x pos')) pos.line X.env = pure false := by rfl)
    (hf : X.fn x = true ∨ X.env.scope.names.lookup x = some .local := by first | exact .inl rfl | exact .inr rfl | assumption) : PS X (.Assign [.Name x pos'] e pos) (tsG K mg Γ W (sAsgO i m)) := by
  refine ps_imp (ps_set hN hi hx h hs hf) fun D' σ H ⟨F, L, ρ, st, rl, q⟩ => ⟨F, L, ρ, st, rl, (SPost.s q rl).imp fun F' L' H' st' d s o q' v kv => ?_⟩
  obtain ⟨a, rfl, n, nF, nL, hs⟩ := kv
  exact q' F' L' _ H' (rl.setN s o i n nF nL hs)
/-- slots that own stand still ahead of a statement -/
def frzE (ρ : REnv) (i : Nat) : REnv := match ρ[i]? with
  | some (.own d) => ρ.set i (.val d)
  | _ => ρ
def sFrz (is : List Nat) (s : SDen) : SDen := fun ρ st => s (is.foldl frzE ρ) st
theorem Rl.frzE {F H : Hp} {L : List Addr} {σ : St} {ρ : REnv} {st : Store} (rl : Rl K mg Γ F L σ H ρ st) (i : Nat) : ∃ F', Rl K mg Γ F' L σ H (frzE ρ i) st := by
  unfold Gh.frzE
  split
  · rename_i d h
    obtain ⟨F', _, r⟩ := rl.frz h
    exact ⟨F', r⟩
  · exact ⟨F, rl⟩
theorem Rl.frzEs {H : Hp} {L : List Addr} {σ : St} {st : Store} : ∀ (is : List Nat) {F : Hp} {ρ : REnv}, Rl K mg Γ F L σ H ρ st → ∃ F', Rl K mg Γ F' L σ H (is.foldl Gh.frzE ρ) st
  | [], F, ρ, rl => ⟨F, rl⟩
  | i :: is, F, ρ, rl => by
    obtain ⟨F', r⟩ := rl.frzE i
    exact Rl.frzEs is r
theorem s_frz (is : List Nat) (h : PS X st0 (tsG K mg Γ W sa)) : PS X st0 (tsG K mg Γ W (sFrz is sa)) := by
  refine ps_imp h fun D' σ H ⟨F, L, ρ, st, rl, q⟩ => ?_
  obtain ⟨F', r⟩ := rl.frzEs is
  exact ⟨F', L, _, st, r, q⟩
end
end Gh
/-! Gh5: what is walked; targets; loops; comprehensions. -/
namespace Gh
open L2 PyProof.Rows PySem.Spec PySem

abbrev LDen := REnv → Store → RC (List D)
/-- the turns of J are ds: as long as F stands -/
def ItG (K : PySem.W.Frag) (mg : Glob) (J : It) (ds : List D) (F : Hp) : Prop := ∀ F1 L1 H1 st1, Ex F F1 → Sto K mg F1 L1 H1 st1 →
  J.stop ds.length H1 ∧ ∀ (i : Nat) (d : D), ds[i]? = some d → J.go i H1 ∧ ∀ x H2, J.yld i H1 x H2 → ∃ F2, Stp F1 L1 H1 F2 L1 H2 ∧ Sto K mg F2 L1 H2 st1 ∧ Rep K mg F2 d x
/-- .. as long as all stands but the store -/
def ItC (K : PySem.W.Frag) (mg : Glob) (J : It) (ds : List D) (F : Hp) (L : List Addr) (H : Hp) : Prop := ∀ F1 L1 H1 st1, Stp F L H F1 L1 H1 → Sto K mg F1 L1 H1 st1 →
  J.stop ds.length H1 ∧ ∀ (i : Nat) (d : D), ds[i]? = some d → J.go i H1 ∧ ∀ x H2, J.yld i H1 x H2 → ∃ F2, Stp F1 L1 H1 F2 L1 H2 ∧ Sto K mg F2 L1 H2 st1 ∧ Rep K mg F2 d x
def tiG (K : PySem.W.Frag) (mg : Glob) (Γ : Ent) (W : WX) (m : LDen) : TI := fun σ H R => ∃ F L ρ st, Rl K mg Γ F L σ H ρ st ∧
  Post K mg W σ F L H (m ρ st) fun F' L' H' _ ds => ∀ J, ItG K mg J ds F' → R J H'
def tiC (K : PySem.W.Frag) (mg : Glob) (Γ : Ent) (W : WX) (m : LDen) : TI := fun σ H R => ∃ F L ρ st, Rl K mg Γ F L σ H ρ st ∧
  Post K mg W σ F L H (m ρ st) fun F' L' H' _ ds => ∀ J, ItC K mg J ds F' L' H' → R J H'
theorem pi_imp {X : Cx} {tg e : Expr} {t t' : TI} (h : PI X tg e t) (k : ∀ σ H R, t' σ H R → t σ H R) : PI X tg e t' := ⟨fun pins s σ H R I q => h.run pins s σ H R I (k σ H R q)⟩
theorem pi_or {X : Cx} {tg e : Expr} {t t' : TI} (h : PI X tg e t) (h' : PI X tg e t') : PI X tg e (fun σ H R => t σ H R ∨ t' σ H R) := ⟨fun pins s σ H R I q => q.elim (h.run pins s σ H R I) (h'.run pins s σ H R I)⟩
theorem i_gc {X : Cx} {K : PySem.W.Frag} {mg : Glob} {Γ : Ent} {W : WX} {tg e : Expr} {m : LDen} (h : PI X tg e (tiG K mg Γ W m)) : PI X tg e (tiC K mg Γ W m) :=
  pi_imp h fun σ H R ⟨F, L, ρ, st, rl, q⟩ => ⟨F, L, ρ, st, rl, q.imp fun F' L' H' st' ds s o q J j => q J fun F1 L1 H1 st1 s1 o1 => j F1 L1 H1 st1 s1.ex o1⟩
section
variable {X : Cx} {K : PySem.W.Frag} {mg : Glob} {Γ : Ent} {W : WX} {tg e a b : Expr} {m ma mb : EDen} {ms : ADen} {pos p : Pos}
/-- the items of a list, a tuple -/
def seqOf : D → Option (List D)
  | .lst ds => some ds
  | .tup ds => some ds
  | .scr ds => some ds
  | _ => none
def lSeq (m : EDen) : LDen := fun ρ st => (m ρ st).bind fun d st1 => match seqOf d with
  | some ds => .ok ds st1
  | none => .bad
theorem itG_list {J : It} {F : Hp} {ds : List D} {vs : List V} {a : Addr} (hs : ∀ F1 L1 H1 st1, Ex F F1 → Sto K mg F1 L1 H1 st1 → SqL K H1 a vs) (r : RepL K mg F ds vs) : ItG K mg (Itl K a) ds F := fun F1 L1 H1 st1 x o => by
  have h := hs F1 L1 H1 st1 x o
  refine ⟨⟨vs, h, by rw [r.length]; exact Nat.le_refl _⟩, fun i d e => ?_⟩
  obtain ⟨v, e1, e2⟩ := r.get e
  refine ⟨⟨vs, v, h, e1⟩, fun z H2 y => ?_⟩
  obtain ⟨rfl, q⟩ := y
  have := q vs h
  rw [e1] at this; cases this
  exact ⟨F1, Stp.refl, o, Rep.mono x d e2⟩
theorem itG_tup {J : It} {F : Hp} {ds : List D} {vs : List V} {a : Addr} (hs : ∀ F1 L1 H1 st1, Ex F F1 → Sto K mg F1 L1 H1 st1 → SqT K H1 a vs) (r : RepL K mg F ds vs) : ItG K mg (Itt K a) ds F := fun F1 L1 H1 st1 x o => by
  have h := hs F1 L1 H1 st1 x o
  refine ⟨⟨vs, h, by rw [r.length]; exact Nat.le_refl _⟩, fun i d e => ?_⟩
  obtain ⟨v, e1, e2⟩ := r.get e
  refine ⟨⟨vs, v, h, e1⟩, fun z H2 y => ?_⟩
  obtain ⟨rfl, q⟩ := y
  have := q vs h
  rw [e1] at this; cases this
  exact ⟨F1, Stp.refl, o, Rep.mono x d e2⟩
theorem i_seq (hK : X.K = K) (h : PE X e (teV K mg Γ W m)) : PI X tg e (tiG K mg Γ W (lSeq m)) := by
  refine pi_imp (pi_or (pi_list h) (pi_tup h)) fun σ H R ⟨F, L, ρ, st, rl, q⟩ => ?_
  have q := q.bind
  cases hm : m ρ st with
  | bad => rw [hm] at q; exact q.elim
  | exc c fs st' =>
    refine .inl ⟨F, L, ρ, st, rl, ?_⟩
    rw [hm] at q ⊢
    exact q
  | ok d st' =>
    rw [hm] at q
    have lst : ∀ ds, (∀ v F' L' H', Sto K mg F' L' H' st' → VRep K mg L' F' d v → ∃ a vs, v = .ref a ∧ RepL K mg F' ds vs ∧ SqL K H' a vs ∧ ∀ F1 L1 H1 st1, Ex F' F1 → Sto K mg F1 L1 H1 st1 → SqL K H1 a vs) → seqOf d = some ds → iList X.K (teV K mg Γ W m) σ H R := fun ds hd hs => by
      refine ⟨F, L, ρ, st, rl, ?_⟩
      rw [hm]
      intro F' L' H' s o v kv
      have q' := q F' L' H' s o
      dsimp only at q'
      rw [hs] at q'
      obtain ⟨a, vs, rfl, r, h0, h1⟩ := hd v F' L' H' o kv
      rw [hK]
      exact ⟨a, rfl, ⟨vs, h0⟩, (q'.here o) _ (itG_list (J := Itl K a) h1 r)⟩
    cases d with
    | lst ds =>
      refine .inl (lst ds (fun v F' L' H' o kv => ?_) rfl)
      rcases kv with ⟨_, _, e, _⟩ | ⟨a, vs, rfl, h1, h2⟩
      · cases e
      · exact ⟨a, vs, rfl, h2, .inl (.inl (o.ex.lst h1)), fun F1 L1 H1 st1 x o1 => .inl (.inl (o1.ex.lst (x _ _ h1)))⟩
    | scr ds =>
      refine .inl (lst ds (fun v F' L' H' o kv => ?_) rfl)
      rcases kv with ⟨_, _, e, _⟩ | ⟨a, vs, rfl, h1, h2⟩
      · cases e
      · exact ⟨a, vs, rfl, h2, o.ex.l h1, fun F1 L1 H1 st1 x o1 => o1.ex.l (ex_l x h1)⟩
    | tup ds =>
      refine .inr ⟨F, L, ρ, st, rl, ?_⟩
      rw [hm]
      intro F' L' H' s o v kv
      have q' := q F' L' H' s o
      rcases kv with ⟨_, _, e, _⟩ | ⟨a, vs, rfl, h1, h2⟩
      · cases e
      · rw [hK]
        exact ⟨a, rfl, ⟨vs, o.ex.t h1⟩, (q'.here o) _ (itG_tup (J := Itt K a) (fun F1 L1 H1 st1 x o1 => o1.ex.t (ex_t x h1)) h2)⟩
    | _ =>
      refine .inl ⟨F, L, ρ, st, rl, ?_⟩
      rw [hm]
      intro F' L' H' s o v kv
      exact (q F' L' H' s o).elim
/-- range(n), range(a, b) -/
def upto (lo : Int) (n : Nat) : List D := (List.range n).map fun (i : Nat) => D.int (lo + (i : Int))
theorem upto_get {lo : Int} {n i : Nat} {d : D} (h : (upto lo n)[i]? = some d) : i < n ∧ d = .int (lo + (i : Int)) := by
  unfold upto at h
  rw [List.getElem?_map] at h
  by_cases hi : i < n
  · rw [List.getElem?_range hi] at h
    cases h
    exact ⟨hi, rfl⟩
  · rw [List.getElem?_eq_none (by rw [List.length_range]; omega)] at h
    cases h
theorem upto_len {lo : Int} {n : Nat} : (upto lo n).length = n := by unfold upto; rw [List.length_map, List.length_range]
theorem itG_range {lo : Int} {n : Nat} {F : Hp} : ItG K mg (Itr lo n) (upto lo n) F := fun F1 L1 H1 st1 x o => by
  refine ⟨by rw [upto_len]; exact Nat.le_refl n, fun i d e => ?_⟩
  obtain ⟨hi, rfl⟩ := upto_get e
  refine ⟨hi, fun z H2 y => ?_⟩
  obtain ⟨rfl, rfl⟩ := y
  exact ⟨F1, Stp.refl, o, rfl⟩
def lRange1 (ms : ADen) : LDen := fun ρ st => (ms ρ st).bind fun ds st1 => match ds with
  | [.int n] => if -1000000000 ≤ n ∧ n ≤ 1000000000 then .ok (upto 0 n.toNat) st1 else .bad
  | _ => .bad
def lRange2 (ms : ADen) : LDen := fun ρ st => (ms ρ st).bind fun ds st1 => match ds with
  | [.int i, .int j] => if -1000000000 ≤ i ∧ i ≤ 1000000000 ∧ -1000000000 ≤ j ∧ j ≤ 1000000000 then .ok (upto i (j - i).toNat) st1 else .bad
  | _ => .bad
theorem i_range1 (hm : X.mg "range" = none) (ha : PA X [a] (taG K mg Γ W ms)) (hg : Gl X "range" := by rfl) (hs : starEach [a] X.env = [(false, eval a X.env)] := by rfl) : PI X tg (.Call (.Name "range" p) [a] [] pos) (tiG K mg Γ W (lRange1 ms)) := by
  refine pi_imp (pi_range1 hg hm ha hs) fun σ H R ⟨F, L, ρ, st, rl, q⟩ => ⟨F, L, ρ, st, rl, q.bind.imp fun F1 L1 H1 st1 ds s o q1 vs kvs => ?_⟩
  split at q1
  · rename_i n
    split at q1
    · rename_i hc
      obtain ⟨v, r, rfl, kv, rr⟩ := kvs
      cases (show r = [] from rr)
      exact ⟨n, by rw [kv.int], by omega, by omega, q1.here o _ itG_range⟩
    · exact q1.elim
  · exact q1.elim
theorem i_range2 (hm : X.mg "range" = none) (ha : PA X [a, b] (taG K mg Γ W ms)) (hg : Gl X "range" := by rfl) (hs : starEach [a, b] X.env = [(false, eval a X.env), (false, eval b X.env)] := by rfl) (hs2 : starEach [b] X.env = [(false, eval b X.env)] := by rfl) :
    PI X tg (.Call (.Name "range" p) [a, b] [] pos) (tiG K mg Γ W (lRange2 ms)) := by
  refine pi_imp (pi_range2 hg hm ha hs hs2) fun σ H R ⟨F, L, ρ, st, rl, q⟩ => ⟨F, L, ρ, st, rl, q.bind.imp fun F1 L1 H1 st1 ds s o q1 vs kvs => ?_⟩
  split at q1
  · rename_i i j
    split at q1
    · rename_i hc
      obtain ⟨v, r, rfl, kv, w, r2, rfl, kw, rr⟩ := kvs
      cases (show r2 = [] from rr)
      exact ⟨i, j, by rw [kv.int, kw.int], ⟨by omega, by omega, by omega, by omega⟩, q1.here o _ itG_range⟩
    · exact q1.elim
  · exact q1.elim
/-- the signs of a text -/
def signs (s : Str) : List D := s.cps.toList.map fun c => D.str ⟨#[c]⟩
def lStr (m : EDen) : LDen := fun ρ st => (m ρ st).bind fun d st1 => match d with
  | .str s => .ok (signs s) st1
  | _ => .bad
theorem itG_str {s : Str} {F : Hp} : ItG K mg (Its s) (signs s) F := fun F1 L1 H1 st1 x o => by
  refine ⟨by show s.cps.size ≤ (signs s).length; unfold signs; rw [List.length_map, Array.length_toList]; exact Nat.le_refl _, fun i d e => ?_⟩
  unfold signs at e
  rw [List.getElem?_map] at e
  cases h : s.cps.toList[i]? with
  | none => rw [h] at e; cases e
  | some c =>
    rw [h] at e
    cases e
    have hc : s.cps[i]? = some c := by rw [← Array.getElem?_toList]; exact h
    refine ⟨(Array.getElem?_eq_some_iff.mp hc).1, fun z H2 y => ?_⟩
    obtain ⟨rfl, c', h1, rfl⟩ := y
    rw [hc] at h1
    cases h1
    exact ⟨F1, Stp.refl, o, rfl⟩
theorem i_str (h : PE X e (teV K mg Γ W m)) : PI X tg e (tiG K mg Γ W (lStr m)) := by
  refine pi_imp (pi_str h) fun σ H R ⟨F, L, ρ, st, rl, q⟩ => ⟨F, L, ρ, st, rl, q.bind.imp fun F1 L1 H1 st1 d s o q1 v kv => ?_⟩
  split at q1
  · rename_i x
    exact ⟨x, kv.str, q1.here o _ itG_str⟩
  · exact q1.elim
/-- enumerate of a list -/
def numbered (ds : List D) : List D := (List.range ds.length).map fun (i : Nat) => D.tup [.int (i : Int), ds.getD i .non]
def lEnum (ms : ADen) : LDen := fun ρ st => (ms ρ st).bind fun ds st1 => match ds with
  | [.lst xs] => .ok (numbered xs) st1
  | _ => .bad
theorem numbered_get {ds : List D} {i : Nat} {d : D} (h : (numbered ds)[i]? = some d) : ∃ x, ds[i]? = some x ∧ d = .tup [.int (i : Int), x] := by
  unfold numbered at h
  rw [List.getElem?_map] at h
  by_cases hi : i < ds.length
  · rw [List.getElem?_range hi] at h
    cases h
    refine ⟨ds[i], List.getElem?_eq_getElem hi, ?_⟩
    show D.tup [.int (i : Int), ds.getD i .non] = _
    rw [List.getD_eq_getElem?_getD, List.getElem?_eq_getElem hi]
    rfl
  · rw [List.getElem?_eq_none (by rw [List.length_range]; omega)] at h
    cases h
theorem itG_enum {F : Hp} {ds : List D} {vs : List V} {a : Addr} (hs : ∀ F1 L1 H1 st1, Ex F F1 → Sto K mg F1 L1 H1 st1 → SqL K H1 a vs) (r : RepL K mg F ds vs) : ItG K mg (Ite K a) (numbered ds) F := fun F1 L1 H1 st1 x o => by
  have h := hs F1 L1 H1 st1 x o
  have hl : (numbered ds).length = ds.length := by unfold numbered; rw [List.length_map, List.length_range]
  refine ⟨⟨vs, h, by rw [hl, r.length]; exact Nat.le_refl _⟩, fun i d e => ?_⟩
  obtain ⟨y, ey, rfl⟩ := numbered_get e
  obtain ⟨v, e1, e2⟩ := r.get ey
  refine ⟨⟨vs, v, h, e1⟩, fun z H2 w => ?_⟩
  obtain ⟨T, x', rfl, nT, rfl, q⟩ := w
  have := q vs h
  rw [e1] at this; cases this
  obtain ⟨s2, o2⟩ := o.lay (o := .tup [.int (i : Nat), v]) nT
  exact ⟨_, s2, o2, T, _, rfl, .inl (.inl upd_same), _, _, rfl, rfl, _, _, rfl, Rep.mono s2.ex _ (Rep.mono x _ e2), rfl⟩
theorem i_enum {elts : List Expr} {kk : Nat} {tpos : Pos} (hK : X.K = K) (hm : X.mg "enumerate" = none) (ha : PA X [e] (taG K mg Γ W ms)) (hg : Gl X "enumerate" := by rfl) (hs : starEach [e] X.env = [(false, eval e X.env)] := by rfl) :
    PI X (.Tuple elts kk tpos) (.Call (.Name "enumerate" p) [e] [] pos) (tiG K mg Γ W (lEnum ms)) := by
  refine pi_imp (pi_enum hg hm ha hs) fun σ H R ⟨F, L, ρ, st, rl, q⟩ => ⟨F, L, ρ, st, rl, q.bind.imp fun F1 L1 H1 st1 ds s o q1 vs kvs => ?_⟩
  split at q1
  · rename_i xs
    obtain ⟨v, r, rfl, kv, rr⟩ := kvs
    cases (show r = [] from rr)
    rcases kv with ⟨_, _, e, _⟩ | ⟨a, vs, rfl, h1, h2⟩
    · cases e
    · rw [hK]
      exact ⟨a, vs, rfl, .inl (.inl (o.ex.lst h1)), q1.here o _ (itG_enum (fun F1 L1 H1 st1 x o1 => .inl (.inl (o1.ex.lst (x _ _ h1)))) h2)⟩
  · exact q1.elim
/-- zip of two lists -/
def paired (xs ys : List D) : List D := (xs.zip ys).map fun p => D.tup [p.1, p.2]
def lZip (ms : ADen) : LDen := fun ρ st => (ms ρ st).bind fun ds st1 => match ds with
  | [.lst xs, .lst ys] => .ok (paired xs ys) st1
  | _ => .bad
theorem itG_zip {F : Hp} {ds es : List D} {vs us : List V} {a b : Addr} (hs : ∀ F1 L1 H1 st1, Ex F F1 → Sto K mg F1 L1 H1 st1 → SqL K H1 a vs ∧ SqL K H1 b us) (r : RepL K mg F ds vs) (r2 : RepL K mg F es us) : ItG K mg (Itz K a b) (paired ds es) F := fun F1 L1 H1 st1 x o => by
  obtain ⟨h, h'⟩ := hs F1 L1 H1 st1 x o
  have hl : (paired ds es).length = min ds.length es.length := by unfold paired; rw [List.length_map, List.length_zip]
  refine ⟨⟨vs, us, h, h', by rw [hl, r.length, r2.length]; omega⟩, fun i d e => ?_⟩
  unfold paired at e
  rw [List.getElem?_map] at e
  cases hz : (ds.zip es)[i]? with
  | none => rw [hz] at e; cases e
  | some q =>
    rw [hz] at e
    cases e
    obtain ⟨z1, z2⟩ := List.getElem?_zip_eq_some.mp hz
    obtain ⟨v, e1, e2⟩ := r.get z1
    obtain ⟨u, f1, f2⟩ := r2.get z2
    refine ⟨⟨vs, us, v, u, h, h', e1, f1⟩, fun z H2 w => ?_⟩
    obtain ⟨T, x', y', rfl, nT, rfl, q1, q2⟩ := w
    have := q1 vs h
    rw [e1] at this; cases this
    have := q2 us h'
    rw [f1] at this; cases this
    obtain ⟨s2, o2⟩ := o.lay (o := .tup [v, u]) nT
    exact ⟨_, s2, o2, T, _, rfl, .inl (.inl upd_same), _, _, rfl, Rep.mono s2.ex _ (Rep.mono x _ e2), _, _, rfl, Rep.mono s2.ex _ (Rep.mono x _ f2), rfl⟩
theorem i_zip {elts : List Expr} {kk : Nat} {tpos : Pos} (hK : X.K = K) (hm : X.mg "zip" = none) (ha : PA X [a, b] (taG K mg Γ W ms)) (hg : Gl X "zip" := by rfl) (hs : starEach [a, b] X.env = (false, eval a X.env) :: starEach [b] X.env := by rfl) (hpl : (backTo pos (starEach [b] X.env)).any (·.1) = false := by rfl) :
    PI X (.Tuple elts kk tpos) (.Call (.Name "zip" p) [a, b] [] pos) (tiG K mg Γ W (lZip ms)) := by
  refine pi_imp (pi_zip hg hm ha hs hpl) fun σ H R ⟨F, L, ρ, st, rl, q⟩ => ⟨F, L, ρ, st, rl, q.bind.imp fun F1 L1 H1 st1 ds s o q1 vs kvs => ?_⟩
  split at q1
  · rename_i xs ys
    obtain ⟨v, r, rfl, kv, w, r2, rfl, kw, rr⟩ := kvs
    cases (show r2 = [] from rr)
    rcases kv with ⟨_, _, e, _⟩ | ⟨a, vs, rfl, h1, h2⟩
    · cases e
    · rcases kw with ⟨_, _, e, _⟩ | ⟨b, us, rfl, g1, g2⟩
      · cases e
      · rw [hK]
        exact ⟨a, b, vs, us, rfl, .inl (.inl (o.ex.lst h1)), .inl (.inl (o.ex.lst g1)), q1.here o _ (itG_zip (fun F1 L1 H1 st1 x o1 => ⟨.inl (.inl (o1.ex.lst (x _ _ h1))), .inl (.inl (o1.ex.lst (x _ _ g1)))⟩) h2 g2)⟩
  · exact q1.elim
end

/-! ### targets -/
abbrev BDen := D → REnv → Option REnv
/-- slots but those of vs are as they were -/
def OffS (vs : List Nat) (σ σ' : St) : Prop := σ'.length = σ.length ∧ ∀ j, j ∉ vs → σ'[j]? = σ[j]?
def tgG (K : PySem.W.Frag) (mg : Glob) (Γ : Ent) (vs : List Nat) (bd : BDen) : TG := fun v σ H Q => ∃ F L ρ st d ρ', Rl K mg Γ F L σ H ρ st ∧ Rep K mg F d v ∧ bd d ρ = some ρ' ∧ ∀ σ', OffS vs σ σ' → Rl K mg Γ F L σ' H ρ' st → Q σ' H
def tgsG (K : PySem.W.Frag) (mg : Glob) (Γ : Ent) (vs : List Nat) (bd : List D → REnv → Option REnv) : TGs := fun ws σ H Q => ∃ F L ρ st ds ρ', Rl K mg Γ F L σ H ρ st ∧ RepL K mg F ds ws ∧ bd ds ρ = some ρ' ∧ ∀ σ', OffS vs σ σ' → Rl K mg Γ F L σ' H ρ' st → Q σ' H
section
variable {X : Cx} {K : PySem.W.Frag} {mg : Glob} {Γ : Ent} {W : WX} {tg e a b : Expr} {es : List Expr} {pos p : Pos} {vs ws : List Nat} {bd : BDen} {bds : List D → REnv → Option REnv}
theorem OffS.refl {σ : St} : OffS vs σ σ := ⟨rfl, fun _ _ => rfl⟩
theorem OffS.trans {σ σ1 σ2 : St} (h : OffS vs σ σ1) (h' : OffS ws σ1 σ2) : OffS (vs ++ ws) σ σ2 := ⟨h'.1.trans h.1, fun j hj => by
  rw [List.mem_append, not_or] at hj
  rw [h'.2 j hj.2, h.2 j hj.1]⟩
theorem OffS.set {σ : St} {i : Nat} {z : Option V} : OffS [i] σ (σ.set i z) := ⟨by rw [List.length_set], fun j hj => by
  have : i ≠ j := fun e => hj (by rw [e]; simp)
  rw [List.getElem?_set_ne this]⟩
theorem pg_imp {t t' : TG} (h : PG X tg t) (k : ∀ v σ H Q, t' v σ H Q → t v σ H Q) : PG X tg t' := ⟨fun pins s σ H v u Q I r q => h.run pins s σ H v u Q I r (k v σ H Q q)⟩
theorem pgs_imp {t t' : TGs} (h : PGs X es t) (k : ∀ v σ H Q, t' v σ H Q → t v σ H Q) : PGs X es t' := ⟨fun pins s σ H v u Q I r q => h.run pins s σ H v u Q I r (k v σ H Q q)⟩
def bName (i : Nat) : BDen := fun d ρ => some (ρ.set i (.val d))
theorem b_name {x : Str} (i : Nat) (hN : X.N.Nodup) (hi : X.N[i]? = some x := by rfl) (hx : Loc X.env.scope x := by first | exact Or.inl rfl | exact Or.inr rfl) (hf : X.fn x = true ∨ X.env.scope.names.lookup x = some .local := by first | exact .inl rfl | exact .inr rfl | assumption) :
    PG X (.Name x pos) (tgG K mg Γ [i] (bName i)) :=
  pg_imp (pg_name hN hi hx hf) fun v σ H Q ⟨F, L, ρ, st, d, ρ', rl, r, e, q⟩ => by
    cases e
    exact q _ OffS.set (rl.setV i (.inr r))
def bNil : List D → REnv → Option REnv := fun ds ρ => match ds with
  | [] => some ρ
  | _ => none
def bCons (bd : BDen) (bds : List D → REnv → Option REnv) : List D → REnv → Option REnv := fun ds ρ => match ds with
  | d :: r => (bd d ρ).bind (bds r)
  | _ => none
def bTup (n : Nat) (bds : List D → REnv → Option REnv) : BDen := fun d ρ => match d with
  | .tup ds => if ds.length = n then bds ds ρ else none
  | _ => none
theorem b_nil : PGs X [] (tgsG K mg Γ [] bNil) := pgs_imp pgs_nil fun v σ H Q ⟨F, L, ρ, st, ds, ρ', rl, r, e, q⟩ => by
  cases ds with
  | nil => cases e; exact ⟨r, q σ OffS.refl rl⟩
  | cons => cases e
theorem b_cons (h1 : PG X e (tgG K mg Γ vs bd)) (h2 : PGs X es (tgsG K mg Γ ws bds)) (hs : (assignEach (e :: es) X.env).map (·.2) = assign e X.env :: (assignEach es X.env).map (·.2) := by rfl) : PGs X (e :: es) (tgsG K mg Γ (vs ++ ws) (bCons bd bds)) :=
  pgs_imp (pgs_cons h1 h2 hs) fun v σ H Q ⟨F, L, ρ, st, ds, ρ', rl, r, e, q⟩ => by
    cases ds with
    | nil => cases e
    | cons d ds =>
      obtain ⟨v, vr, rfl, r1, r2⟩ := r
      have e : (bd d ρ).bind (bds ds) = some ρ' := e
      cases h : bd d ρ with
      | none => rw [h] at e; cases e
      | some ρ1 =>
        rw [h] at e
        exact ⟨v, vr, rfl, F, L, ρ, st, d, ρ1, rl, r1, h, fun σ1 o1 rl1 => ⟨F, L, ρ1, st, ds, ρ', rl1, r2, e, fun σ2 o2 rl2 => q σ2 (o1.trans o2) rl2⟩⟩
theorem b_tup {k n : Nat} (hK : X.K = K) (hc : X.calm = true) (h : PGs X es (tgsG K mg Γ vs bds)) (hn : (assignEach es X.env).length = n := by rfl) (hst : (assignEach es X.env).findIdx? (·.1) = none := by rfl) : PG X (.Tuple es k pos) (tgG K mg Γ vs (bTup n bds)) :=
  pg_imp (pg_tup hc h hn hst) fun v σ H Q ⟨F, L, ρ, st, d, ρ', rl, r, e, q⟩ => by
    cases d with
    | tup ds =>
      obtain ⟨a, ws, rfl, r1, r2⟩ := r
      have e : (if ds.length = n then bds ds ρ else none) = some ρ' := e
      split at e
      · rename_i hl
        exact ⟨a, ws, rfl, by rw [hK]; exact rl.sto.ex.t r1, by rw [← r2.length]; exact hl, F, L, ρ, st, ds, ρ', rl, r2, e, q⟩
      · cases e
    | _ => cases e
end
end Gh
/-! Gh6: for, while, comprehensions. -/
namespace Gh
open L2 PyProof.Rows PySem.Spec PySem

/-! ### the entry moved to where a loop begins -/
section
variable {K : PySem.W.Frag} {mg : Glob} {Γ : Ent} {W : WX} {F Fs H Hs : Hp} {L Ls : List Addr} {σ σs : St} {ρ ρs : REnv} {st sts : Store} {D' : Ends}
abbrev Ent.at (Γ : Ent) (Fs : Hp) : Ent := { Γ with F0 := Fs }
theorem Rl.anchor (r : Rl K mg Γ Fs Ls σs Hs ρs sts) : Rl K mg (Γ.at Fs) Fs Ls σs Hs ρs sts :=
  ⟨r.sto, ⟨Ex.refl Fs, r.stp.pre, fun a o h n => ⟨(r.stp.kp a o h n).1, rfl, (r.stp.kp a o h n).2.2⟩⟩, r.sl, r.so, r.sd, r.sx, r.len⟩
theorem Rl.off (b : Rl K mg Γ Fs Ls σs Hs ρs sts) (r : Rl K mg (Γ.at Fs) F L σ H ρ st) : Rl K mg Γ F L σ H ρ st :=
  ⟨r.sto, ⟨b.stp.ex.trans r.stp.ex, r.stp.pre, fun a o h n => ⟨(r.stp.kp a o h n).1, (r.stp.kp a o h n).2.1.trans (b.stp.kp a o h n).2.1, (r.stp.kp a o h n).2.2⟩⟩, r.sl, r.so, r.sd, r.sx, r.len⟩
theorem SPost.anchor {r : SR} (b : Rl K mg Γ Fs Ls σs Hs ρs sts) (h : SPost K mg Γ W D' r) : SPost K mg (Γ.at Fs) W D' r := by
  cases r with
  | nx ρ st => exact fun F L σ H rl => h F L σ H (b.off rl)
  | rt d st => exact fun F L σ H ρ v rl => h F L σ H ρ v (b.off rl)
  | bk ρ st => exact fun F L σ H rl => h F L σ H (b.off rl)
  | ct ρ st => exact fun F L σ H rl => h F L σ H (b.off rl)
  | exc c fs ρ st => exact fun F L σ H cls dd rl => h F L σ H cls dd (b.off rl)
  | bad => exact h.elim
end

/-! ### for -/
def forGo (bd : BDen) (body : SDen) : List D → REnv → Store → SR
  | [], ρ, st => .nx ρ st
  | d :: ds, ρ, st => match bd d ρ with
    | none => .bad
    | some ρ1 => match body ρ1 st with
      | .nx ρ2 st2 => forGo bd body ds ρ2 st2
      | .ct ρ2 st2 => forGo bd body ds ρ2 st2
      | .bk ρ2 st2 => .nx ρ2 st2
      | r => r
def sFor (mi : LDen) (bd : BDen) (body : SDen) : SDen := fun ρ st => (mi ρ st).s ρ fun ds st1 => forGo bd body ds ρ st1
section
variable {X : Cx} {K : PySem.W.Frag} {mg : Glob} {Γ : Ent} {W : WX} {tg iter c : Expr} {stmts : List Stmt} {pos p : Pos} {vs : List Nat} {bd : BDen} {mi : LDen} {mb : SDen} {t : TDen}
theorem drop_cons {α : Type} {l : List α} {i : Nat} (h : i < l.length) : l.drop i = l[i] :: l.drop (i + 1) := List.drop_eq_getElem_cons h
theorem s_for (hp : PassesOwn (model X.prog X.w) X.A X.env X.xe) (hc : X.calm = true) (hi : PI X tg iter (tiG K mg Γ W mi)) (hg : ∀ Γ, PG X tg (tgG K mg Γ vs bd)) (hb : ∀ Γ, PSs X stmts (tsG K mg Γ W mb))
    (hs : ∀ x, foldedSetIterable iter X.env x = pure x := by intro _; rfl) : PS X (.For tg iter stmts [] pos) (tsG K mg Γ W (sFor mi bd mb)) := by
  refine ⟨fun pins s σ H D' I ⟨F, L, ρ, st, rl, q⟩ => ?_⟩
  -- the wish of the loop, for the F at which the iterator is made
  have key : tiG K mg Γ W mi σ H fun J H1 => ∃ Fs, tFor (fun _ H R => R J H) (tgG K mg (Γ.at Fs) vs bd) (tsG K mg (Γ.at Fs) W mb) D' σ H1 := by
    refine ⟨F, L, ρ, st, rl, (SPost.s q rl).imp fun F1 L1 H1 st1 ds s1 o1 q1 J hJ => ⟨F1, ?_⟩⟩
    have b := rl.step s1 o1
    refine ⟨fun i m σ' H' => m + i = ds.length ∧ ∃ F' L' ρ' st', Rl K mg (Γ.at F1) F' L' σ' H' ρ' st' ∧ SPost K mg (Γ.at F1) W D' (forGo bd mb (ds.drop i) ρ' st'), ⟨ds.length, rfl, F1, L1, ρ, st1, b.anchor, q1.anchor b⟩, ?_⟩
    rintro i m σ' H' ⟨hm, F', L', ρ', st', rl', q'⟩
    obtain ⟨hstop, hgo⟩ := hJ F' L' H' st' rl'.stp.ex rl'.sto
    by_cases hi : i < ds.length
    · right
      rw [drop_cons hi] at q'
      unfold forGo at q'
      obtain ⟨g1, g2⟩ := hgo i ds[i] (List.getElem?_eq_getElem hi)
      refine ⟨g1, fun σ2 H2 => ∃ F2 L2 ρ2 st2, Rl K mg (Γ.at F1) F2 L2 σ2 H2 ρ2 st2 ∧ SPost K mg (Γ.at F1) W D' (forGo bd mb (ds.drop (i + 1)) ρ2 st2), fun σ2 H2 h => ⟨m - 1, by omega, by omega, h⟩, fun x H2 y => ?_⟩
      obtain ⟨F2, s2, o2, r2⟩ := g2 x H2 y
      have rl2 := rl'.step s2 o2
      cases hb1 : bd ds[i] ρ' with
      | none => rw [hb1] at q'; exact q'.elim
      | some ρ1 =>
        rw [hb1] at q'
        refine ⟨F2, L', ρ', st', ds[i], ρ1, rl2, r2, hb1, fun σ3 _ rl3 => ⟨F2, L', ρ1, st', rl3, ?_⟩⟩
        dsimp only at q'
        cases hb2 : mb ρ1 st' with
        | nx ρ2 st2 => rw [hb2] at q'; exact fun F3 L3 σ4 H4 rl4 => ⟨F3, L3, ρ2, st2, rl4, q'⟩
        | ct ρ2 st2 => rw [hb2] at q'; exact fun F3 L3 σ4 H4 rl4 => ⟨F3, L3, ρ2, st2, rl4, q'⟩
        | bk ρ2 st2 => rw [hb2] at q'; exact q'
        | rt d st2 => rw [hb2] at q'; exact q'
        | exc c fs ρ2 st2 => rw [hb2] at q'; exact q'
        | bad => rw [hb2] at q'; exact q'.elim
    · left
      have e : i = ds.length := by omega
      subst e
      rw [List.drop_length] at q'
      exact ⟨hstop, q' F' L' σ' H' rl'⟩
  -- the statement's own rule, at a reading of target and body that is chosen when the iterator stands
  have g' : PG X tg (fun v σ H Q => ∃ Fs, tgG K mg (Γ.at Fs) vs bd v σ H Q) := ⟨fun pins s σ H v u Q I r ⟨Fs, q⟩ => (hg (Γ.at Fs)).run pins s σ H v u Q I r q⟩
  have b' : PSs X stmts (fun D σ H => ∃ Fs, tsG K mg (Γ.at Fs) W mb D σ H) := ⟨fun pins s σ H D I ⟨Fs, q⟩ => (hb (Γ.at Fs)).run pins s σ H D I q⟩
  refine (ps_for hp hc hi g' b' hs).run pins s σ H D' I ?_
  obtain ⟨F, L, ρ, st, rl, k⟩ := key
  refine ⟨F, L, ρ, st, rl, k.imp fun F1 L1 H1 st1 ds s1 o1 q1 J hJ => ?_⟩
  obtain ⟨Fs, Wi, hW, turn⟩ := q1 J hJ
  refine ⟨Wi, hW, fun i m σ' H' w => ?_⟩
  rcases turn i m σ' H' w with h | ⟨g1, N, hN, g2⟩
  · exact .inl h
  · exact .inr ⟨g1, N, hN, fun x H2 y => ⟨Fs, by
      obtain ⟨F, L, ρ, st, d, ρ', r1, r2, r3, r4⟩ := g2 x H2 y
      exact ⟨F, L, ρ, st, d, ρ', r1, r2, r3, fun σ' o rl' => ⟨Fs, r4 σ' o rl'⟩⟩⟩⟩

/-! ### while -/
def whileGo (t : TDen) (body : SDen) : Nat → REnv → Store → SR
  | 0, _, _ => .bad
  | n + 1, ρ, st => (t ρ st).s ρ fun b st1 => if b then (match body ρ st1 with
    | .nx ρ2 st2 => whileGo t body n ρ2 st2
    | .ct ρ2 st2 => whileGo t body n ρ2 st2
    | .bk ρ2 st2 => .nx ρ2 st2
    | r => r) else .nx ρ st1
def sWhile (n : Nat) (t : TDen) (body : SDen) : SDen := fun ρ st => whileGo t body n ρ st
theorem s_while (n : Nat) (hp : PassesOwn (model X.prog X.w) X.A X.env X.xe) (ht : PT X c (ttG K mg Γ W t)) (hb : PSs X stmts (tsG K mg Γ W mb)) : PS X (.While c stmts [] pos) (tsG K mg Γ W (sWhile n t mb)) := by
  refine ps_imp (ps_while hp ht hb) fun D' σ H ⟨F, L, ρ, st, rl, q⟩ => ?_
  refine ⟨fun m σ' H' => ∃ F' L' ρ' st', Rl K mg Γ F' L' σ' H' ρ' st' ∧ SPost K mg Γ W D' (whileGo t mb m ρ' st'), ⟨n, F, L, ρ, st, rl, q⟩, ?_⟩
  rintro m σ' H' ⟨F', L', ρ', st', rl', q'⟩
  cases m with
  | zero => exact q'.elim
  | succ m =>
    unfold whileGo at q'
    refine ⟨F', L', ρ', st', rl', (SPost.s q' rl').imp fun F1 L1 H1 st1 b s1 o1 q1 => ?_⟩
    have rl1 := rl'.step s1 o1
    cases b with
    | false => exact iteF (q1 F1 L1 σ' H1 rl1)
    | true =>
      refine iteT ⟨fun σ2 H2 => ∃ F' L' ρ' st', Rl K mg Γ F' L' σ2 H2 ρ' st' ∧ SPost K mg Γ W D' (whileGo t mb m ρ' st'), fun σ2 H2 h => ⟨m, Nat.lt_succ_self m, h⟩, F1, L1, ρ', st1, rl1, ?_⟩
      rw [if_pos rfl] at q1
      cases hb2 : mb ρ' st1 with
      | nx ρ2 st2 => rw [hb2] at q1; exact fun F3 L3 σ4 H4 rl4 => ⟨F3, L3, ρ2, st2, rl4, q1⟩
      | ct ρ2 st2 => rw [hb2] at q1; exact fun F3 L3 σ4 H4 rl4 => ⟨F3, L3, ρ2, st2, rl4, q1⟩
      | bk ρ2 st2 => rw [hb2] at q1; exact q1
      | rt d st2 => rw [hb2] at q1; exact q1
      | exc c fs ρ2 st2 => rw [hb2] at q1; exact q1
      | bad => rw [hb2] at q1; exact q1.elim
end

/-! ### comprehensions -/
abbrev W0 : WX := fun _ _ _ _ => False
def noX {α : Type} (r : RC α) : RC α := match r with
  | .exc _ _ _ => .bad
  | r => r
def compGo (bd : BDen) (t : TDen) (me : EDen) (ρ : REnv) : List D → Store → RC (List D)
  | [], st => .ok [] st
  | d :: ds, st => match bd d ρ with
    | none => .bad
    | some ρ1 => (t ρ1 st).bind fun b st1 => if b then (me ρ1 st1).bind fun y st2 => if isLoc y then .bad else (compGo bd t me ρ ds st2).bind fun ys st3 => .ok (y :: ys) st3
      else compGo bd t me ρ ds st1
def wipeR (ρ : REnv) : List Nat → REnv
  | [] => ρ
  | v :: vs => (wipeR ρ vs).set v .un
def tYes : TDen := fun _ st => .ok true st
/-- [elt for target in iter if ..]; vs: the slots of its own names -/
def eComp (mi : LDen) (bd : BDen) (t : TDen) (me : EDen) (vs : List Nat) : EDen := fun ρ st => (mi ρ st).bind fun ds st1 => if ds.length < 100000 then (noX (compGo bd t me (wipeR ρ vs) ds st1)).bind fun ys st2 => .ok (.lst ys) st2 else .bad
section
variable {X : Cx} {K : PySem.W.Frag} {mg : Glob} {Γ : Ent} {W : WX} {tg iter elt : Expr} {ifs : List Expr} {pos p : Pos} {bd : BDen} {mi : LDen} {me : EDen} {t : TDen} {scope : Scope} {own : List (Str × Nat)} {ws : List Nat}
theorem Post.noX {α : Type} {F H : Hp} {L : List Addr} {σ σ' : St} {r : RC α} {ok : Hp → List Addr → Hp → Store → α → Prop} (h : Post K mg W σ F L H (noX r) ok) : Post K mg W0 σ' F L H r ok := by
  cases r with
  | ok d st => exact h
  | exc c fs st => exact h.elim
  | bad => exact h.elim
theorem Rl.wipe {F H : Hp} {L : List Addr} {σ : St} {ρ : REnv} {st : Store} (r : Rl K mg Γ F L σ H ρ st) : ∀ vs : List Nat, Rl K mg Γ F L (L2.wipe σ vs) H (wipeR ρ vs) st
  | [] => r
  | v :: vs => (Rl.wipe r vs).setU v none
theorem wipe_off {σ σ' : St} {vs ws : List Nat} (h : OffS vs (wipe σ ws) σ') (hs : ∀ j ∈ vs, j ∈ ws) : wipe σ' ws = wipe σ ws := by
  have idem : ∀ j, j ∈ ws → ∀ τ : St, j < τ.length → (wipe τ ws)[j]? = some none := by
    clear h hs
    induction ws with
    | nil => intro j hj; simp at hj
    | cons v ws ih =>
      intro j hj τ hl
      unfold wipe
      by_cases e : v = j
      · subst e
        rw [List.getElem?_set_self (by rw [wipe_length]; exact hl)]
      · rw [List.getElem?_set_ne e]
        rcases List.mem_cons.mp hj with z | z
        · exact absurd z.symm e
        · exact ih j z τ hl
  apply List.ext_getElem?
  intro j
  by_cases hj : j ∈ ws
  · have hl : σ'.length = σ.length := by rw [h.1, wipe_length]
    by_cases hb : j < σ.length
    · rw [idem j hj σ' (by omega), idem j hj σ hb]
    · rw [List.getElem?_eq_none (by rw [wipe_length]; omega), List.getElem?_eq_none (by rw [wipe_length]; omega)]
  · rw [wipe_out hj, h.2 j (fun z => hj (hs j z))]
theorem g_comp {wi : TI} (hc : X.calm = true) (hN : X.N.Nodup) (hi : PI X tg iter (tiC K mg Γ W mi)) (ok : BlkOk X.N X.env.scope scope own)
    (hg : ∀ (s : Shared) (H : Hp) (C : Addr) (cl : List (Str × Addr)) (fp : List Addr), PG (X.blk s H scope (compEnvC scope cl C X.env) fp) tg (tgG K mg Γ ws bd))
    (ht : ∀ (s : Shared) (H : Hp) (C : Addr) (cl : List (Str × Addr)) (fp : List Addr), PTs (X.blk s H scope (compEnvC scope cl C X.env) fp) ifs (ttG K mg Γ W0 t))
    (he : ∀ (s : Shared) (H : Hp) (C : Addr) (cl : List (Str × Addr)) (fp : List Addr), PE (X.blk s H scope (compEnvC scope cl C X.env) fp) elt (teV K mg Γ W0 me)) (hw : ∀ j ∈ ws, j ∈ own.map (·.2) := by decide) :
    ∀ σ H Q, teO K mg Γ W (eComp mi bd t me (own.map (·.2))) σ H Q → tLc (tiC K mg Γ W mi) (tgG K mg Γ ws bd) (ttG K mg Γ W0 t) (teV K mg Γ W0 me) (own.map (·.2)) σ H Q := by
  rintro σ H Q ⟨F, L, ρ, st, rl, q⟩
  refine ⟨F, L, ρ, st, rl, q.bind.imp fun F1 L1 H1 st1 ds s1 o1 q1 J hJ Dl nD => ?_⟩
  split at q1
  · rename_i hlen
    have rl1 := rl.step s1 o1
    have q2 := q1.bind
    cases hgo : compGo bd t me (wipeR ρ (own.map (·.2))) ds st1 with
    | exc c fs st' => rw [hgo] at q2; exact q2.elim
    | bad => rw [hgo] at q2; exact q2.elim
    | ok total stE =>
      rw [hgo] at q2
      have q2 : Post K mg W σ F1 L1 H1 (.ok total stE) _ := q2
      let Inv' : Nat → Nat → Hp → Prop := fun i m H' => m + i = ds.length ∧ ∃ F' L' st' acc accD rest, Stp F1 L1 H1 F' L' H' ∧ Sto K mg F' L' H' st' ∧ F' Dl = none ∧ Dl ∉ L' ∧ H' Dl = some (.lst acc) ∧ RepL K mg F' accD acc ∧ accD.length ≤ i ∧
        compGo bd t me (wipeR ρ (own.map (·.2))) (ds.drop i) st' = .ok rest stE ∧ accD ++ rest = total
      have nF1 : F1 Dl = none := o1.ex.free nD
      have nL1 : Dl ∉ L1 := rl1.newL nD
      refine ⟨Inv', ⟨ds.length, rfl, F1, L1, st1, [], [], total, Stp.fresh nD, o1.fresh nD, nF1, nL1, upd_same, rfl, Nat.le_refl 0, hgo, rfl⟩, ?_⟩
      rintro i m H' ⟨hm, F', L', st', acc, accD, rest, s', o', nF', nL', hD, hr, hlA, hc', hT⟩
      obtain ⟨hstop, hgo'⟩ := hJ F' L' H' st' s' o'
      by_cases hi : i < ds.length
      · right
        rw [drop_cons hi] at hc'
        unfold compGo at hc'
        obtain ⟨g1, g2⟩ := hgo' i ds[i] (List.getElem?_eq_getElem hi)
        refine ⟨g1, Inv' (i + 1) (m - 1), fun H2 h => ⟨m - 1, by omega, h⟩, fun x H2 y => ?_⟩
        obtain ⟨F2, s2, o2, r2⟩ := g2 x H2 y
        have rl2 : Rl K mg Γ F2 L' (wipe σ (own.map (·.2))) H2 (wipeR ρ (own.map (·.2))) st' := ((rl1.step s' o').step s2 o2).wipe _
        have hD2 := s2.kp Dl _ hD nL'
        cases hb1 : bd ds[i] (wipeR ρ (own.map (·.2))) with
        | none => rw [hb1] at hc'; cases hc'
        | some ρ1 =>
          rw [hb1] at hc'
          dsimp only at hc'
          refine ⟨F2, L', _, st', ds[i], ρ1, rl2, r2, hb1, fun σ3 off rl3 => ⟨wipe_off off hw, F2, L', ρ1, st', rl3, ?_⟩⟩
          cases ht1 : t ρ1 st' with
          | bad => rw [ht1] at hc'; cases hc'
          | exc c fs st2 => rw [ht1] at hc'; cases hc'
          | ok b st2 =>
            rw [ht1] at hc'
            simp only [RC.bind_ok] at hc'
            intro F3 L3 H3 s3 o3
            have hD3 := s3.kp Dl _ hD2.1 hD2.2.2
            have rl4 := rl3.step s3 o3
            cases b with
            | false =>
              refine iteF ⟨by omega, F3, L3, st2, acc, accD, rest, (s'.trans s2).trans s3, o3, ?_, hD3.2.2, hD3.1, RepL.mono s3.ex _ (RepL.mono s2.ex _ hr), by omega, ?_, hT⟩
              · rw [hD3.2.1, hD2.2.1]; exact nF'
              · simpa using hc'
            | true =>
              rw [if_pos rfl] at hc'
              refine iteT ⟨F3, L3, ρ1, st2, rl4, ?_⟩
              cases he1 : me ρ1 st2 with
              | bad => rw [he1] at hc'; cases hc'
              | exc c fs st3 => rw [he1] at hc'; cases hc'
              | ok y st3 =>
                rw [he1] at hc'
                simp only [RC.bind_ok] at hc'
                intro F4 L4 H4 s4 o4 v kv
                have hD4 := s4.kp Dl _ hD3.1 hD3.2.2
                split at hc'
                · cases hc'
                · rename_i hloc
                  have ry : Rep K mg F4 y v := VRep.flat kv (by simpa using hloc)
                  cases hc2 : compGo bd t me (wipeR ρ (own.map (·.2))) (ds.drop (i + 1)) st3 with
                  | bad => rw [hc2] at hc'; cases hc'
                  | exc c fs st4 => rw [hc2] at hc'; cases hc'
                  | ok ys st4 =>
                    rw [hc2] at hc'
                    simp only [RC.bind_ok, RC.ok.injEq] at hc'
                    obtain ⟨e1, e2⟩ := hc'
                    subst e2
                    have nF4 : F4 Dl = none := by rw [hD4.2.1, hD3.2.1, hD2.2.1]; exact nF'
                    have lA : acc.length = accD.length := hr.length.symm
                    refine ⟨acc, hD4.1, by rw [sizeLine_eq]; omega, by omega, F4, L4, st3, acc ++ [v], accD ++ [y], ys, ?_, ?_, nF4, hD4.2.2, upd_same, ?_, by rw [List.length_append]; show accD.length + 1 ≤ i + 1; omega, hc2, ?_⟩
                    · have s5 := ((s'.trans s2).trans s3).trans s4
                      refine ⟨s5.ex, s5.pre, fun b u h n => ?_⟩
                      obtain ⟨k1, k2, k3⟩ := s5.kp b u h n
                      have hb : b ≠ Dl := ne_of_none h nD
                      exact ⟨by rw [upd_ne hb]; exact k1, k2, k3⟩
                    · refine ⟨fun b u h => ?_, o4.nd, o4.len, fun n b u h1 h2 => ?_⟩
                      · have hb : b ≠ Dl := fun z => by rw [z, nF4] at h; cases h
                        rw [upd_ne hb]; exact o4.ex b u h
                      · obtain ⟨k1, k2⟩ := o4.at_ n b u h1 h2
                        have hb : b ≠ Dl := fun z => hD4.2.2 (z ▸ List.mem_of_getElem? h1)
                        exact ⟨k1, k2.mono (Ex.refl F4) fun w z => by rw [upd_ne hb]; exact z⟩
                    · exact (RepL.mono s4.ex _ (RepL.mono s3.ex _ (RepL.mono s2.ex _ hr))).snoc ry
                    · rw [List.append_assoc]
                      show accD ++ (y :: ys) = total
                      rw [e1]; exact hT
      · left
        have e : i = ds.length := by omega
        subst e
        rw [List.drop_length] at hc'
        unfold compGo at hc'
        cases hc'
        rw [List.append_nil] at hT
        subst hT
        refine ⟨hstop, ?_⟩
        have q3 := q2 F' L' H' s' o'
        refine q3.here o' _ ⟨Dl, rfl, ?_, nF', nL', acc, hD, hr⟩
        cases h : H Dl with
        | none => rfl
        | some u => exact absurd nD (s1.more o1 Dl (by rw [h]; simp))
  · exact q1.elim
end
end Gh
/-! Gh7: comprehensions as rules; objects changed; lists and dicts changed; try, raise; defs. -/
namespace Gh
open L2 PyProof.Rows PySem.Spec PySem
section
variable {X : Cx} {K : PySem.W.Frag} {mg : Glob} {Γ : Ent} {W : WX} {tg iter elt : Expr} {ifs : List Expr} {pos p spos py : Pos} {bd : BDen} {mi : LDen} {me : EDen} {t : TDen} {scope : Scope} {own : List (Str × Nat)} {ws : List Nat}
theorem ts_nil : PTs X [] (ttG K mg Γ W tYes) := ⟨fun pins s σ H Q I ⟨F, L, ρ, st, rl, q⟩ => pts_nil.run pins s σ H Q I (q.here rl.sto)⟩
theorem ts_one {c : Expr} (h : PT X c (ttG K mg Γ W t)) : PTs X [c] (ttG K mg Γ W t) := pts_one h
theorem g_lc (hc : X.calm = true) (hN : X.N.Nodup) (hi : PI X tg iter (tiC K mg Γ W mi)) (ok : BlkOk X.N X.env.scope scope own)
    (hg : ∀ (s : Shared) (H : Hp) (C : Addr) (cl : List (Str × Addr)) (fp : List Addr), PG (X.blk s H scope (compEnvC scope cl C X.env) fp) tg (tgG K mg Γ ws bd))
    (ht : ∀ (s : Shared) (H : Hp) (C : Addr) (cl : List (Str × Addr)) (fp : List Addr), PTs (X.blk s H scope (compEnvC scope cl C X.env) fp) ifs (ttG K mg Γ W0 t))
    (he : ∀ (s : Shared) (H : Hp) (C : Addr) (cl : List (Str × Addr)) (fp : List Addr), PE (X.blk s H scope (compEnvC scope cl C X.env) fp) elt (teV K mg Γ W0 me)) (hw : ∀ j ∈ ws, j ∈ own.map (·.2) := by decide) (hs : ∀ x, foldedSetIterable iter X.env x = pure x := by intro _; rfl) :
    PE X (.ListComp elt [⟨tg, iter, ifs, 0⟩] scope pos) (teO K mg Γ W (eComp mi bd t me (own.map (·.2)))) :=
  pe_imp (pe_lc hc hN hi ok hg ht he hs) (g_comp (wi := tiC K mg Γ W mi) hc hN hi ok hg ht he hw)
theorem s_asgLc {i : Nat} {y : Str} (hc : X.calm = true) (hN : X.N.Nodup) (hsw : swapsWith (.ListComp elt [⟨tg, iter, ifs, 0⟩] scope pos) (some (.Name y py)) spos.line X.env = pure true) (hi : PI X tg iter (tiC K mg Γ W mi)) (ok : BlkOk X.N X.env.scope scope own)
    (hg : ∀ (s : Shared) (H : Hp) (C : Addr) (cl : List (Str × Addr)) (fp : List Addr), PG (X.blk s H scope (compEnvC scope cl C X.env) fp) tg (tgG K mg Γ ws bd))
    (ht : ∀ (s : Shared) (H : Hp) (C : Addr) (cl : List (Str × Addr)) (fp : List Addr), PTs (X.blk s H scope (compEnvC scope cl C X.env) fp) ifs (ttG K mg Γ W0 t))
    (he : ∀ (s : Shared) (H : Hp) (C : Addr) (cl : List (Str × Addr)) (fp : List Addr), PE (X.blk s H scope (compEnvC scope cl C X.env) fp) elt (teV K mg Γ W0 me)) (hw : ∀ j ∈ ws, j ∈ own.map (·.2) := by decide)
    (hy : X.N[i]? = some y := by rfl) (hyl : X.env.scope.names.lookup y = some .local := by rfl) (hs : ∀ x, foldedSetIterable iter X.env x = pure x := by intro _; rfl) :
    PS X (.Assign [.Name y py] (.ListComp elt [⟨tg, iter, ifs, 0⟩] scope pos) spos) (tsG K mg Γ W (sAsgO i (eComp mi bd t me (own.map (·.2))))) := by
  refine ps_imp (ps_setLc hc hN hy hyl hsw hi ok hg ht he hs) fun D' σ H ⟨F, L, ρ, st, rl, q⟩ => ?_
  have h : teO K mg Γ W (eComp mi bd t me (own.map (·.2))) σ H fun v H' => D'.nx (σ.set i (some v)) H' :=
    ⟨F, L, ρ, st, rl, (SPost.s q rl).imp fun F' L' H' st' d s o q' v kv => by
      obtain ⟨a, rfl, n, nF, nL, hs⟩ := kv
      exact q' F' L' _ H' (rl.setN s o i n nF nL hs)⟩
  exact g_comp (wi := tiC K mg Γ W mi) hc hN hi ok hg ht he hw σ H _ h
/-- a slot's own list, as a value from now on -/
def sVal (i : Nat) (s : SDen) : SDen := fun ρ st => match s ρ st with
  | .nx ρ' st' => .nx (frzE ρ' i) st'
  | r => r
theorem s_val {st0 : Stmt} {sa : SDen} (i : Nat) (h : PS X st0 (tsG K mg Γ W sa)) : PS X st0 (tsG K mg Γ W (sVal i sa)) := by
  refine ps_imp h fun D' σ H ⟨F, L, ρ, st, rl, q⟩ => ⟨F, L, ρ, st, rl, ?_⟩
  unfold sVal at q
  cases hs : sa ρ st with
  | nx ρ' st' =>
    rw [hs] at q
    intro F' L' σ' H' rl'
    obtain ⟨F2, rl2⟩ := rl'.frzE i
    exact q F2 L' σ' H' rl2
  | _ => rw [hs] at q; exact q
end

/-! ### objects of the store changed -/
section
variable {X : Cx} {K : PySem.W.Frag} {mg : Glob} {Γ : Ent} {W : WX} {o e v a b : Expr} {es : List Expr} {m ma mb mo mv : EDen} {pos p tpos apos cpos : Pos}
/-- an object of the store gets other contents -/
theorem Sto.put {F H : Hp} {L : List Addr} {st : Store} {n : Nat} {a : Addr} {d : D} {u : HO} (x : Sto K mg F L H st) (h1 : L[n]? = some a) (hs : ∀ H', H' a = some u → Has K mg F H' a d) : Sto K mg F L (upd H a u) (st.set n d) := by
  have nF : F a = none := (x.mem (List.mem_of_getElem? h1)).1
  refine ⟨fun b u q => ?_, x.nd, by rw [List.length_set]; exact x.len, fun k b w q1 q2 => ?_⟩
  · have hb : b ≠ a := fun z => by rw [z, nF] at q; cases q
    rw [upd_ne hb]
    exact x.ex b u q
  · rcases set_get q2 with ⟨rfl, rfl, hl⟩ | ⟨hn, q2⟩
    · rw [h1] at q1
      cases q1
      exact ⟨nF, hs _ upd_same⟩
    · obtain ⟨k1, k2⟩ := x.at_ k b w q1 q2
      have hb : b ≠ a := fun z => by
        subst z
        obtain ⟨l1, e1⟩ := List.getElem?_eq_some_iff.mp q1
        obtain ⟨l2, e2⟩ := List.getElem?_eq_some_iff.mp h1
        exact hn ((List.getElem_inj x.nd).mp (e1.trans e2.symm))
      exact ⟨k1, k2.mono (Ex.refl F) fun w z => by rw [upd_ne hb]; exact z⟩
theorem Stp.put {F H : Hp} {L : List Addr} {a : Addr} {u : HO} (h : a ∈ L) : Stp F L H F L (upd H a u) :=
  ⟨Ex.refl F, ⟨[], (List.append_nil L).symm⟩, fun b w q n => ⟨by rw [upd_ne (fun z => n (by rw [z]; exact h))]; exact q, rfl, n⟩⟩
/-- o.f = v, o an object of the store, of a class of cs -/
def sAtt (f : Str) (cs : List Str) (mo mv : EDen) : SDen := fun ρ st => (mv ρ st).s ρ fun x st1 => (mo ρ st1).s ρ fun y st2 => match y with
  | .loc n => (match st2[n]? with
    | some (.ins c fs) => if c ∈ cs ∧ isLoc x = false ∧ fs.length < 1000 then .nx ρ (st2.set n (.ins c (putFD f x fs))) else .bad
    | _ => .bad)
  | _ => .bad
theorem s_att {fn : Str} {cs : List Str} {pos' : Pos} (hK : X.K = K) (A : AttOk K mg fn cs) (ho : PE X o (teV K mg Γ W mo)) (hv : PE X v (teV K mg Γ W mv)) (hs : swapsWith v (some (.Attribute o fn pos')) pos.line X.env = pure false := by rfl) :
    PS X (.Assign [.Attribute o fn pos'] v pos) (tsG K mg Γ W (sAtt fn cs mo mv)) := by
  refine ps_imp (ps_fld ho hv hs) fun D' σ H ⟨F, L, ρ, st, rl, q⟩ => ⟨F, L, ρ, st, rl, (SPost.s q rl).imp fun F1 L1 H1 st1 x s1 o1 q1 u ku => ?_⟩
  have rl1 := rl.step s1 o1
  refine ⟨F1, L1, ρ, st1, rl1, (SPost.s q1 rl1).imp fun F2 L2 H2 st2 y s2 o2 q2 w kw => ?_⟩
  have rl2 := rl1.step s2 o2
  split at q2
  · rename_i n
    split at q2
    · rename_i c fs e
      split at q2
      · rename_i hc
        obtain ⟨hc1, hc2, hc3⟩ := hc
        obtain ⟨a, h1, rfl⟩ := kw.loc
        obtain ⟨nF, C, dx, fv, h2, h3, h4⟩ := o2.at_ n a _ h1 e
        obtain ⟨cl, na⟩ := A c hc1 C h2
        have ru : Rep K mg F2 x u := VRep.flat (s2.vrep ku) hc2
        refine ⟨a, C, dx, fv, rfl, h3, by rw [hK]; exact cl, by rw [hK]; exact na, by rw [← h4.length]; exact hc3, ?_⟩
        have o3 := o2.put (d := .ins c (putFD fn x fs)) (u := .ins C dx (putF fn u fv)) h1 fun H' h => ⟨C, dx, _, h2, h, h4.put ru fn⟩
        exact q2 F2 L2 σ _ (rl2.step (Stp.put (List.mem_of_getElem? h1)) o3)
      · exact q2.elim
    · exact q2.elim
  · exact q2.elim
/-- x.append(e), x a list of the frame's own -/
def sApp (i : Nat) (m : EDen) : SDen := fun ρ st => match ρ[i]? with
  | some (.own (.lst ds)) => (m ρ st).s ρ fun d st1 => if ds.length < 100000 ∧ isLoc d = false then .nx (ρ.set i (.own (.lst (ds ++ [d])))) st1 else .bad
  | _ => .bad
theorem s_app (i : Nat) {x : Str} {px : Pos} (hK : X.K = K) (h : PE X e (teV K mg Γ W m)) (hN : X.N[i]? = some x := by rfl) (hv : Vis X.env.scope x := by first | exact Or.inl rfl | exact Or.inr (Or.inl rfl) | exact Or.inr (Or.inr rfl)) (hd : (x == ("__debug__" : Str)) = false := by decide)
    (hcd : (x == ("__classdict__" : Str)) = false := by decide) (hsw : swapsWith (.Call (.Attribute (.Name x px) "append" apos) [e] [] cpos) none pos.line X.env = pure false := by rfl)
    (hbase : attributeBase (.Name x px) "append" X.env (eval (.Name x px) X.env) = eval (.Name x px) X.env := by rfl)
    (hfew : ((backTo cpos (starEach (e :: []) X.env)).all (fun x => !x.1) && (backToKw cpos (keywordEach [] X.env)).all (fun x => x.1.isSome)
      && decide ((e :: ([] : List Expr)).length + ([] : List Keyword).length + (if ([] : List Keyword).isEmpty then 0 else 1) < 30)) = true := by rfl)
    (hline : (apos.endLine == cpos.line) = true := by rfl) (hs : starEach (e :: []) X.env = (false, eval e X.env) :: starEach [] X.env := by rfl) (hplain : (backTo cpos (starEach [] X.env)).any (·.1) = false := by rfl) :
    PS X (.Expr (.Call (.Attribute (.Name x px) "append" apos) [e] [] cpos) pos) (tsG K mg Γ W (sApp i m)) := by
  refine ps_imp (ps_expr (pe_bm PySem.F.plainAttrs_list PySem.F.slot_list_append PySem.F.type_list_append mt_append (pe_var hN hv hd hcd) (pa_cons h pa_nil hs) hbase hfew hline hs hplain) hsw) fun D' σ H ⟨F, L, ρ, st, rl, q⟩ => ?_
  unfold sApp at q
  split at q
  · rename_i ds ei
    obtain ⟨a, e1, nF, nL, n0, vs, h1, h2⟩ := rl.so i _ ei
    refine ⟨_, e1, .inl ⟨rfl, vs, .inl (.inl h1)⟩, F, L, ρ, st, rl, (SPost.s q rl).imp fun F1 L1 H1 st1 d s o q1 v kv => ?_⟩
    split at q1
    · rename_i hc
      obtain ⟨k1, k2, k3⟩ := s.kp a _ h1 nL
      have r := RepL.mono s.ex ds h2
      refine ⟨a, vs, v, rfl, rfl, k1, by rw [sizeLine_eq, ← h2.length]; omega, ?_⟩
      exact q1 F1 L1 σ _ ((rl.step s o).mut ei e1 fun H' h => ⟨_, h, r.snoc (VRep.flat kv hc.2)⟩)
    · exact q1.elim
  · exact q.elim
/-- x += e, x a list of the frame's own, e a list or a tuple -/
def sExt (i : Nat) (m : EDen) : SDen := fun ρ st => match ρ[i]? with
  | some (.own (.lst ds)) => (m ρ st).s ρ fun d st1 => match d with
    | .lst es => if ds.length + es.length < 100000 then .nx (ρ.set i (.own (.lst (ds ++ es)))) st1 else .bad
    | _ => .bad
  | _ => .bad
theorem pip_ext : PIp X .Add rExt2 := fun pins s σ H x y v u Q I r r2 q => iop_ext pins s σ H x y v u Q I r r2 q
theorem s_ext (i : Nat) {x : Str} {px : Pos} (hN : X.N.Nodup) (h : PE X e (teV K mg Γ W m)) (hi : X.N[i]? = some x := by rfl) (hx : Loc X.env.scope x := by first | exact Or.inl rfl | exact Or.inr rfl) (hf : X.fn x = true ∨ X.env.scope.names.lookup x = some .local := by first | exact .inl rfl | exact .inr rfl | assumption) :
    PS X (.AugAssign (.Name x px) .Add e pos) (tsG K mg Γ W (sExt i m)) := by
  refine ps_imp (ps_aug hN hi hx h pip_ext hf) fun D' σ H ⟨F, L, ρ, st, rl, q⟩ => ?_
  unfold sExt at q
  split at q
  · rename_i ds ei
    obtain ⟨a, e1, nF, nL, n0, vs, h1, h2⟩ := rl.so i _ ei
    refine ⟨_, e1, F, L, ρ, st, rl, (SPost.s q rl).imp fun F1 L1 H1 st1 d s o q1 v kv => ?_⟩
    split at q1
    · rename_i es
      split at q1
      · rename_i hc
        obtain ⟨k1, k2, k3⟩ := s.kp a _ h1 nL
        have r := RepL.mono s.ex ds h2
        rcases kv with ⟨_, _, e, _⟩ | ⟨b, us, rfl, g1, g2⟩
        · cases e
        · refine ⟨a, b, vs, us, rfl, rfl, k1, o.ex.lst g1, by rw [sizeLine_eq, ← h2.length, ← g2.length]; omega, ?_⟩
          have m := (rl.step s o).mut (o := .lst (vs ++ us)) (e := .lst (ds ++ es)) ei e1 fun H' h => ⟨_, h, r.append g2⟩
          have es' : σ.set i (some (V.ref a)) = σ := by
            apply List.ext_getElem?
            intro j
            by_cases hj : j = i
            · subst hj
              rw [List.getElem?_set_self (List.getElem?_eq_some_iff.mp e1).1, e1]
            · rw [List.getElem?_set_ne (Ne.symm hj)]
          show D'.nx (σ.set i (some (V.ref a))) _
          rw [es']
          exact q1 F1 L1 σ _ m
      · exact q1.elim
    · exact q1.elim
  · exact q.elim
/-- x op= e, values -/
def sAug (i : Nat) (g : Op2) (m : EDen) : SDen := fun ρ st => match ρ[i]? with
  | some (.val x) => (m ρ st).s ρ fun y st1 => (g x y st1).s ρ fun z st2 => .nx (ρ.set i (.val z)) st2
  | _ => .bad
theorem s_aug (i : Nat) {x : Str} {px : Pos} {op : Operator} {r : R2} {g : Op2} (ho : OpR X (inplaceOp op) r) (hsem : Sem2 kV K mg g r) (hN : X.N.Nodup) (h : PE X e (teV K mg Γ W m)) (hi : X.N[i]? = some x := by rfl) (hx : Loc X.env.scope x := by first | exact Or.inl rfl | exact Or.inr rfl)
    (hf : X.fn x = true ∨ X.env.scope.names.lookup x = some .local := by first | exact .inl rfl | exact .inr rfl | assumption) : PS X (.AugAssign (.Name x px) op e pos) (tsG K mg Γ W (sAug i g m)) := by
  refine ps_imp (ps_aug (ti := r) hN hi hx h (fun pins s σ H x y v u Q I r r2 q => ho pins s σ H x y v u Q I r r2 q) hf) fun D' σ H ⟨F, L, ρ, st, rl, q⟩ => ?_
  unfold sAug at q
  split at q
  · rename_i d ei
    obtain ⟨v, e1, kv⟩ := rl.sl i _ ei
    refine ⟨_, e1, F, L, ρ, st, rl, (SPost.s q rl).imp fun F1 L1 H1 st1 y s o q1 u ku => ?_⟩
    have rl1 := rl.step s o
    exact hsem Γ W F1 L1 σ H1 ρ st1 d y v u _ rl1 (.inl (s.vrep kv)) (.inl ku) ((SPost.s q1 rl1).imp fun F2 L2 H2 st2 z s2 o2 q2 w kw => q2 F2 L2 _ H2 ((rl1.step s2 o2).setV i kw))
  · exact q.elim
/-- d[k] = v, d a dict of the frame's own -/
def keyOf : D → Option Key
  | .int i => some (.inl i)
  | .str s => some (.inr s)
  | _ => none
theorem keyOf_v {d : D} {k : Key} {F : Hp} {L : List Addr} {v : V} (h : keyOf d = some k) (r : VRep K mg L F d v) : v = L2.kV k := by
  cases d with
  | int i => cases h; exact r.int
  | str s => cases h; exact r.str
  | _ => cases h
def sDPut (i : Nat) (mk mv : EDen) : SDen := fun ρ st => (mv ρ st).s ρ fun x st1 => match ρ[i]? with
  | some (.own (.dct kvs)) => (mk ρ st1).s ρ fun y st2 => match keyOf y with
    | some k => if kvs.length < 100000 ∧ isLoc x = false then .nx (ρ.set i (.own (.dct (putD kvs k x)))) st2 else .bad
    | none => .bad
  | _ => .bad
theorem s_dput (i : Nat) {x : Str} {px pos' : Pos} {mk mv : EDen} (hu : X.A.units + 1 < cLine) (hk : PE X e (teV K mg Γ W mk)) (hv : PE X v (teV K mg Γ W mv)) (hN : X.N[i]? = some x := by rfl) (hvis : Vis X.env.scope x := by first | exact Or.inl rfl | exact Or.inr (Or.inl rfl) | exact Or.inr (Or.inr rfl))
    (hd : (x == ("__debug__" : Str)) = false := by decide) (hcd : (x == ("__classdict__" : Str)) = false := by decide) (hs : swapsWith v (some (.Subscript (.Name x px) e pos')) pos.line X.env = pure false := by rfl) :
    PS X (.Assign [.Subscript (.Name x px) e pos'] v pos) (tsG K mg Γ W (sDPut i mk mv)) := by
  refine ps_imp (ps_dput hu (pe_var hN hvis hd hcd) hk hv hs) fun D' σ H ⟨F, L, ρ, st, rl, q⟩ => ⟨F, L, ρ, st, rl, (SPost.s q rl).imp fun F1 L1 H1 st1 x s1 o1 q1 w kw => ?_⟩
  have rl1 := rl.step s1 o1
  split at q1
  · rename_i kvs ei
    obtain ⟨a, e1, nF, nL, n0, vs, h1, h2⟩ := rl1.so i _ ei
    refine ⟨_, e1, F1, L1, ρ, st1, rl1, (SPost.s q1 rl1).imp fun F2 L2 H2 st2 y s2 o2 q2 u ku => ?_⟩
    split at q2
    · rename_i k hk
      split at q2
      · rename_i hc
        obtain ⟨k1, k2, k3⟩ := s2.kp a _ h1 nL
        cases keyOf_v hk ku
        refine ⟨a, _, rfl, DPut.k (k := k) k1 (by rw [sizeLine_eq, ← h2.length]; omega), ?_⟩
        exact q2 F2 L2 σ _ ((rl1.step s2 o2).mut ei e1 fun H' h => ⟨_, h, (RepK.mono s2.ex _ h2).put k (VRep.flat (s2.vrep kw) hc.2)⟩)
      · exact q2.elim
    · exact q2.elim
  · exact q1.elim
end

/-! ### try, raise -/
section
variable {X : Cx} {K : PySem.W.Frag} {mg : Glob} {Γ : Ent} {W : WX} {e : Expr} {es : List Expr} {body suite : List Stmt} {b₀ : Stmt} {pos pos' np p : Pos} {mb mh : SDen} {ms : ADen}
/-- what is done with an exception's suite: the name's slot goes -/
def unset (i : Nat) (r : SR) : SR := match r with
  | .nx ρ st => .nx (ρ.set i .un) st
  | .bk ρ st => .bk (ρ.set i .un) st
  | .ct ρ st => .ct (ρ.set i .un) st
  | .rt d st => .rt d st
  | _ => .bad
/-- try: body, except x as n: suite; all: the classes that may come, cs: those that x takes -/
def sTryAs (i : Nat) (all cs : List Str) (mb mh : SDen) : SDen := fun ρ st => match mb ρ st with
  | .exc c fs ρ' st' => if c ∈ all then (if c ∈ cs then unset i (mh (ρ'.set i (.exc c fs)) st') else .exc c fs ρ' st') else .bad
  | r => r
def ExcAll (K : PySem.W.Frag) (mg : Glob) (h : Value) (all cs : List Str) : Prop := ∀ c ∈ all, ∀ C, mg c = some (.ref C) → PySem.W.exmOne K (.ref C) h = some (decide (c ∈ cs))
theorem s_tryAs {i : Nat} {x n : Str} {c : Value} {all cs : List Str} (hK : X.K = K) (hx0 : Γ.x = none) (hs : X.stack = X.env :: X.outer) (hf : X.env.frame = some X.env.locals) (hN : X.N.Nodup) (hc : Names X x c) (ha : ExcAll K mg c all cs) (tk : Takes X W)
    (hb : ∀ (W : WX) (pn : List (Addr × Obj)) (xe : Value → Shared → Prop), Takes (X.tr pn xe) W → PassesOwn (model X.prog X.w) X.A X.env xe → PSs (X.tr pn xe) body (tsG K mg Γ W mb))
    (hsu : ∀ (a : Addr) (oe : Obj) (cls : Value) (d : Option Addr) (pn : List (Addr × Obj)), Zc cls d oe → (∃ vs, oe.data = .fields vs) → PSs (X.suite a ((a, oe) :: pn)) (b₀ :: suite) (tsG K mg { Γ with x := some (i, a, cls, d) } W0 mh))
    (hi : X.N[i]? = some n := by rfl) (hln : X.env.kindOf n = some .local := by rfl) :
    PS X (.Try body [.ExceptHandler (some (.Name x np)) (some n) (b₀ :: suite) pos'] [] [] pos) (tsG K mg Γ W (sTryAs i all cs mb mh)) := by
  refine ps_imp (ps_try_as (ts := fun a cls d => tsG K mg { Γ with x := some (i, a, cls, d) } W0 mh) (tb := fun W => tsG K mg Γ W mb) hs hf hN hi hln hc tk hb hsu) fun D' σ H ⟨F, L, ρ, st, rl, q⟩ => ⟨F, L, ρ, st, rl, ?_⟩
  unfold sTryAs at q
  cases hm : mb ρ st with
  | exc c' fs ρ' st' =>
    rw [hm] at q
    dsimp only at q
    intro F' L' σ' H' cls dd rl' ex
    split at q
    · rename_i hall
      obtain ⟨C, d, fv, h1, rfl, rfl, h4, h5⟩ := id ex
      refine ⟨decide (c' ∈ cs), by rw [hK]; exact ha c' hall C h1, fun hy a na => ?_, fun hn => ?_⟩
      · have hin : c' ∈ cs := of_decide_eq_true hy
        rw [if_pos hin] at q
        have up : ∀ {F L σ H ρ st}, Rl K mg Γ F L σ H ρ st → Rl K mg { Γ with x := some (i, a, .ref C, some d) } F L σ H ρ st := fun r =>
          ⟨r.sto, r.stp, r.sl, r.so, r.sd, fun j c fs h => (by
            obtain ⟨_, _, _, z, _⟩ := r.sx j c fs h
            rw [hx0] at z
            cases z), r.len⟩
        have rl2 := (up rl').set i (.exc c' fs) (some (.ref a)) (fun e q => by cases q) (fun e q => by cases q) (fun c2 fs2 q => by cases q; exact ⟨a, _, _, rfl, rfl, ex⟩)
        have down : ∀ {F L σ H ρ st}, Rl K mg { Γ with x := some (i, a, .ref C, some d) } F L σ H ρ st → Rl K mg Γ F L (σ.set i none) H (ρ.set i .un) st := fun r => by
          have r' := r.setU i none
          refine ⟨r'.sto, r'.stp, r'.sl, r'.so, r'.sd, fun j c fs h => ?_, r'.len⟩
          obtain ⟨_, _, _, z, _⟩ := r'.sx j c fs h
          cases z
          rcases set_get h with ⟨_, z, _⟩ | ⟨z, _⟩
          · cases z
          · exact absurd rfl z
        refine ⟨F', L', _, st', rl2, ?_⟩
        cases hh : mh (ρ'.set i (.exc c' fs)) st' with
        | nx ρ2 st2 => rw [hh] at q; exact fun F3 L3 σ3 H3 r3 => q F3 L3 _ H3 (down r3)
        | bk ρ2 st2 => rw [hh] at q; exact fun F3 L3 σ3 H3 r3 => q F3 L3 _ H3 (down r3)
        | ct ρ2 st2 => rw [hh] at q; exact fun F3 L3 σ3 H3 r3 => q F3 L3 _ H3 (down r3)
        | rt d2 st2 => rw [hh] at q; exact fun F3 L3 σ3 H3 ρ3 v r3 kv => q F3 L3 _ H3 _ v (down r3) kv
        | exc c2 fs2 ρ2 st2 => rw [hh] at q; exact q.elim
        | bad => rw [hh] at q; exact q.elim
      · rw [if_neg (of_decide_eq_false hn)] at q
        exact q F' L' σ' H' _ _ rl' ex
    · exact q.elim
  | _ => rw [hm] at q; exact q
/-- .. without a name -/
def noXs (r : SR) : SR := match r with
  | .exc _ _ _ _ => .bad
  | r => r
def sTry (all cs : List Str) (mb mh : SDen) : SDen := fun ρ st => match mb ρ st with
  | .exc c fs ρ' st' => if c ∈ all then (if c ∈ cs then noXs (mh ρ' st') else .exc c fs ρ' st') else .bad
  | r => r
theorem s_try {x : Str} {c : Value} {all cs : List Str} (hK : X.K = K) (hs : X.stack = X.env :: X.outer) (hf : X.env.frame = some X.env.locals) (hc : Names X x c) (ha : ExcAll K mg c all cs) (tk : Takes X W)
    (hb : ∀ (W : WX) (pn : List (Addr × Obj)) (xe : Value → Shared → Prop), Takes (X.tr pn xe) W → PassesOwn (model X.prog X.w) X.A X.env xe → PSs (X.tr pn xe) body (tsG K mg Γ W mb))
    (hsu : ∀ (a : Addr) (oe : Obj) (cls : Value) (d : Option Addr) (pn : List (Addr × Obj)), Zc cls d oe → (∃ vs, oe.data = .fields vs) → PSs (X.suite a ((a, oe) :: pn)) (b₀ :: suite) (tsG K mg Γ W0 mh)) :
    PS X (.Try body [.ExceptHandler (some (.Name x np)) none (b₀ :: suite) pos'] [] [] pos) (tsG K mg Γ W (sTry all cs mb mh)) := by
  refine ps_imp (ps_try_only (ts := fun a cls d => tsG K mg Γ W0 mh) (tb := fun W => tsG K mg Γ W mb) hs hf hc tk hb hsu) fun D' σ H ⟨F, L, ρ, st, rl, q⟩ => ⟨F, L, ρ, st, rl, ?_⟩
  unfold sTry at q
  cases hm : mb ρ st with
  | exc c' fs ρ' st' =>
    rw [hm] at q
    dsimp only at q
    intro F' L' σ' H' cls dd rl' ex
    split at q
    · rename_i hall
      obtain ⟨C, d, fv, h1, rfl, rfl, h4, h5⟩ := id ex
      refine ⟨decide (c' ∈ cs), by rw [hK]; exact ha c' hall C h1, fun hy a na => ?_, fun hn => ?_⟩
      · rw [if_pos (of_decide_eq_true hy)] at q
        refine ⟨F', L', ρ', st', rl', ?_⟩
        cases hh : mh ρ' st' with
        | exc c2 fs2 ρ2 st2 => rw [hh] at q; exact q.elim
        | _ => rw [hh] at q; exact q
      · rw [if_neg (of_decide_eq_false hn)] at q
        exact q F' L' σ' H' _ _ rl' ex
    · exact q.elim
  | _ => rw [hm] at q; exact q
end

/-! ### an exception's own __init__ of one or two fields -/
def spInit2 (K : PySem.W.Frag) (f1 f2 : Str) : Sp := fun vs H Q E => ∃ (a C : Addr) (u w : V), vs = [.ref a, u, w] ∧ OexC K C ∧ PySem.W.findIn K (.ref C) f1 = some none ∧ PySem.W.findIn K (.ref C) f2 = some none ∧ H a = some (exo a C none) ∧
  ∀ dx, H dx = none → dx ≠ a → Q .non (upd (upd (upd H dx (exd dx [(f1, u)])) a (exo a C (some dx))) dx (exd dx [(f2, w), (f1, u)]))
def spInit1 (K : PySem.W.Frag) (f1 : Str) : Sp := fun vs H Q E => ∃ (a C : Addr) (u : V), vs = [.ref a, u] ∧ OexC K C ∧ PySem.W.findIn K (.ref C) f1 = some none ∧ H a = some (exo a C none) ∧
  ∀ dx, H dx = none → dx ≠ a → Q .non (upd (upd H dx (exd dx [(f1, u)])) a (exo a C (some dx)))
theorem read2 {K : PySem.W.Frag} {f1 f2 x y z : Str} {vs : List V} {H : Hp} {Q : VK} {E : XK} (h : spInit2 K f1 f2 vs H Q E) :
    (tSeq (tOst K f1 (tVar 0) (tVar 1)) (tOst K f2 (tVar 0) (tVar 2))) { nx := fun _ H' => Q .non H', rt := Q } (start [x, y, z] vs) H := by
  obtain ⟨a, C, u, w, rfl, T, n1, n2, ha, q⟩ := h
  refine ⟨u, rfl, .ref a, rfl, a, C, rfl, T, n1, .inl ⟨ha, fun dx nx ne => ?_⟩⟩
  refine ⟨w, rfl, .ref a, rfl, a, C, rfl, T, n2, .inr ⟨dx, [(f1, u)], upd_same, by rw [upd_ne ne, upd_same], by simp, q dx nx ne⟩⟩
theorem read1 {K : PySem.W.Frag} {f1 x y : Str} {vs : List V} {H : Hp} {Q : VK} {E : XK} (h : spInit1 K f1 vs H Q E) :
    (tOst K f1 (tVar 0) (tVar 1)) { nx := fun _ H' => Q .non H', rt := Q } (start [x, y] vs) H := by
  obtain ⟨a, C, u, rfl, T, n1, ha, q⟩ := h
  exact ⟨u, rfl, .ref a, rfl, a, C, rfl, T, n1, .inl ⟨ha, q⟩⟩
section
variable {X : Cx} {K : PySem.W.Frag} {mg : Glob} {Γ : Ent} {W : WX} {e e2 : Expr} {pos pos2 p : Pos} {ms : ADen} {kk : Nat} {c f1 f2 : Str} {C fI : Addr} {fd : FuncData} {ps : List Str}
def sRaise (c : Str) (fs : List Str) (ms : ADen) : SDen := fun ρ st => (ms ρ st).s ρ fun ds st' => if flatL ds = true ∧ ds.length = fs.length then .exc c (fs.zip ds).reverse ρ st' else .bad
theorem del_made {H : Hp} {a d : Addr} {o : HO} (na : H a = none) (ne : d ≠ a) (nd : H d = none) {H2 : Hp} (h : ∀ b, b ≠ a → b ≠ d → H2 b = H b) : upd (del H2 a) d o = upd H d o := by
  funext b
  by_cases hb : b = d
  · subst hb; rw [upd_same, upd_same]
  · rw [upd_ne hb, upd_ne hb]
    by_cases hc : b = a
    · subst hc; rw [del_same, na]
    · rw [del_ne hc, h b hc hb]
theorem s_raise2 (hK : X.K = K) (hcalm : X.calm = true) (tk : Takes X W) (T : OexC K C) (n1 : PySem.W.findIn K (.ref C) f1 = some none) (n2 : PySem.W.findIn K (.ref C) f2 = some none) (iC : PySem.W.findIn K (.ref C) "__init__" = some (some (.ref fI))) (tI : PySem.W.typeIn K (.ref fI) = some (.type "function"))
    (F1 : FnOk X.prog X.w X.K X.mg X.base (L2.CX X.prog X.w) kk fI fd ps (spInit2 K f1 f2)) (hr : Room (kk + 1) X.A) (hb : Binds X.K fd ps []) (hm : X.mg c = some (.ref C)) (hmg : mg c = some (.ref C)) (ha : PA X [e, e2] (taG K mg Γ W ms))
    (hg : Gl X c := by rfl) (hdb : (c == ("__debug__" : Str)) = false := by decide) (he : starEach (e :: [e2]) X.env = (false, eval e X.env) :: starEach [e2] X.env := by rfl) (hpl : (backTo pos (starEach [e2] X.env)).any (·.1) = false := by rfl) :
    PS X (.Raise (some (.Call (.Name c p) [e, e2] [] pos)) none pos2) (tsG K mg Γ W (sRaise c [f1, f2] ms)) := by
  subst hK
  refine ps_imp (ps_raise hcalm tk (pmk_oex T iC tI F1 hr hb .nil passL hg hm ha hdb he hpl)) fun D' σ H ⟨F, L, ρ, st, rl, q⟩ => ⟨F, L, ρ, st, rl, (SPost.s q rl).imp fun F1 L1 H1 st1 ds s o q1 vs kvs => ?_⟩
  split at q1
  · rename_i hc
    obtain ⟨h1, h2⟩ := hc
    match ds, h2, kvs with
    | [d1, d2], _, kvs =>
      have rr := kvs.flat h1
      obtain ⟨u, r, rfl, r1, w, r', rfl, r2, r3⟩ := rr
      cases (show r' = [] from r3)
      refine ⟨by show 2 ≤ 1000; decide, fun a na => ⟨a, C, u, w, rfl, T, n1, n2, upd_same, fun dx ndx ne => ?_⟩⟩
      have nd : H1 dx = none := by rw [upd_ne ne] at ndx; exact ndx
      refine ⟨rfl, dx, [(f2, w), (f1, u)], ?_, upd_same, nd, ?_⟩
      · rw [upd_ne (Ne.symm ne), upd_same]
      · have eq : upd (del (upd (upd (upd (upd H1 a (exo a C none)) dx (exd dx [(f1, u)])) a (exo a C (some dx))) dx (exd dx [(f2, w), (f1, u)])) a) dx (.xd [(f2, w), (f1, u)]) = upd H1 dx (.xd [(f2, w), (f1, u)]) :=
          del_made na ne nd fun b hb hd => by rw [upd_ne hd, upd_ne hb, upd_ne hd, upd_ne hb]
        rw [eq]
        obtain ⟨s2, o2⟩ := o.lay (o := .xd [(f2, w), (f1, u)]) nd
        exact q1 _ L1 σ _ _ _ ((rl.step s o).step s2 o2) ⟨C, dx, _, hmg, rfl, rfl, upd_same, w, _, rfl, Rep.mono s2.ex _ r2, u, _, rfl, Rep.mono s2.ex _ r1, rfl⟩
  · exact q1.elim
theorem s_raise1 (hK : X.K = K) (hcalm : X.calm = true) (tk : Takes X W) (T : OexC K C) (n1 : PySem.W.findIn K (.ref C) f1 = some none) (iC : PySem.W.findIn K (.ref C) "__init__" = some (some (.ref fI))) (tI : PySem.W.typeIn K (.ref fI) = some (.type "function"))
    (F1 : FnOk X.prog X.w X.K X.mg X.base (L2.CX X.prog X.w) kk fI fd ps (spInit1 K f1)) (hr : Room (kk + 1) X.A) (hb : Binds X.K fd ps []) (hm : X.mg c = some (.ref C)) (hmg : mg c = some (.ref C)) (ha : PA X [e] (taG K mg Γ W ms))
    (hg : Gl X c := by rfl) (hdb : (c == ("__debug__" : Str)) = false := by decide) (he : starEach (e :: []) X.env = (false, eval e X.env) :: starEach [] X.env := by rfl) (hpl : (backTo pos (starEach [] X.env)).any (·.1) = false := by rfl) :
    PS X (.Raise (some (.Call (.Name c p) [e] [] pos)) none pos2) (tsG K mg Γ W (sRaise c [f1] ms)) := by
  subst hK
  refine ps_imp (ps_raise hcalm tk (pmk_oex T iC tI F1 hr hb .nil passL hg hm ha hdb he hpl)) fun D' σ H ⟨F, L, ρ, st, rl, q⟩ => ⟨F, L, ρ, st, rl, (SPost.s q rl).imp fun F1 L1 H1 st1 ds s o q1 vs kvs => ?_⟩
  split at q1
  · rename_i hc
    obtain ⟨h1, h2⟩ := hc
    match ds, h2, kvs with
    | [d1], _, kvs =>
      have rr := kvs.flat h1
      obtain ⟨u, r, rfl, r1, r3⟩ := rr
      cases (show r = [] from r3)
      refine ⟨by show 1 ≤ 1000; decide, fun a na => ⟨a, C, u, rfl, T, n1, upd_same, fun dx ndx ne => ?_⟩⟩
      have nd : H1 dx = none := by rw [upd_ne ne] at ndx; exact ndx
      refine ⟨rfl, dx, [(f1, u)], upd_same, ?_, nd, ?_⟩
      · rw [upd_ne ne, upd_same]
      · have eq : upd (del (upd (upd (upd H1 a (exo a C none)) dx (exd dx [(f1, u)])) a (exo a C (some dx))) a) dx (.xd [(f1, u)]) = upd H1 dx (.xd [(f1, u)]) :=
          del_made na ne nd fun b hb hd => by rw [upd_ne hb, upd_ne hd, upd_ne hb]
        rw [eq]
        obtain ⟨s2, o2⟩ := o.lay (o := .xd [(f1, u)]) nd
        exact q1 _ L1 σ _ _ _ ((rl.step s o).step s2 o2) ⟨C, dx, _, hmg, rfl, rfl, upd_same, u, _, rfl, Rep.mono s2.ex _ r1, rfl⟩
  · exact q1.elim
/-- a field of the exception that the suite holds -/
def eXf (i : Nat) (cs : List Str) (f : Str) : EDen := fun ρ st => match ρ[i]? with
  | some (.exc c fs) => if c ∈ cs then (match fs.lookup f with
    | some d => .ok d st
    | none => .bad) else .bad
  | _ => .bad
theorem g_xf {a C : Addr} {oe : Obj} {cls : Value} {d : Option Addr} {pn : List (Addr × Obj)} {i : Nat} {x n : Str} (hK : X.K = K) (T : XfC K C) (hno : PySem.W.findIn K (.ref C) n = some none) (hmg : mg c = some (.ref C)) (hz : Zc cls d oe) (hf : ∃ vs, oe.data = .fields vs)
    (hN : X.N[i]? = some x := by rfl) (hv : Vis X.env.scope x := by first | exact Or.inl rfl | exact Or.inr (Or.inl rfl) | exact Or.inr (Or.inr rfl)) (hd : (x == ("__debug__" : Str)) = false := by decide) (hcd : (x == ("__classdict__" : Str)) = false := by decide)
    (hb : attributeBase (.Name x p) n X.env (eval (.Name x p) X.env) = eval (.Name x p) X.env := by rfl) :
    PE (X.suite a ((a, oe) :: pn)) (.Attribute (.Name x p) n pos) (teV K mg { Γ with x := some (i, a, cls, d) } W (eXf i [c] n)) := by
  subst hK
  refine pe_imp (pe_xf T hno hz hf (pe_var (i := i) hN hv hd hcd) hb) fun σ H Q ⟨F, L, ρ, st, rl, q⟩ => ?_
  unfold eXf at q
  split at q
  · rename_i c' fs ei
    split at q
    · rename_i hc
      have hc : c' = c := by simpa using hc
      subst hc
      split at q
      · rename_i y hy
        obtain ⟨a', cls', dd', e1, e2, C', d', fv, h1, rfl, rfl, h4, h5⟩ := rl.sx i _ _ ei
        cases e1
        rw [hmg] at h1; cases h1
        obtain ⟨w, hw, rw'⟩ := h5.look hy
        exact ⟨_, e2, rfl, rfl, d', fv, w, rfl, rl.sto.ex.xd h4, hw, q.here rl.sto w (.inr rw')⟩
      · exact q.elim
    · exact q.elim
  · exact q.elim
end

/-! ### defs -/
/-- a call's end: what was new in the store stands still -/
def finD (n : Nat) (d : D) (st : Store) : RC D := match d with
  | .loc k => if k < n then .ok (.loc k) (st.take n) else (match st[k]? with
    | some e => .ok e (st.take n)
    | none => .bad)
  | d => .ok d (st.take n)
/-- a def of np parameters and nl names by its body -/
def callD (np nl : Nat) (body : SDen) : CallF := fun ds st => if ds.length = np then (match body (ds.map Sl.val ++ List.replicate (nl - np) Sl.un) st with
  | .nx _ st' => finD st.length .non st'
  | .rt d st' => finD st.length d st'
  | .exc c fs _ st' => .exc c fs (st'.take st.length)
  | _ => .bad) else .bad
section
variable {P : Program} {w : World} {K : PySem.W.Frag} {mg : Glob} {base : Heap}
theorem vrepl_get {L : List Addr} {F : Hp} : ∀ {ds : List D} {vs : List V} {i : Nat} {d : D}, VRepL K mg L F ds vs → ds[i]? = some d → ∃ v, vs[i]? = some v ∧ VRep K mg L F d v := VRepL.get
theorem Rl.start {F H : Hp} {L : List Addr} {st : Store} {ds : List D} {vs : List V} {N : List Str} {nl : Nat} (o : Sto K mg F L H st) (kv : VRepL K mg L F ds vs) (hl : nl = N.length) :
    Rl K mg ⟨F, L, H, none⟩ F L (start N vs) H (ds.map Sl.val ++ List.replicate (nl - ds.length) Sl.un) st := by
  have e := kv.length
  have look : ∀ (i : Nat) (x : Sl), (ds.map Sl.val ++ List.replicate (nl - ds.length) Sl.un)[i]? = some x → (∃ d, x = .val d ∧ ds[i]? = some d) ∨ x = .un := fun i x h => by
    by_cases hi : i < ds.length
    · rw [List.getElem?_append_left (by rw [List.length_map]; exact hi), List.getElem?_map, List.getElem?_eq_getElem hi] at h
      cases h
      exact .inl ⟨ds[i], rfl, List.getElem?_eq_getElem hi⟩
    · rw [List.getElem?_append_right (by rw [List.length_map]; omega)] at h
      exact .inr (List.eq_of_mem_replicate (List.mem_of_getElem? h))
  refine ⟨o, Stp.refl, fun i d h => ?_, fun i d h => ?_, fun i j d e a h => ?_, fun i c fs h => ?_, ?_⟩
  · rcases look i _ h with ⟨x, z, hx⟩ | z
    · cases z
      obtain ⟨v, h1, h2⟩ := kv.get hx
      refine ⟨v, ?_, h2⟩
      unfold L2.start
      have hi := (List.getElem?_eq_some_iff.mp h1).1
      rw [List.getElem?_append_left (by rw [List.length_map]; exact hi), List.getElem?_map, h1] <;> rfl
    · cases z
  · rcases look i _ h with ⟨x, z, hx⟩ | z <;> cases z
  · rcases look i _ h with ⟨x, z, hx⟩ | z <;> cases z
  · rcases look i _ h with ⟨x, z, hx⟩ | z <;> cases z
  · unfold L2.start
    rw [List.length_append, List.length_append, List.length_map, List.length_map, List.length_replicate, List.length_replicate, e, hl]
/-- a body's outcome is the call's -/
theorem fin_go {F H : Hp} {L : List Addr} {st : Store} {Q : VK} {E : XK} {d : D} {st' : Store} {F' H' : Hp} {L' : List Addr} {σ' : St} {ρ' : REnv} {v : V} (o : Sto K mg F L H st) (rl : Rl K mg ⟨F, L, H, none⟩ F' L' σ' H' ρ' st') (kv : VRep K mg L' F' d v)
    (q : Post K mg (fun c d _ H' => E c d H') [] F L H (finD st.length d st') fun F' L' H' _ d => ∀ v, VRep K mg L' F' d v → Q v H') : Q v H' := by
  obtain ⟨M, e⟩ := rl.stp.pre
  have e : L' = L ++ M := e
  subst e
  have s1 : Stp F L H F' L H' := Stp.take rl.stp
  have o1 : Sto K mg F' L H' (st'.take st.length) := by rw [← o.len]; exact rl.sto.take
  have data : Rep K mg F' d v → Post K mg (fun c d _ H' => E c d H') [] F L H (.ok d (st'.take st.length)) (fun F' L' H' _ d => ∀ v, VRep K mg L' F' d v → Q v H') → Q v H' := fun r q => q F' L H' s1 o1 v (.inr r)
  rcases kv with ⟨k, a, rfl, h1, rfl⟩ | r
  · unfold finD at q
    dsimp only at q
    split at q
    · rename_i hk
      rw [← o.len] at hk
      rw [List.getElem?_append_left hk] at h1
      exact q F' L H' s1 o1 _ (.inl ⟨k, a, rfl, h1, rfl⟩)
    · rename_i hk
      split at q
      · rename_i e he
        obtain ⟨nF, hs⟩ := rl.sto.at_ k a e h1 he
        obtain ⟨u, hu⟩ := hs.there
        have hk' : L.length ≤ k := by rw [o.len]; omega
        have nL : a ∉ L := fun z => by
          obtain ⟨m, hm, e⟩ := List.getElem_of_mem z
          have h2 : (L ++ M)[m]? = some a := by rw [List.getElem?_append_left hm, List.getElem?_eq_getElem hm, e]
          obtain ⟨l1, e1⟩ := List.getElem?_eq_some_iff.mp h1
          obtain ⟨l2, e2⟩ := List.getElem?_eq_some_iff.mp h2
          have := (List.getElem_inj rl.sto.nd).mp (e1.trans e2.symm)
          omega
        have nH : H a = none := by
          cases z : H a with
          | none => rfl
          | some w =>
            have := (rl.stp.kp a w z nL).2.2
            exact absurd (List.mem_of_getElem? h1) this
        exact q _ L H' (s1.freeze nH nF) (o1.freeze hu nL nF) _ (.inr (hs.still hu nF))
      · exact q.elim
  · cases d with
    | loc k => exact r.elim
    | _ => exact data r q
theorem callD_ok {np nl : Nat} {X : Cx} {body : List Stmt} {m : SDen} {vs : List V} {H : Hp} {Q : VK} {E : XK} {N : List Str} (hl : nl = N.length) (h : spG K mg (callD np nl m) vs H Q E)
    (hb : ∀ Γ, Γ.x = none → PSs X body (tsG K mg Γ (fun c d _ H' => E c d H') m)) : ∃ t, PSs X body t ∧ t { nx := fun _ H' => Q .non H', rt := Q } (start N vs) H := by
  obtain ⟨F, L, ds, st, o, kv, q⟩ := h
  refine ⟨_, hb ⟨F, L, H, none⟩ rfl, ?_⟩
  unfold callD at q
  split at q
  · rename_i hn
    refine ⟨F, L, _, st, Rl.start (nl := nl) o kv hl, ?_⟩
    rw [hn]
    cases hm : m (ds.map Sl.val ++ List.replicate (nl - np) Sl.un) st with
    | nx ρ' st' => rw [hm] at q; exact fun F' L' σ' H' rl => fin_go (d := .non) (v := .non) o rl (.inr rfl) q
    | rt d st' => rw [hm] at q; exact fun F' L' σ' H' ρ v rl kv => fin_go o rl kv q
    | exc c fs ρ' st' =>
      rw [hm] at q
      intro F' L' σ' H' cls dd rl ex
      obtain ⟨M, e⟩ := rl.stp.pre
      have e : L' = L ++ M := e
      subst e
      exact q F' L H' cls dd (Stp.take rl.stp) (by rw [← o.len]; exact rl.sto.take) ex
    | bk ρ' st' => rw [hm] at q; exact q.elim
    | ct ρ' st' => rw [hm] at q; exact q.elim
    | bad => rw [hm] at q; exact q.elim
  · exact q.elim
theorem callD_len {np nl : Nat} {m : SDen} {vs : List V} {H : Hp} {Q : VK} {E : XK} (h : spG K mg (callD np nl m) vs H Q E) : vs.length = np := by
  obtain ⟨F, L, ds, st, o, kv, q⟩ := h
  unfold callD at q
  split at q
  · rename_i hn; rw [← kv.length]; exact hn
  · exact q.elim
/-- THE RULE of a def -/
theorem Fun.den {x qual : Str} {st : Stmt} {f : Addr} {fd : FuncData} {N ps : List Str} {k np nl : Nat} {m : SDen} (F : Fun K x qual st f fd) (S : FnScope N ps (defScope st)) (hnp : np = ps.length := by rfl) (hnl : nl = N.length := by rfl)
    (hbody : ∀ (cdv : Value) (A : Around) (outer : List Env) (s : Shared) (H : Hp) (E : XK), Room k (A.deeper (envOfC qual (defScope st) s.heap.objs.size f cdv)) →
      ∀ Γ, Γ.x = none → PSs (cxOf (L2.CX P w) P w K mg base N qual (defScope st) f cdv A outer s H E) (defBody st) (tsG K mg Γ (fun c d _ H' => E c d H') m)) :
    FnOk P w K mg base (L2.CX P w) (k + 1) f fd ps (spG K mg (callD np nl m)) :=
  F.okX S (fun vs H Q E h => by rw [callD_len h, hnp]) fun cdv A outer s H vs Q E hr h => callD_ok hnl h (hbody cdv A outer s H E hr)
/-- what leaves the body is the call's -/
theorem takes_body {N : List Str} {qual : Str} {sc : Scope} {f : Addr} {cdv : Value} {A : Around} {outer : List Env} {s : Shared} {H : Hp} {E : XK} :
    Takes (cxOf (L2.CX P w) P w K mg base N qual sc f cdv A outer s H E) (fun c d _ H' => E c d H') := takes_of rfl rfl rfl rfl
theorem own_body {N : List Str} {qual : Str} {sc : Scope} {f : Addr} {cdv : Value} {A : Around} {outer : List Env} {s : Shared} {H : Hp} {E : XK} :
    PassesOwn (model P w) (cxOf (L2.CX P w) P w K mg base N qual sc f cdv A outer s H E).A (cxOf (L2.CX P w) P w K mg base N qual sc f cdv A outer s H E).env (cxOf (L2.CX P w) P w K mg base N qual sc f cdv A outer s H E).xe := passes_of rfl
end
end Gh
/-! Gh8: operations on data, and the rules that have them. -/
namespace Gh
open L2 PyProof.Rows PySem.Spec PySem

/-! ### what is read -/
section
variable {K : PySem.W.Frag} {mg : Glob} {Γ : Ent} {F H H0 : Hp} {L : List Addr} {σ : St} {ρ : REnv} {st : Store} {v : V}
theorem kR.val {d : D} (rl : Rl K mg Γ F L σ H ρ st) (kv : kR K mg σ H0 ρ F L H d v) (n : ∀ F H a, Has K mg F H a d → False) : VRep K mg L F d v := by
  rcases kv with kv | ⟨i, h1, _⟩
  · exact kv
  · obtain ⟨a, _, _, _, _, hs⟩ := rl.so i _ h1
    exact (n _ _ _ hs).elim
theorem kR.int {i : Int} (rl : Rl K mg Γ F L σ H ρ st) (kv : kR K mg σ H0 ρ F L H (.int i) v) : v = .int i := (kv.val rl fun _ _ _ h => h).int
theorem kR.bl {b : Bool} (rl : Rl K mg Γ F L σ H ρ st) (kv : kR K mg σ H0 ρ F L H (.bl b) v) : v = .bl b := (kv.val rl fun _ _ _ h => h).bl
theorem kR.str {s : Str} (rl : Rl K mg Γ F L σ H ρ st) (kv : kR K mg σ H0 ρ F L H (.str s) v) : v = .str s := (kv.val rl fun _ _ _ h => h).str
theorem kR.non (rl : Rl K mg Γ F L σ H ρ st) (kv : kR K mg σ H0 ρ F L H .non v) : v = .non := (kv.val rl fun _ _ _ h => h).non
theorem kR.lst {ds : List D} (rl : Rl K mg Γ F L σ H ρ st) (kv : kR K mg σ H0 ρ F L H (.lst ds) v) : ∃ a vs, v = .ref a ∧ H a = some (.lst vs) ∧ RepL K mg F ds vs := by
  rcases kv with kv | ⟨i, h1, h2⟩
  · rcases kv with ⟨_, _, e, _⟩ | ⟨a, vs, rfl, h1, h2⟩
    · cases e
    · exact ⟨a, vs, rfl, rl.sto.ex.lst h1, h2⟩
  · obtain ⟨a, g1, _, _, _, vs, g2, g3⟩ := rl.so i _ h1
    rw [g1] at h2; cases h2
    exact ⟨a, vs, rfl, g2, g3⟩
theorem kR.tup {ds : List D} (rl : Rl K mg Γ F L σ H ρ st) (kv : kR K mg σ H0 ρ F L H (.tup ds) v) : ∃ a vs, v = .ref a ∧ SqT K H a vs ∧ RepL K mg F ds vs ∧ SqT K F a vs := by
  rcases kv.val rl fun _ _ _ h => h with ⟨_, _, e, _⟩ | ⟨a, vs, rfl, h1, h2⟩
  · cases e
  · exact ⟨a, vs, rfl, rl.sto.ex.t h1, h2, h1⟩
theorem kR.scr {ds : List D} (rl : Rl K mg Γ F L σ H ρ st) (kv : kR K mg σ H0 ρ F L H (.scr ds) v) : ∃ a vs, v = .ref a ∧ SqL K H a vs ∧ RepL K mg F ds vs := by
  rcases kv.val rl fun _ _ _ h => h with ⟨_, _, e, _⟩ | ⟨a, vs, rfl, h1, h2⟩
  · cases e
  · exact ⟨a, vs, rfl, rl.sto.ex.l h1, h2⟩
theorem kR.dct {kvs : List (Key × D)} (rl : Rl K mg Γ F L σ H ρ st) (kv : kR K mg σ H0 ρ F L H (.dct kvs) v) : ∃ a vs, v = .ref a ∧ Rd H a (.dK vs) ∧ RepK K mg F kvs vs := by
  rcases kv with kv | ⟨i, h1, h2⟩
  · rcases kv with ⟨_, _, e, _⟩ | ⟨a, vs, rfl, h1, h2⟩
    · cases e
    · exact ⟨a, vs, rfl, rl.sto.ex.rd h1, h2⟩
  · obtain ⟨a, g1, _, _, _, vs, g2, g3⟩ := rl.so i _ h1
    rw [g1] at h2; cases h2
    exact ⟨a, vs, rfl, .inl g2, g3⟩
end
def KRL (K : PySem.W.Frag) (mg : Glob) (σ : St) (ρ : REnv) (F : Hp) (L : List Addr) (H : Hp) : List D → List V → Prop
  | [], vs => vs = []
  | d :: ds, vs => ∃ v r, vs = v :: r ∧ kR K mg σ H ρ F L H d v ∧ KRL K mg σ ρ F L H ds r
theorem KRL.step {K : PySem.W.Frag} {mg : Glob} {σ : St} {ρ : REnv} {F F' H H1 H' : Hp} {L L' : List Addr} (s : Stp F L H F' L' H') : ∀ {ds : List D} {vs : List V}, KRL K mg σ ρ F L H1 ds vs → KRL K mg σ ρ F' L' H' ds vs
  | [], vs, h => h
  | d :: ds, vs, h => by
    obtain ⟨v, r, h1, h2, h3⟩ := h
    exact ⟨v, r, h1, kR.step h2 s, KRL.step s h3⟩
def taR (K : PySem.W.Frag) (mg : Glob) (Γ : Ent) (W : WX) (m : ADen) : TA := fun σ H Q => ∃ F L ρ st, Rl K mg Γ F L σ H ρ st ∧
  Post K mg W σ F L H (m ρ st) fun F' L' H' _ ds => ∀ vs, KRL K mg σ ρ F' L' H' ds vs → Q vs H'
/-- a call's own semantics -/
def SemN (k : Kd) (K : PySem.W.Frag) (mg : Glob) (g : OpN) (r : List V → Hp → VK → Prop) : Prop :=
  ∀ (Γ : Ent) (W : WX) (F : Hp) (L : List Addr) (σ : St) (H : Hp) (ρ : REnv) (st : Store) (ds : List D) (vs : List V) (Q : VK), Rl K mg Γ F L σ H ρ st → KRL K mg σ ρ F L H ds vs →
    Post K mg W σ F L H (g ds st) (fun F' L' H' _ d => ∀ w, k K mg σ H ρ F' L' H' d w → Q w H') → r vs H Q
section
variable {X : Cx} {K : PySem.W.Frag} {mg : Glob} {Γ : Ent} {W : WX} {e a b : Expr} {es : List Expr} {m ma mb : EDen} {ms : ADen} {pos p : Pos} {k : Kd}
theorem r_nil : PA X [] (taR K mg Γ W aNil) := pa_imp pa_nil fun σ H Q ⟨F, L, ρ, st, rl, q⟩ => q.here rl.sto [] rfl
theorem r_cons (ha : PE X e (teR K mg Γ W m)) (hr : PA X es (taR K mg Γ W ms)) (hs : starEach (e :: es) X.env = (false, eval e X.env) :: starEach es X.env := by rfl) : PA X (e :: es) (taR K mg Γ W (aCons m ms)) := by
  refine pa_imp (pa_cons ha hr hs) fun σ H Q ⟨F, L, ρ, st, rl, q⟩ => ⟨F, L, ρ, st, rl, q.bind.imp fun F1 L1 H1 st1 d s o q1 v kv => ?_⟩
  refine ⟨F1, L1, ρ, st1, rl.step s o, q1.bind.imp fun F2 L2 H2 st2 ds s2 o2 q2 vs kvs => ?_⟩
  exact q2.here o2 (v :: vs) ⟨v, vs, rfl, kR.step kv s2, kvs⟩
theorem cb_of {r : List V → Hp → VK → Prop} {g : OpN} (kl : KLate k) (hs : SemN k K mg g r) : ∀ σ H Q, teG k K mg Γ W (eN g ms) σ H Q → tCB r (taR K mg Γ W ms) σ H Q := by
  intro σ H Q ⟨F, L, ρ, st, rl, p⟩
  refine ⟨F, L, ρ, st, rl, p.bind.imp fun F1 L1 H1 st1 ds s1 o1 p1 vs kvs => ?_⟩
  exact hs Γ W F1 L1 σ H1 ρ st1 ds vs Q (rl.step s1 o1) kvs (p1.imp fun F3 L3 H3 st3 d s3 o3 q w kw => q w (kl (s1.more o1) kw))
theorem g_callB {id : String} {x : Str} {r : List V → Hp → VK → Prop} {g : OpN} (hc : CallR X (.builtin id) r) (kl : KLate k) (hs : SemN k K mg g r) (hm : X.mg x = none) (hv : bootBuiltins x = some (.builtin id)) (ha : PA X (e :: es) (taR K mg Γ W ms)) (hg : Gl X x := by rfl)
    (hn : x ≠ "__name__" := by decide) (hdb : (x == ("__debug__" : Str)) = false := by decide) (he : starEach (e :: es) X.env = (false, eval e X.env) :: starEach es X.env := by rfl) (hpl : (backTo pos (starEach es X.env)).any (·.1) = false := by rfl) :
    PE X (.Call (.Name x p) (e :: es) [] pos) (teG k K mg Γ W (eN g ms)) := pe_imp (pe_callB hc hg hm hv ha hn hdb he hpl) (cb_of kl hs)
theorem g_callTy {T : String} {x : Str} {r : List V → Hp → VK → Prop} {g : OpN} (hc : CallR X (.type T) r) (kl : KLate k) (hs : SemN k K mg g r) (hm : X.mg x = none) (hv : bootBuiltins x = some (.type T)) (ha : PA X (e :: es) (taR K mg Γ W ms)) (hg : Gl X x := by rfl)
    (hn : x ≠ "__name__" := by decide) (hdb : (x == ("__debug__" : Str)) = false := by decide) (he : starEach (e :: es) X.env = (false, eval e X.env) :: starEach es X.env := by rfl) (hpl : (backTo pos (starEach es X.env)).any (·.1) = false := by rfl) :
    PE X (.Call (.Name x p) (e :: es) [] pos) (teG k K mg Γ W (eN g ms)) := pe_imp (pe_callTy hc hg hm hv ha hn hdb he hpl) (cb_of kl hs)
theorem pe_or' {t t' : TE} (h : PE X e t) (h' : PE X e t') : PE X e (fun σ H Q => t σ H Q ∨ t' σ H Q) := ⟨fun pins s σ H Q I q => q.elim (h.run pins s σ H Q I) (h'.run pins s σ H Q I)⟩
end

/-! ### numbers -/
section
variable {X : Cx} {K : PySem.W.Frag} {mg : Glob} {k : Kd}
def gI (C : Int → Int → Bool) (f : Int → Int → D) : Op2 := fun x y st => match x, y with
  | .int i, .int j => if C i j = true then .ok (f i j) st else .bad
  | _, _ => .bad
theorem sem_I {C : Int → Int → Bool} {C' : Int → Int → Prop} {f : Int → Int → D} {f' : Int → Int → V} (hc : ∀ i j, C i j = true → C' i j) (hf : ∀ F i j, Rep K mg F (f i j) (f' i j)) : Sem2 kV K mg (gI C f) (rI C' f') := by
  intro Γ W F L σ H ρ st x y v u Q rl kx ky q
  unfold gI at q
  split at q
  · rename_i i j
    split at q
    · rename_i h
      exact ⟨i, j, kx.int rl, ky.int rl, hc i j h, q.here rl.sto _ (.inr (hf F i j))⟩
    · exact q.elim
  · exact q.elim
theorem sem_I0 {f : Int → Int → D} {f' : Int → Int → V} (hf : ∀ F i j, Rep K mg F (f i j) (f' i j)) : Sem2 kV K mg (gI (fun _ _ => true) f) (rI0 f') := by
  intro Γ W F L σ H ρ st x y v u Q rl kx ky q
  unfold gI at q
  split at q
  · rename_i i j
    rw [if_pos rfl] at q
    exact ⟨i, j, kx.int rl, ky.int rl, q.here rl.sto _ (.inr (hf F i j))⟩
  · exact q.elim
def gSub : Op2 := gI (fun _ _ => true) fun i j => .int (i - j)
def small64 (i : Int) : Bool := decide (-(2 ^ 64) < i ∧ i < 2 ^ 64)
def gMul : Op2 := gI (fun i j => small64 i || small64 j) fun i j => .int (i * j)
def gFdiv : Op2 := gI (fun _ j => decide (0 < j ∧ j < 1073741824)) fun i j => .int (i / j)
def gMod : Op2 := gI (fun _ j => decide (0 < j)) fun i j => .int (i % j)
def gPow : Op2 := gI (fun i j => decide (0 ≤ j ∧ j ≤ 1000000 ∧ i.natAbs < 2 ^ 64)) fun i j => .int (i ^ j.toNat)
theorem sem_sub : Sem2 kV K mg gSub (rI0 fun i j => .int (i - j)) := sem_I0 fun _ _ _ => rfl
theorem sem_mul : Sem2 kV K mg gMul (rI CMul fun i j => .int (i * j)) := sem_I (fun i j h => by
  unfold small64 at h
  rw [Bool.or_eq_true, decide_eq_true_eq, decide_eq_true_eq] at h
  exact h) fun _ _ _ => rfl
theorem sem_fdiv : Sem2 kV K mg gFdiv (rI CDiv fun i j => .int (i / j)) := sem_I (fun i j h => of_decide_eq_true (p := 0 < j ∧ j < 1073741824) h) fun _ _ _ => rfl
theorem sem_mod : Sem2 kV K mg gMod (rI (fun _ j => 0 < j) fun i j => .int (i % j)) := sem_I (fun i j h => of_decide_eq_true (p := 0 < j) h) fun _ _ _ => rfl
theorem sem_pow : Sem2 kV K mg gPow (rI CPow fun i j => .int (i ^ j.toNat)) := sem_I (fun i j h => of_decide_eq_true (p := 0 ≤ j ∧ j ≤ 1000000 ∧ i.natAbs < 2 ^ 64) h) fun _ _ _ => rfl
def gNeg : Op1 := fun x st => match x with
  | .int i => .ok (.int (-i)) st
  | _ => .bad
theorem sem_neg : Sem1 kV K mg gNeg (rU fun i => .int (-i)) := by
  intro Γ W F L σ H ρ st x v Q rl kx q
  unfold gNeg at q
  split at q
  · rename_i i
    exact ⟨i, kx.int rl, q.here rl.sto _ (.inr rfl)⟩
  · exact q.elim
def gLt : Op2 := gI (fun _ _ => true) fun i j => .bl (decide (i < j))
def gLe : Op2 := gI (fun _ _ => true) fun i j => .bl (decide (i ≤ j))
def gGt : Op2 := gI (fun _ _ => true) fun i j => .bl (decide (j < i))
def gGe : Op2 := gI (fun _ _ => true) fun i j => .bl (decide (j ≤ i))
theorem sem_lt : Sem2 kV K mg gLt (rI0 fun i j => .bl (decide (i < j))) := sem_I0 fun _ _ _ => rfl
theorem sem_le : Sem2 kV K mg gLe (rI0 fun i j => .bl (decide (i ≤ j))) := sem_I0 fun _ _ _ => rfl
theorem sem_gt : Sem2 kV K mg gGt (rI0 fun i j => .bl (decide (j < i))) := sem_I0 fun _ _ _ => rfl
theorem sem_ge : Sem2 kV K mg gGe (rI0 fun i j => .bl (decide (j ≤ i))) := sem_I0 fun _ _ _ => rfl

/-! ### + -/
def gAdd : Op2 := fun x y st => match x, y with
  | .int i, .int j => .ok (.int (i + j)) st
  | .str a, .str b => if a.length + b.length ≤ sizeLine then .ok (.str (a ++ b)) st else .bad
  | .lst a, .lst b => if a.length + b.length < 100000 then .ok (.lst (a ++ b)) st else .bad
  | .tup a, .tup b => if a.length + b.length < 100000 then .ok (.tup (a ++ b)) st else .bad
  | _, _ => .bad
abbrev rAddU (K : PySem.W.Frag) : R2 := fun x y H Q => (rI0 fun i j => .int (i + j)) x y H Q ∨ (∃ i j, x = .str i ∧ y = .str j ∧ i.length + j.length ≤ sizeLine ∧ Q (.str (i ++ j)) H) ∨ rCat x y H Q ∨ rCatA K x y H Q
theorem op_addU : OpR X (binaryOp .Add) (rAddU X.K) := OpR.or op_add (OpR.or op_add_str (OpR.or op_cat op_catA))
theorem sem_add : Sem2 kV K mg gAdd (rAddU K) := by
  intro Γ W F L σ H ρ st x y v u Q rl kx ky q
  unfold gAdd at q
  split at q
  · rename_i i j
    exact .inl ⟨i, j, kx.int rl, ky.int rl, q.here rl.sto _ (.inr rfl)⟩
  · rename_i a b
    split at q
    · rename_i h
      exact .inr (.inl ⟨a, b, kx.str rl, ky.str rl, h, q.here rl.sto _ (.inr rfl)⟩)
    · exact q.elim
  · rename_i a b
    split at q
    · rename_i h
      obtain ⟨p, vs, rfl, h1, h2⟩ := kx.lst rl
      obtain ⟨r, us, rfl, g1, g2⟩ := ky.lst rl
      refine .inr (.inr (.inl ⟨p, r, vs, us, rfl, rfl, h1, g1, by rw [sizeLine_eq, ← h2.length, ← g2.length]; omega, fun z nz => ?_⟩))
      obtain ⟨s, o⟩ := rl.sto.lay (o := .lst (vs ++ us)) nz
      exact q _ _ _ s o _ (.inr ⟨z, _, rfl, upd_same, RepL.mono s.ex _ (h2.append g2)⟩)
    · exact q.elim
  · rename_i a b
    split at q
    · rename_i h
      obtain ⟨p, vs, rfl, h1, h2, h3⟩ := kx.tup rl
      obtain ⟨r, us, rfl, g1, g2, g3⟩ := ky.tup rl
      refine .inr (.inr (.inr ⟨p, r, vs, us, rfl, rfl, h1, g1, by rw [sizeLine_eq, ← h2.length, ← g2.length]; omega, fun e => ?_, fun e1 e2 => ?_, fun e1 e2 z nz => ?_⟩))
      · subst e
        have : a = [] := by
          have := h2.length
          cases a <;> simp_all
        subst this
        exact q.here rl.sto _ (.inr ⟨r, us, rfl, g3, g2⟩)
      · subst e2
        have : b = [] := by
          have := g2.length
          cases b <;> simp_all
        subst this
        rw [List.append_nil] at q
        exact q.here rl.sto _ (.inr ⟨p, vs, rfl, h3, h2⟩)
      · obtain ⟨s, o⟩ := rl.sto.lay (o := .tup (vs ++ us)) nz
        exact q _ _ _ s o _ (.inr ⟨z, _, rfl, .inl (.inl upd_same), RepL.mono s.ex _ (h2.append g2)⟩)
    · exact q.elim
  · exact q.elim
/-- a + b of lists, a new one -/
def gCat : Op2 := fun x y st => match x, y with
  | .lst a, .lst b => if a.length + b.length < 100000 then .ok (.lst (a ++ b)) st else .bad
  | _, _ => .bad
theorem sem_cat : Sem2 kO K mg gCat rCat := by
  intro Γ W F L σ H ρ st x y v u Q rl kx ky q
  unfold gCat at q
  split at q
  · rename_i a b
    split at q
    · rename_i h
      obtain ⟨p, vs, rfl, h1, h2⟩ := kx.lst rl
      obtain ⟨r, us, rfl, g1, g2⟩ := ky.lst rl
      exact ⟨p, r, vs, us, rfl, rfl, h1, g1, by rw [sizeLine_eq, ← h2.length, ← g2.length]; omega, fun z nz => q _ _ _ (Stp.fresh nz) (rl.sto.fresh nz) _ ⟨z, rfl, nz, rl.newF nz, rl.newL nz, _, upd_same, h2.append g2⟩⟩
    · exact q.elim
  · exact q.elim
end

/-! ### ==, !=, is None -/
mutual
def D.eqv : D → D → Bool
  | .non, .non => true
  | .bl a, .bl b => a == b
  | .bl a, .int j => (if a then 1 else 0) == j
  | .int i, .bl b => i == (if b then 1 else 0)
  | .int i, .int j => i == j
  | .str x, .str y => x == y
  | .lst xs, .lst ys => eqvL xs ys
  | .lst xs, .scr ys => eqvL xs ys
  | .scr xs, .lst ys => eqvL xs ys
  | .scr xs, .scr ys => eqvL xs ys
  | .tup xs, .tup ys => eqvL xs ys
  | _, _ => false
def eqvL : List D → List D → Bool
  | [], [] => true
  | x :: xs, y :: ys => D.eqv x y && eqvL xs ys
  | _, _ => false
end
/-- plain data, n deep at most -/
def okD : Nat → D → Bool
  | _, .non => true
  | _, .bl _ => true
  | _, .int _ => true
  | _, .str s => PyData.strOk s
  | n + 1, .lst ds => ds.all (okD n)
  | n + 1, .scr ds => ds.all (okD n)
  | n + 1, .tup ds => ds.all (okD n)
  | _, _ => false
mutual
def toPy : D → PyData
  | .non => .none
  | .bl b => .bool b
  | .int i => .int i
  | .str s => .str s
  | .lst ds => .list (toPyL ds)
  | .scr ds => .list (toPyL ds)
  | .tup ds => .tuple (toPyL ds)
  | _ => .none
def toPyL : List D → List PyData
  | [] => []
  | d :: ds => toPy d :: toPyL ds
end
theorem toPy_shape : ∀ (n : Nat) (d : D), okD n d = true → (toPy d).canLay0 = true ∧ (toPy d).depth ≤ n := by
  have lists : ∀ (n : Nat), (∀ d, okD n d = true → (toPy d).canLay0 = true ∧ (toPy d).depth ≤ n) → ∀ ds : List D, ds.all (okD n) = true → PyData.canLayAll0 (toPyL ds) = true ∧ PyData.depthAll (toPyL ds) ≤ n := by
    intro n ih ds
    induction ds with
    | nil => intro _; exact ⟨by simp [toPyL, PyData.canLayAll0], by simp [toPyL, PyData.depthAll]⟩
    | cons d ds ih2 =>
      intro h
      rw [List.all_cons, Bool.and_eq_true] at h
      obtain ⟨a1, a2⟩ := ih d h.1
      obtain ⟨b1, b2⟩ := ih2 h.2
      refine ⟨by simp [toPyL, PyData.canLayAll0, a1, b1], ?_⟩
      simp only [toPyL, PyData.depthAll]
      omega
  intro n
  induction n with
  | zero =>
    intro d h
    cases d with
    | str s => exact ⟨by simpa [toPy, PyData.canLay0, okD] using h, by simp [toPy, PyData.depth]⟩
    | non => exact ⟨by simp [toPy, PyData.canLay0], by simp [toPy, PyData.depth]⟩
    | bl b => exact ⟨by simp [toPy, PyData.canLay0], by simp [toPy, PyData.depth]⟩
    | int b => exact ⟨by simp [toPy, PyData.canLay0], by simp [toPy, PyData.depth]⟩
    | _ => simp [okD] at h
  | succ n ih =>
    intro d h
    cases d with
    | str s => exact ⟨by simpa [toPy, PyData.canLay0, okD] using h, by simp [toPy, PyData.depth]⟩
    | non => exact ⟨by simp [toPy, PyData.canLay0], by simp [toPy, PyData.depth]⟩
    | bl b => exact ⟨by simp [toPy, PyData.canLay0], by simp [toPy, PyData.depth]⟩
    | int b => exact ⟨by simp [toPy, PyData.canLay0], by simp [toPy, PyData.depth]⟩
    | lst ds =>
      obtain ⟨a, b⟩ := lists n ih ds (by simpa [okD] using h)
      exact ⟨by simpa [toPy, PyData.canLay0] using a, by simp only [toPy, PyData.depth]; omega⟩
    | scr ds =>
      obtain ⟨a, b⟩ := lists n ih ds (by simpa [okD] using h)
      exact ⟨by simpa [toPy, PyData.canLay0] using a, by simp only [toPy, PyData.depth]; omega⟩
    | tup ds =>
      obtain ⟨a, b⟩ := lists n ih ds (by simpa [okD] using h)
      exact ⟨by simpa [toPy, PyData.canLay0] using a, by simp only [toPy, PyData.depth]; omega⟩
    | _ => simp [okD] at h
theorem eqv_py : ∀ (n m : Nat) (x y : D), okD n x = true → okD m y = true → PyData.eqv (toPy x) (toPy y) = D.eqv x y := by
  have lists : ∀ (n m : Nat), (∀ x y, okD n x = true → okD m y = true → PyData.eqv (toPy x) (toPy y) = D.eqv x y) → ∀ xs ys : List D, xs.all (okD n) = true → ys.all (okD m) = true → PyData.eqvAll (toPyL xs) (toPyL ys) = eqvL xs ys := by
    intro n m ih xs
    induction xs with
    | nil => intro ys _ _; cases ys <;> simp [toPyL, PyData.eqvAll, eqvL]
    | cons x xs ih2 =>
      intro ys h1 h2
      cases ys with
      | nil => simp [toPyL, PyData.eqvAll, eqvL]
      | cons y ys =>
        rw [List.all_cons, Bool.and_eq_true] at h1 h2
        simp only [toPyL, PyData.eqvAll, eqvL]
        rw [ih x y h1.1 h2.1, ih2 ys h1.2 h2.2]
  intro n
  induction n with
  | zero =>
    intro m x y h1 h2
    cases m <;> cases x <;> cases y <;> simp_all [okD, toPy, PyData.eqv, D.eqv]
  | succ n ih =>
    intro m x y h1 h2
    cases m with
    | zero => cases x <;> cases y <;> simp_all [okD, toPy, PyData.eqv, D.eqv]
    | succ m =>
      have L := lists n m (fun x y a b => ih m x y a b)
      cases x with
      | lst xs => cases y with
        | lst ys => simp only [toPy, PyData.eqv, D.eqv]; exact L xs ys (by simpa [okD] using h1) (by simpa [okD] using h2)
        | scr ys => simp only [toPy, PyData.eqv, D.eqv]; exact L xs ys (by simpa [okD] using h1) (by simpa [okD] using h2)
        | _ => simp_all [okD, toPy, PyData.eqv, D.eqv]
      | scr xs => cases y with
        | lst ys => simp only [toPy, PyData.eqv, D.eqv]; exact L xs ys (by simpa [okD] using h1) (by simpa [okD] using h2)
        | scr ys => simp only [toPy, PyData.eqv, D.eqv]; exact L xs ys (by simpa [okD] using h1) (by simpa [okD] using h2)
        | _ => simp_all [okD, toPy, PyData.eqv, D.eqv]
      | tup xs => cases y with
        | tup ys => simp only [toPy, PyData.eqv, D.eqv]; exact L xs ys (by simpa [okD] using h1) (by simpa [okD] using h2)
        | _ => simp_all [okD, toPy, PyData.eqv, D.eqv]
      | _ => cases y <;> simp_all [okD, toPy, PyData.eqv, D.eqv]
theorem dp_all {K : PySem.W.Frag} {mg : Glob} {F H : Hp} (ex : ExF F H) : ∀ (n : Nat), (∀ d v, okD n d = true → Rep K mg F d v → Dp K H v (toPy d)) → ∀ (ds : List D) (vs : List V), ds.all (okD n) = true → RepL K mg F ds vs → DpAll K H vs (toPyL ds)
  | n, ih, [], vs, _, r => by
    cases (show vs = [] from r)
    exact .nil
  | n, ih, d :: ds, vs, h, r => by
    obtain ⟨v, r', rfl, r1, r2⟩ := r
    rw [List.all_cons, Bool.and_eq_true] at h
    exact .cons (ih d v h.1 r1) (dp_all ex n ih ds r' h.2 r2)
theorem dp_of {K : PySem.W.Frag} {mg : Glob} {F H : Hp} (ex : ExF F H) : ∀ (n : Nat) (d : D) (v : V), okD n d = true → Rep K mg F d v → Dp K H v (toPy d)
  | n, .non, v, _, r => by cases (show v = .non from r); exact .non
  | n, .bl b, v, _, r => by cases (show v = .bl b from r); exact .bl b
  | n, .int i, v, _, r => by cases (show v = .int i from r); exact .int i
  | n, .str s, v, _, r => by cases (show v = .str s from r); exact .str s
  | 0, .lst ds, v, h, _ => by simp [okD] at h
  | 0, .scr ds, v, h, _ => by simp [okD] at h
  | 0, .tup ds, v, h, _ => by simp [okD] at h
  | n + 1, .lst ds, v, h, r => by
    obtain ⟨a, vs, rfl, h1, h2⟩ := r
    exact .lst (.inl (.inl (ex.lst h1))) (dp_all ex n (dp_of ex n) ds vs (by simpa [okD] using h) h2)
  | n + 1, .scr ds, v, h, r => by
    obtain ⟨a, vs, rfl, h1, h2⟩ := r
    exact .lst (ex.l h1) (dp_all ex n (dp_of ex n) ds vs (by simpa [okD] using h) h2)
  | n + 1, .tup ds, v, h, r => by
    obtain ⟨a, vs, rfl, h1, h2⟩ := r
    exact .tup (ex.t h1) (dp_all ex n (dp_of ex n) ds vs (by simpa [okD] using h) h2)
  | n, .dct ds, v, h, _ => by cases n <;> simp [okD] at h
  | n, .ins c fs, v, h, _ => by cases n <;> simp [okD] at h
  | n, .loc k, v, h, _ => by cases n <;> simp [okD] at h
section
variable {X : Cx} {K : PySem.W.Frag} {mg : Glob} {k : Kd}
theorem kR.dp {Γ : Ent} {F H H0 : Hp} {L : List Addr} {σ : St} {ρ : REnv} {st : Store} {d : D} {v : V} {n : Nat} (rl : Rl K mg Γ F L σ H ρ st) (kv : kR K mg σ H0 ρ F L H d v) (h : okD n d = true) : Dp K H v (toPy d) := by
  rcases kv with kv | ⟨i, h1, h2⟩
  · rcases kv with ⟨m, a, rfl, _⟩ | r
    · cases n <;> simp [okD] at h
    · exact dp_of rl.sto.ex n d v h r
  · obtain ⟨a, g1, _, _, _, hs⟩ := rl.so i _ h1
    rw [g1] at h2; cases h2
    cases d with
    | lst ds =>
      obtain ⟨vs, g2, g3⟩ := hs
      cases n with
      | zero => simp [okD] at h
      | succ n => exact .lst (.inl (.inl g2)) (dp_all rl.sto.ex n (dp_of rl.sto.ex n) ds vs (by simpa [okD] using h) g3)
    | dct ds => cases n <;> simp [okD] at h
    | ins c fs => cases n <;> simp [okD] at h
    | _ => exact hs.elim
/-- the scalars that == asks nothing more of -/
def scalD : D → D → Option Bool
  | .non, .non => some true | .non, .int _ => some false | .int _, .non => some false | .non, .bl _ => some false | .bl _, .non => some false | .non, .str _ => some false | .str _, .non => some false
  | .int i, .int j => some (decide (i = j)) | .bl i, .bl j => some (decide (i = j)) | .str i, .str j => some (decide (i = j))
  | .int _, .str _ => some false | .str _, .int _ => some false | .bl _, .str _ => some false | .str _, .bl _ => some false
  | _, _ => none
def eqD (x y : D) : Option Bool := match scalD x y with
  | some b => some b
  | none => if okD 20 x = true ∧ okD 20 y = true then some (D.eqv x y) else none
def gEq : Op2 := fun x y st => match eqD x y with
  | some b => .ok (.bl b) st
  | none => .bad
def gNe : Op2 := fun x y st => match eqD x y with
  | some b => .ok (.bl (!b)) st
  | none => .bad
theorem scal_of {Γ : Ent} {F H H0 : Hp} {L : List Addr} {σ : St} {ρ : REnv} {st : Store} {x y : D} {v u : V} {b : Bool} (rl : Rl K mg Γ F L σ H ρ st) (kx : kR K mg σ H0 ρ F L H x v) (ky : kR K mg σ H0 ρ F L H y u) (h : scalD x y = some b) : scal v u = true ∧ b = decide (v = u) := by
  unfold scalD at h
  split at h <;> first | cases h | skip
  all_goals
    first | cases kx.non rl | cases kx.int rl | cases kx.bl rl | cases kx.str rl
    first | cases ky.non rl | cases ky.int rl | cases ky.bl rl | cases ky.str rl
    refine ⟨rfl, ?_⟩
    simp
theorem op_eqU (hu : X.A.units + 64 < cLine) : OpR X (compareOp .Eq) (fun x y H Q => rEq x y H Q ∨ rEqD X.K x y H Q) := OpR.or op_eq (op_eqD hu)
theorem op_neU (hu : X.A.units + 64 < cLine) : OpR X (compareOp .NotEq) (fun x y H Q => rNe x y H Q ∨ rNeD X.K x y H Q) := OpR.or op_ne (op_neD hu)
theorem sem_eq : Sem2 kV K mg gEq (fun x y H Q => rEq x y H Q ∨ rEqD K x y H Q) := by
  intro Γ W F L σ H ρ st x y v u Q rl kx ky q
  unfold gEq at q
  split at q
  · rename_i b e
    unfold eqD at e
    split at e
    · rename_i b' e'
      cases e
      obtain ⟨h1, rfl⟩ := scal_of rl kx ky e'
      exact .inl ⟨h1, q.here rl.sto _ (.inr rfl)⟩
    · split at e
      · rename_i h
        cases e
        obtain ⟨a1, a2⟩ := toPy_shape 20 x h.1
        obtain ⟨b1, b2⟩ := toPy_shape 20 y h.2
        refine .inr ⟨toPy x, toPy y, kx.dp rl h.1, ky.dp rl h.2, ?_, ?_, ?_⟩
        · unfold SeqAt.shaped; rw [a1]; simp; omega
        · unfold SeqAt.shaped; rw [b1]; simp; omega
        · rw [eqv_py 20 20 x y h.1 h.2]
          exact q.here rl.sto _ (.inr rfl)
      · cases e
  · exact q.elim
theorem sem_ne : Sem2 kV K mg gNe (fun x y H Q => rNe x y H Q ∨ rNeD K x y H Q) := by
  intro Γ W F L σ H ρ st x y v u Q rl kx ky q
  unfold gNe at q
  split at q
  · rename_i b e
    unfold eqD at e
    split at e
    · rename_i b' e'
      cases e
      obtain ⟨h1, rfl⟩ := scal_of rl kx ky e'
      exact .inl ⟨h1, q.here rl.sto _ (.inr rfl)⟩
    · split at e
      · rename_i h
        cases e
        obtain ⟨a1, a2⟩ := toPy_shape 20 x h.1
        obtain ⟨b1, b2⟩ := toPy_shape 20 y h.2
        refine .inr ⟨toPy x, toPy y, kx.dp rl h.1, ky.dp rl h.2, ?_, ?_, ?_⟩
        · unfold SeqAt.shaped; rw [a1]; simp; omega
        · unfold SeqAt.shaped; rw [b1]; simp; omega
        · rw [eqv_py 20 20 x y h.1 h.2]
          exact q.here rl.sto _ (.inr rfl)
      · cases e
  · exact q.elim
/-- is None, is not None -/
def isNon : D → Bool
  | .non => true
  | _ => false
def gIs : Op2 := fun x y st => match y with
  | .non => .ok (.bl (isNon x)) st
  | _ => .bad
def gIsNot : Op2 := fun x y st => match y with
  | .non => .ok (.bl (!isNon x)) st
  | _ => .bad
theorem isNon_of {Γ : Ent} {F H H0 : Hp} {L : List Addr} {σ : St} {ρ : REnv} {st : Store} {x : D} {v : V} (rl : Rl K mg Γ F L σ H ρ st) (kx : kR K mg σ H0 ρ F L H x v) : isNon x = decide (v = .non) := by
  cases x with
  | non => cases kx.non rl; rfl
  | int i => cases kx.int rl; rfl
  | bl i => cases kx.bl rl; rfl
  | str i => cases kx.str rl; rfl
  | lst ds => obtain ⟨a, vs, rfl, _⟩ := kx.lst rl; rfl
  | tup ds => obtain ⟨a, vs, rfl, _⟩ := kx.tup rl; rfl
  | scr ds => obtain ⟨a, vs, rfl, _⟩ := kx.scr rl; rfl
  | dct ds => obtain ⟨a, vs, rfl, _⟩ := kx.dct rl; rfl
  | ins c fs =>
    rcases kx with kv | ⟨i, h1, h2⟩
    · rcases kv with ⟨_, _, e, _⟩ | ⟨a, C, dx, fv, rfl, _⟩
      · cases e
      · rfl
    · obtain ⟨a, g1, _⟩ := rl.so i _ h1
      rw [g1] at h2; cases h2; rfl
  | loc n =>
    have := kx.val rl fun _ _ _ h => h
    obtain ⟨a, _, rfl⟩ := this.loc
    rfl
theorem sem_is : Sem2 kV K mg gIs (fun x y H Q => y = .non ∧ Q (.bl (decide (x = .non))) H) := by
  intro Γ W F L σ H ρ st x y v u Q rl kx ky q
  unfold gIs at q
  split at q
  · exact ⟨ky.non rl, by rw [← isNon_of rl kx]; exact q.here rl.sto _ (.inr rfl)⟩
  · exact q.elim
theorem sem_isNot : Sem2 kV K mg gIsNot (fun x y H Q => y = .non ∧ Q (.bl (!decide (x = .non))) H) := by
  intro Γ W F L σ H ρ st x y v u Q rl kx ky q
  unfold gIsNot at q
  split at q
  · exact ⟨ky.non rl, by rw [← isNon_of rl kx]; exact q.here rl.sto _ (.inr rfl)⟩
  · exact q.elim
end
end Gh
/-! Gh9: in, places, cuts, built-ins. -/
namespace Gh
open L2 PyProof.Rows PySem.Spec PySem
section
variable {X : Cx} {K : PySem.W.Frag} {mg : Glob} {Γ : Ent} {W : WX} {e a b : Expr} {es : List Expr} {m ma mb : EDen} {ms : ADen} {pos p p2 : Pos} {k : Kd}
/-! ### in -/
def flatD : D → Bool
  | .non => true
  | .bl _ => true
  | .int _ => true
  | .str _ => true
  | _ => false
def inD (x : D) (xs : List D) : Bool := xs.any fun y => D.eqv y x
def itemsOf : D → Option (List D)
  | .lst ds => some ds
  | .tup ds => some ds
  | .scr ds => some ds
  | _ => none
def isIn (x y : D) : Option Bool := match y with
  | .str s => (match x with
    | .str t => some (!(Builtin.Str.occurrences s t 0 s.length 1).isEmpty)
    | _ => none)
  | .dct kvs => (match keyOf x with
    | some k => some (valD kvs k).isSome
    | none => none)
  | y => match itemsOf y with
    | some ds => if flatD x = true ∧ ds.all flatD = true then some (inD x ds) else none
    | none => none
def gIn : Op2 := fun x y st => match isIn x y with
  | some b => .ok (.bl b) st
  | none => .bad
def gNotIn : Op2 := fun x y st => match isIn x y with
  | some b => .ok (.bl (!b)) st
  | none => .bad
theorem flat_of {F H : Hp} {L : List Addr} {x : D} {v : V} (h : flatD x = true) (r : VRep K mg L F x v) : flatV v = true ∧ ∀ (y : D) (u : V), flatD y = true → VRep K mg L F y u → eqV v u = D.eqv x y := by
  cases x with
  | non => cases r.non; exact ⟨rfl, fun y u hy ry => by
      cases y with
      | non => cases ry.non; rfl
      | bl b => cases ry.bl; rfl
      | int b => cases ry.int; rfl
      | str b => cases ry.str; rfl
      | _ => simp [flatD] at hy⟩
  | bl b => cases r.bl; exact ⟨rfl, fun y u hy ry => by
      cases y with
      | non => cases ry.non; rfl
      | bl b => cases ry.bl; rfl
      | int b => cases ry.int; rfl
      | str b => cases ry.str; rfl
      | _ => simp [flatD] at hy⟩
  | int b => cases r.int; exact ⟨rfl, fun y u hy ry => by
      cases y with
      | non => cases ry.non; rfl
      | bl b => cases ry.bl; rfl
      | int b => cases ry.int; rfl
      | str b => cases ry.str; rfl
      | _ => simp [flatD] at hy⟩
  | str b => cases r.str; exact ⟨rfl, fun y u hy ry => by
      cases y with
      | non => cases ry.non; rfl
      | bl b => cases ry.bl; rfl
      | int b => cases ry.int; rfl
      | str b => cases ry.str; rfl
      | _ => simp [flatD] at hy⟩
  | _ => simp [flatD] at h
theorem flatL_of {F : Hp} {L : List Addr} {x : D} {v : V} (hx : flatD x = true) (rx : VRep K mg L F x v) : ∀ {ds : List D} {vs : List V}, ds.all flatD = true → RepL K mg F ds vs → vs.all flatV = true ∧ inV v vs = inD x ds
  | [], vs, _, r => by
    cases (show vs = [] from r)
    exact ⟨rfl, rfl⟩
  | d :: ds, vs, h, r => by
    obtain ⟨u, r', rfl, r1, r2⟩ := r
    rw [List.all_cons, Bool.and_eq_true] at h
    obtain ⟨a1, a2⟩ := flatL_of hx rx h.2 r2
    have f := flat_of (F := F) (H := F) (L := L) h.1 (.inr r1)
    refine ⟨by rw [List.all_cons, f.1, a1] <;> rfl, ?_⟩
    unfold inV inD at a2 ⊢
    rw [List.any_cons, List.any_cons, a2, f.2 x v hx rx]
abbrev rInU (K : PySem.W.Frag) : R2 := fun x y H Q => rIn K false x y H Q ∨ ∃ i j, x = .str i ∧ y = .str j ∧ Q (.bl (!(Builtin.Str.occurrences j i 0 j.length 1).isEmpty)) H
abbrev rNotInU (K : PySem.W.Frag) : R2 := fun x y H Q => rIn K true x y H Q ∨ ∃ i j, x = .str i ∧ y = .str j ∧ Q (.bl (!(!(Builtin.Str.occurrences j i 0 j.length 1).isEmpty))) H
theorem op_inU : OpR X (compareOp .In) (rInU X.K) := OpR.or op_in_seq op_in_str
theorem op_notInU : OpR X (compareOp .NotIn) (rNotInU X.K) := OpR.or op_notIn_seq op_notIn_str
theorem items_at {F H H0 : Hp} {L : List Addr} {σ : St} {ρ : REnv} {st : Store} {y : D} {u : V} {ds : List D} (rl : Rl K mg Γ F L σ H ρ st) (ky : kR K mg σ H0 ρ F L H y u) (h : itemsOf y = some ds) : ∃ p vs, u = .ref p ∧ (SqL K H p vs ∨ SqT K H p vs) ∧ RepL K mg F ds vs := by
  cases y with
  | lst es => cases h; obtain ⟨a, vs, rfl, h1, h2⟩ := ky.lst rl; exact ⟨a, vs, rfl, .inl (.inl (.inl h1)), h2⟩
  | tup es => cases h; obtain ⟨a, vs, rfl, h1, h2, _⟩ := ky.tup rl; exact ⟨a, vs, rfl, .inr h1, h2⟩
  | scr es => cases h; obtain ⟨a, vs, rfl, h1, h2⟩ := ky.scr rl; exact ⟨a, vs, rfl, .inl h1, h2⟩
  | _ => cases h
theorem key_at {F H H0 : Hp} {L : List Addr} {σ : St} {ρ : REnv} {st : Store} {x : D} {v : V} {kk : Key} (rl : Rl K mg Γ F L σ H ρ st) (kx : kR K mg σ H0 ρ F L H x v) (h : keyOf x = some kk) : v = L2.kV kk := by
  cases x with
  | int i => cases h; exact kx.int rl
  | str s => cases h; exact kx.str rl
  | _ => cases h
/-- the outcome of b, asked behind a, is of a kind -/
def sndIs (pr : D → Bool) (ma mb : EDen) (ρ : REnv) (st : Store) : Prop := ∃ x st1 y st2, ma ρ st = .ok x st1 ∧ mb ρ st1 = .ok y st2 ∧ pr y = true
def fstIs (pr : D → Bool) (ma : EDen) (ρ : REnv) (st : Store) : Prop := ∃ x st1, ma ρ st = .ok x st1 ∧ pr x = true
def isDct : D → Bool
  | .dct _ => true
  | _ => false
theorem sem_in : ∀ (Γ : Ent) (W : WX) (F : Hp) (L : List Addr) (σ : St) (H : Hp) (ρ : REnv) (st : Store) (x y : D) (v u : V) (Q : VK), isDct y = false → Rl K mg Γ F L σ H ρ st → kR K mg σ H ρ F L H x v → kR K mg σ H ρ F L H y u →
    Post K mg W σ F L H (gIn x y st) (fun F' L' H' _ d => ∀ w, kV K mg σ H ρ F' L' H' d w → Q w H') → rInU K v u H Q := by
  intro Γ W F L σ H ρ st x y v u Q nd rl kx ky q
  unfold gIn at q
  split at q
  · rename_i bb eb
    unfold isIn at eb
    split at eb
    · rename_i s
      split at eb
      · rename_i t
        cases eb
        exact .inr ⟨t, s, kx.str rl, ky.str rl, q.here rl.sto _ (.inr rfl)⟩
      · cases eb
    · cases nd
    · split at eb
      · rename_i ds hds
        split at eb
        · rename_i hf
          cases eb
          obtain ⟨p, vs, rfl, h1, h2⟩ := items_at rl ky hds
          have kx' : VRep K mg L F x v := kx.val rl (by intro F H a hs; cases x <;> first | exact hs | simp [flatD] at hf)
          obtain ⟨f1, f2⟩ := flatL_of (F := F) hf.1 kx' hf.2 h2
          have g1 := (flat_of (F := F) (H := F) hf.1 kx').1
          exact .inl ⟨p, vs, rfl, h1, g1, f1, by rw [if_neg Bool.false_ne_true, f2]; exact q.here rl.sto _ (.inr rfl)⟩
        · cases eb
      · cases eb
  · exact q.elim
theorem sem_notIn : ∀ (Γ : Ent) (W : WX) (F : Hp) (L : List Addr) (σ : St) (H : Hp) (ρ : REnv) (st : Store) (x y : D) (v u : V) (Q : VK), isDct y = false → Rl K mg Γ F L σ H ρ st → kR K mg σ H ρ F L H x v → kR K mg σ H ρ F L H y u →
    Post K mg W σ F L H (gNotIn x y st) (fun F' L' H' _ d => ∀ w, kV K mg σ H ρ F' L' H' d w → Q w H') → rNotInU K v u H Q := by
  intro Γ W F L σ H ρ st x y v u Q nd rl kx ky q
  unfold gNotIn at q
  split at q
  · rename_i bb eb
    unfold isIn at eb
    split at eb
    · rename_i s
      split at eb
      · rename_i t
        cases eb
        exact .inr ⟨t, s, kx.str rl, ky.str rl, q.here rl.sto _ (.inr rfl)⟩
      · cases eb
    · cases nd
    · split at eb
      · rename_i ds hds
        split at eb
        · rename_i hf
          cases eb
          obtain ⟨p, vs, rfl, h1, h2⟩ := items_at rl ky hds
          have kx' : VRep K mg L F x v := kx.val rl (by intro F H a hs; cases x <;> first | exact hs | simp [flatD] at hf)
          obtain ⟨f1, f2⟩ := flatL_of (F := F) hf.1 kx' hf.2 h2
          have g1 := (flat_of (F := F) (H := F) hf.1 kx').1
          exact .inl ⟨p, vs, rfl, h1, g1, f1, by rw [if_pos rfl, f2]; exact q.here rl.sto _ (.inr rfl)⟩
        · cases eb
      · cases eb
  · exact q.elim
/-- in a list, a tuple, a text, a dict -/
theorem in_go {X : Cx} {mg : Glob} {Γ : Ent} {W : WX} {ma mb : EDen} {σ : St} {H : Hp} {Q : VK} (h : teV X.K mg Γ W (e2 gIn ma mb) σ H Q) : tOp (rInU X.K) (teR X.K mg Γ W ma) (teR X.K mg Γ W mb) σ H Q ∨ tDIn (teR X.K mg Γ W ma) (teR X.K mg Γ W mb) σ H Q := by
  obtain ⟨F, L, ρ, st, rl, q⟩ := h
  by_cases hd : sndIs isDct ma mb ρ st
  · right
    obtain ⟨x0, st1', y0, st2', e1, e2', hy⟩ := hd
    refine ⟨F, L, ρ, st, rl, q.bind.impE fun F1 L1 H1 st1 x ex s1 o1 p1 v kv => ?_⟩
    have rl1 := rl.step s1 o1
    refine ⟨F1, L1, ρ, st1, rl1, p1.bind.impE fun F2 L2 H2 st2 y ey s2 o2 p2 u ku => ?_⟩
    have rl2 := rl1.step s2 o2
    have kv2 : kR X.K mg σ H2 ρ F2 L2 H2 x v := kR.step kv s2
    rw [e1] at ex; cases ex
    rw [e2'] at ey; cases ey
    unfold gIn at p2
    split at p2
    · rename_i bb eb
      cases y0 with
      | dct kvs =>
        have eb : (match keyOf x0 with
          | some k => some (valD kvs k).isSome
          | none => none) = some bb := eb
        split at eb
        · rename_i kk hk
          cases eb
          obtain ⟨a', vs, rfl, h1, h2⟩ := ku.dct rl2
          cases key_at rl2 kv2 hk
          refine ⟨a', valV vs kk, rfl, .inl ⟨vs, kk, h1, rfl, rfl⟩, ?_⟩
          have : (valV vs kk).isSome = (valD kvs kk).isSome := by
            rcases h2.val kk with ⟨z1, z2⟩ | ⟨d, w, z1, z2, _⟩ <;> rw [z1, z2] <;> rfl
          rw [this]
          exact p2.here o2 _ (.inr rfl)
        · cases eb
      | _ => cases hy
    · exact p2.elim
  · left
    refine ⟨F, L, ρ, st, rl, q.bind.impE fun F1 L1 H1 st1 x ex s1 o1 p1 v kv => ?_⟩
    have rl1 := rl.step s1 o1
    refine ⟨F1, L1, ρ, st1, rl1, p1.bind.impE fun F2 L2 H2 st2 y ey s2 o2 p2 u ku => ?_⟩
    have rl2 := rl1.step s2 o2
    have nd : isDct y = false := by
      cases h : isDct y with
      | false => rfl
      | true => exact absurd ⟨x, st1, y, st2, ex, ey, h⟩ hd
    exact sem_in Γ W F2 L2 σ H2 ρ st2 x y v u Q nd rl2 (kR.step kv s2) ku p2
theorem g_in (hK : X.K = K) (hu : X.A.units + 1 < cLine) (ha : PE X a (teR K mg Γ W ma)) (hb : PE X b (teR K mg Γ W mb)) (hm : behindInMarks .In b = false := by rfl) : PE X (.Compare a [.In] [b] pos) (teV K mg Γ W (e2 gIn ma mb)) := by
  subst hK
  exact pe_imp (pe_or' (pe_cmpR op_inU ha hb hm) (pe_cmp (pc_din hu ha hb) hm)) fun σ H Q h => in_go h
theorem notIn_go {X : Cx} {mg : Glob} {Γ : Ent} {W : WX} {ma mb : EDen} {σ : St} {H : Hp} {Q : VK} (h : teV X.K mg Γ W (e2 gNotIn ma mb) σ H Q) : tOp (rNotInU X.K) (teR X.K mg Γ W ma) (teR X.K mg Γ W mb) σ H Q ∨ tDNotIn (teR X.K mg Γ W ma) (teR X.K mg Γ W mb) σ H Q := by
  obtain ⟨F, L, ρ, st, rl, q⟩ := h
  by_cases hd : sndIs isDct ma mb ρ st
  · right
    obtain ⟨x0, st1', y0, st2', e1, e2', hy⟩ := hd
    refine ⟨F, L, ρ, st, rl, q.bind.impE fun F1 L1 H1 st1 x ex s1 o1 p1 v kv => ?_⟩
    have rl1 := rl.step s1 o1
    refine ⟨F1, L1, ρ, st1, rl1, p1.bind.impE fun F2 L2 H2 st2 y ey s2 o2 p2 u ku => ?_⟩
    have rl2 := rl1.step s2 o2
    have kv2 : kR X.K mg σ H2 ρ F2 L2 H2 x v := kR.step kv s2
    rw [e1] at ex; cases ex
    rw [e2'] at ey; cases ey
    unfold gNotIn at p2
    split at p2
    · rename_i bb eb
      cases y0 with
      | dct kvs =>
        have eb : (match keyOf x0 with
          | some k => some (valD kvs k).isSome
          | none => none) = some bb := eb
        split at eb
        · rename_i kk hk
          cases eb
          obtain ⟨a', vs, rfl, h1, h2⟩ := ku.dct rl2
          cases key_at rl2 kv2 hk
          refine ⟨a', valV vs kk, rfl, .inl ⟨vs, kk, h1, rfl, rfl⟩, ?_⟩
          have : (valV vs kk).isSome = (valD kvs kk).isSome := by
            rcases h2.val kk with ⟨z1, z2⟩ | ⟨d, w, z1, z2, _⟩ <;> rw [z1, z2] <;> rfl
          rw [this]
          exact p2.here o2 _ (.inr rfl)
        · cases eb
      | _ => cases hy
    · exact p2.elim
  · left
    refine ⟨F, L, ρ, st, rl, q.bind.impE fun F1 L1 H1 st1 x ex s1 o1 p1 v kv => ?_⟩
    have rl1 := rl.step s1 o1
    refine ⟨F1, L1, ρ, st1, rl1, p1.bind.impE fun F2 L2 H2 st2 y ey s2 o2 p2 u ku => ?_⟩
    have rl2 := rl1.step s2 o2
    have nd : isDct y = false := by
      cases h : isDct y with
      | false => rfl
      | true => exact absurd ⟨x, st1, y, st2, ex, ey, h⟩ hd
    exact sem_notIn Γ W F2 L2 σ H2 ρ st2 x y v u Q nd rl2 (kR.step kv s2) ku p2
theorem g_notIn (hK : X.K = K) (hu : X.A.units + 1 < cLine) (ha : PE X a (teR K mg Γ W ma)) (hb : PE X b (teR K mg Γ W mb)) (hm : behindInMarks .NotIn b = false := by rfl) : PE X (.Compare a [.NotIn] [b] pos) (teV K mg Γ W (e2 gNotIn ma mb)) := by
  subst hK
  exact pe_imp (pe_or' (pe_cmpR op_notInU ha hb hm) (pe_cmp (pc_dnotin hu ha hb) hm)) fun σ H Q h => notIn_go h
/-! ### places -/
def gIx : Op2 := fun x y st => match x, y with
  | .dct kvs, y => (match keyOf y with
    | some k => (match valD kvs k with
      | some d => .ok d st
      | none => .bad)
    | none => .bad)
  | .str s, .int i => if s.length ≤ sizeLine then (match atI s.cps.toList i with
    | some c => .ok (.str ⟨#[c]⟩) st
    | none => .bad) else .bad
  | .loc n, .int i => (match st[n]? with
    | some (.lst ds) => (match atI ds i with
      | some d => .ok d st
      | none => .bad)
    | _ => .bad)
  | x, .int i => (match itemsOf x with
    | some ds => (match atI ds i with
      | some d => .ok d st
      | none => .bad)
    | none => .bad)
  | _, _ => .bad
theorem atI_rep {F : Hp} {ds : List D} {vs : List V} {i : Int} {d : D} (r : RepL K mg F ds vs) (h : atI ds i = some d) : ∃ v, atI vs i = some v ∧ Rep K mg F d v := by
  unfold atI at h ⊢
  rw [← r.length]
  cases hx : ixN ds.length i with
  | none => rw [hx] at h; cases h
  | some j =>
    rw [hx] at h
    exact r.get h
theorem g_sub (hK : X.K = K) (hu : X.A.units + 1 < cLine) (ha : PE X a (teR K mg Γ W ma)) (hb : PE X b (teR K mg Γ W mb)) (hx : PlainIx b := by exact fun _ _ => rfl) : PE X (.Subscript a b pos) (teV K mg Γ W (e2 gIx ma mb)) := by
  subst hK
  refine pe_imp (pe_or' (pe_ix ix_seq ha hb hx) (pe_dget hu ha hb hx)) fun σ H Q ⟨F, L, ρ, st, rl, q⟩ => ?_
  by_cases hd : fstIs isDct ma ρ st
  · right
    obtain ⟨x0, st1', e1, hy⟩ := hd
    refine ⟨F, L, ρ, st, rl, q.bind.impE fun F1 L1 H1 st1 x ex s1 o1 p1 v kv => ?_⟩
    have rl1 := rl.step s1 o1
    refine ⟨F1, L1, ρ, st1, rl1, p1.bind.imp fun F2 L2 H2 st2 y s2 o2 p2 u ku => ?_⟩
    have rl2 := rl1.step s2 o2
    have kv2 : kR X.K mg σ H2 ρ F2 L2 H2 x v := kR.step kv s2
    rw [e1] at ex; cases ex
    cases x0 with
    | dct kvs =>
      have p2 : Post X.K mg W σ F2 L2 H2 (match keyOf y with
        | some k => (match valD kvs k with
          | some d => .ok d st2
          | none => .bad)
        | none => .bad) _ := p2
      split at p2
      · rename_i kk hk
        split at p2
        · rename_i d hv
          obtain ⟨a', vs, rfl, h1, h2⟩ := kv2.dct rl2
          cases key_at rl2 ku hk
          rcases h2.val kk with ⟨z1, z2⟩ | ⟨d', w, z1, z2, z3⟩
          · rw [z1] at hv; cases hv
          · rw [z1] at hv; cases hv
            exact ⟨a', w, rfl, .inl ⟨vs, kk, h1, rfl, z2.symm⟩, p2.here o2 _ (.inr z3)⟩
        · exact p2.elim
      · exact p2.elim
    | _ => cases hy
  · left
    refine ⟨F, L, ρ, st, rl, q.bind.impE fun F1 L1 H1 st1 x ex s1 o1 p1 v kv => ?_⟩
    have rl1 := rl.step s1 o1
    refine ⟨F1, L1, ρ, st1, rl1, p1.bind.imp fun F2 L2 H2 st2 y s2 o2 p2 u ku => ?_⟩
    have rl2 := rl1.step s2 o2
    have kv2 : kR X.K mg σ H2 ρ F2 L2 H2 x v := kR.step kv s2
    unfold gIx at p2
    split at p2
    · rename_i kvs yy
      exact absurd ⟨_, _, ex, rfl⟩ hd
    · rename_i s i
      split at p2
      · rename_i hl
        split at p2
        · rename_i c hc
          exact .inr (.inr ⟨s, i, c, kv2.str rl2, ku.int rl2, hl, hc, p2.here o2 _ (.inr rfl)⟩)
        · exact p2.elim
      · exact p2.elim
    · rename_i n i
      split at p2
      · rename_i ds hst
        split at p2
        · rename_i d hd'
          have := kv2.val rl2 fun _ _ _ h => h
          obtain ⟨a', h1, rfl⟩ := this.loc
          obtain ⟨nF, vs, h2, h3⟩ := o2.at_ n a' _ h1 hst
          obtain ⟨w, w1, w2⟩ := atI_rep h3 hd'
          exact .inl ⟨a', vs, i, w, rfl, ku.int rl2, .inl (.inl h2), w1, p2.here o2 _ (.inr w2)⟩
        · exact p2.elim
      · exact p2.elim
    · rename_i i _ _ _
      split at p2
      · rename_i ds hds
        split at p2
        · rename_i d hd'
          obtain ⟨p, vs, rfl, h1, h2⟩ := items_at rl2 kv2 hds
          obtain ⟨w, w1, w2⟩ := atI_rep h2 hd'
          rcases h1 with h1 | h1
          · exact .inl ⟨p, vs, i, w, rfl, ku.int rl2, h1, w1, p2.here o2 _ (.inr w2)⟩
          · exact .inr (.inl ⟨p, vs, i, w, rfl, ku.int rl2, h1, w1, p2.here o2 _ (.inr w2)⟩)
        · exact p2.elim
      · exact p2.elim
    · exact p2.elim
end
end Gh
/-! Gh10: cuts, built-ins, isinstance, truth and == of instances. -/
namespace Gh
open L2 PyProof.Rows PySem.Spec PySem
section
variable {X : Cx} {K : PySem.W.Frag} {mg : Glob} {Γ : Ent} {W : WX} {e a b : Expr} {es : List Expr} {m ma mb : EDen} {ms : ADen} {pos p p2 : Pos} {k : Kd}
/-! ### cuts -/
abbrev ODen := REnv → Store → RC (Option Int)
def oNone : ODen := fun _ st => .ok none st
def oSome (m : EDen) : ODen := fun ρ st => (m ρ st).bind fun d st1 => match d with
  | .int i => .ok (some i) st1
  | _ => .bad
def toG (K : PySem.W.Frag) (mg : Glob) (Γ : Ent) (W : WX) (m : ODen) : TO := fun σ H Q => ∃ F L ρ st, Rl K mg Γ F L σ H ρ st ∧
  Post K mg W σ F L H (m ρ st) fun F' L' H' _ o => Q o H'
theorem po_imp {e : Option Expr} {t t' : TO} (h : PO X e t) (k : ∀ σ H Q, t' σ H Q → t σ H Q) : PO X e t' := ⟨fun pins s σ H Q I q => h.run pins s σ H Q I (k σ H Q q)⟩
theorem o_none : PO X none (toG K mg Γ W oNone) := po_imp po_none fun σ H Q ⟨F, L, ρ, st, rl, q⟩ => q.here rl.sto
theorem o_some (h : PE X e (teR K mg Γ W m)) : PO X (some e) (toG K mg Γ W (oSome m)) := by
  refine po_imp (po_some h) fun σ H Q ⟨F, L, ρ, st, rl, q⟩ => ⟨F, L, ρ, st, rl, q.bind.imp fun F1 L1 H1 st1 d s o q1 v kv => ?_⟩
  split at q1
  · rename_i i
    exact ⟨i, kv.int (rl.step s o), q1.here o⟩
  · exact q1.elim
def cutD (ds : List D) (lo hi : Option Int) : List D := (ds.drop (HT.sIx ds.length 0 lo)).take (HT.sIx ds.length ds.length hi - HT.sIx ds.length 0 lo)
theorem cutD_rep {F : Hp} {ds : List D} {vs : List V} (r : RepL K mg F ds vs) (lo hi : Option Int) : RepL K mg F (cutD ds lo hi) (cutV vs lo hi) := by
  unfold cutD cutV
  rw [← r.length]
  exact (r.drop _).take _
def gCut (x : D) (lo hi : Option Int) (st : Store) : RC D := match x with
  | .lst ds => .ok (.lst (cutD ds lo hi)) st
  | .tup ds => .ok (.tup (cutD ds lo hi)) st
  | _ => .bad
def eCut (m : EDen) (lo hi : ODen) : EDen := fun ρ st => (m ρ st).bind fun x st1 => (lo ρ st1).bind fun l st2 => (hi ρ st2).bind fun h st3 => gCut x l h st3
def gCutL (x : D) (lo hi : Option Int) (st : Store) : RC D := match x with
  | .lst ds => .ok (.lst (cutD ds lo hi)) st
  | _ => .bad
/-- .. of a list, a new one -/
def eCutL (m : EDen) (lo hi : ODen) : EDen := fun ρ st => (m ρ st).bind fun x st1 => (lo ρ st1).bind fun l st2 => (hi ρ st2).bind fun h st3 => gCutL x l h st3
theorem cutV_whole {xs : List V} {lo hi : Option Int} (h : HT.sIx xs.length 0 lo = 0 ∧ HT.sIx xs.length xs.length hi = xs.length) : cutV xs lo hi = xs := by
  unfold cutV
  rw [h.1, h.2]
  simp
theorem g_cut {elo ehi : Option Expr} {lo hi : ODen} (hK : X.K = K) (he : PE X e (teR K mg Γ W m)) (hl : PO X elo (toG K mg Γ W lo)) (hh : PO X ehi (toG K mg Γ W hi)) : PE X (.Subscript e (.Slice elo ehi none p2) pos) (teV K mg Γ W (eCut m lo hi)) := by
  subst hK
  refine pe_imp (pe_slice (SlR.or sl_list sl_tupA) he hl hh) fun σ H Q ⟨F, L, ρ, st, rl, q⟩ => ⟨F, L, ρ, st, rl, q.bind.imp fun F1 L1 H1 st1 x s1 o1 p1 v kv => ?_⟩
  have rl1 := rl.step s1 o1
  refine ⟨F1, L1, ρ, st1, rl1, p1.bind.imp fun F2 L2 H2 st2 l s2 o2 p2 => ?_⟩
  have rl2 := rl1.step s2 o2
  refine ⟨F2, L2, ρ, st2, rl2, p2.bind.imp fun F3 L3 H3 st3 h s3 o3 p3 => ?_⟩
  have rl3 := rl2.step s3 o3
  have kv3 : kR X.K mg σ H3 ρ F3 L3 H3 x v := kR.step (kR.step (H0' := H2) (H3 := H2) kv s2) s3
  unfold gCut at p3
  split at p3
  · rename_i ds
    obtain ⟨a, vs, rfl, h1, h2⟩ := kv3.lst rl3
    refine .inl ⟨a, vs, rfl, .inl (.inl h1), fun z nz => ?_⟩
    obtain ⟨s, o⟩ := o3.lay (o := .lst (cutV vs l h)) nz
    exact p3 _ _ _ s o _ (.inr ⟨z, _, rfl, upd_same, RepL.mono s.ex _ (cutD_rep h2 l h)⟩)
  · rename_i ds
    obtain ⟨a, vs, rfl, h1, h2, h3⟩ := kv3.tup rl3
    refine .inr ⟨a, vs, rfl, h1, fun w => ?_, fun w z nz => ?_⟩
    · have r := cutD_rep h2 l h
      rw [cutV_whole w] at r
      exact p3.here o3 _ (.inr ⟨a, vs, rfl, h3, r⟩)
    · obtain ⟨s, o⟩ := o3.lay (o := .tup (cutV vs l h)) nz
      exact p3 _ _ _ s o _ (.inr ⟨z, _, rfl, .inl (.inl upd_same), RepL.mono s.ex _ (cutD_rep h2 l h)⟩)
  · exact p3.elim
theorem g_cutL {elo ehi : Option Expr} {lo hi : ODen} (hK : X.K = K) (he : PE X e (teR K mg Γ W m)) (hl : PO X elo (toG K mg Γ W lo)) (hh : PO X ehi (toG K mg Γ W hi)) : PE X (.Subscript e (.Slice elo ehi none p2) pos) (teO K mg Γ W (eCutL m lo hi)) := by
  subst hK
  refine pe_imp (pe_slice sl_list he hl hh) fun σ H Q ⟨F, L, ρ, st, rl, q⟩ => ⟨F, L, ρ, st, rl, q.bind.imp fun F1 L1 H1 st1 x s1 o1 p1 v kv => ?_⟩
  have rl1 := rl.step s1 o1
  refine ⟨F1, L1, ρ, st1, rl1, p1.bind.imp fun F2 L2 H2 st2 l s2 o2 p2 => ?_⟩
  have rl2 := rl1.step s2 o2
  refine ⟨F2, L2, ρ, st2, rl2, p2.bind.imp fun F3 L3 H3 st3 h s3 o3 p3 => ?_⟩
  have rl3 := rl2.step s3 o3
  have kv3 : kR X.K mg σ H3 ρ F3 L3 H3 x v := kR.step (kR.step (H0' := H2) (H3 := H2) kv s2) s3
  unfold gCutL at p3
  split at p3
  · rename_i ds
    obtain ⟨a, vs, rfl, h1, h2⟩ := kv3.lst rl3
    refine ⟨a, vs, rfl, .inl (.inl h1), fun z nz => ?_⟩
    refine p3 _ _ _ (Stp.fresh nz) (o3.fresh nz) _ ⟨z, rfl, ?_, rl3.newF nz, rl3.newL nz, _, upd_same, cutD_rep h2 l h⟩
    cases hz : H z with
    | none => rfl
    | some u => exact absurd nz (s3.more o3 z (s2.more o2 z (s1.more o1 z (by rw [hz]; simp))))
  · exact p3.elim

/-! ### built-ins -/
theorem KRL.one {Γ : Ent} {F H : Hp} {L : List Addr} {σ : St} {ρ : REnv} {d : D} {vs : List V} (h : KRL K mg σ ρ F L H [d] vs) : ∃ v, vs = [v] ∧ kR K mg σ H ρ F L H d v := by
  obtain ⟨v, r, rfl, h1, h2⟩ := h
  cases (show r = [] from h2)
  exact ⟨v, rfl, h1⟩
theorem KRL.two {Γ : Ent} {F H : Hp} {L : List Addr} {σ : St} {ρ : REnv} {d d' : D} {vs : List V} (h : KRL K mg σ ρ F L H [d, d'] vs) : ∃ v u, vs = [v, u] ∧ kR K mg σ H ρ F L H d v ∧ kR K mg σ H ρ F L H d' u := by
  obtain ⟨v, r, rfl, h1, h2⟩ := h
  obtain ⟨u, r', rfl, h3, h4⟩ := h2
  cases (show r' = [] from h4)
  exact ⟨v, u, rfl, h1, h3⟩
/-- len -/
theorem call_lenR : CallR X (.builtin "len") (fun xs H Q => ∃ a kvs, xs = [V.ref a] ∧ Rd H a (.dK kvs) ∧ Q (.int kvs.length) H) := by
  intro pins s σ H xs us Q I r h
  obtain ⟨a, kvs, rfl, ha, q⟩ := h
  obtain ⟨u, rfl, ru⟩ := vals1 r
  cases ru
  exact d_len I ha fun t s' I' => ⟨.int kvs.length, H, I', ⟨t, rfl⟩, q⟩
abbrev rLen (K : PySem.W.Frag) : List V → Hp → VK → Prop := fun xs H Q => (∃ p ys, xs = [.ref p] ∧ (SqL K H p ys ∨ SqT K H p ys) ∧ Q (.int ys.length) H) ∨ (∃ z, xs = [.str z] ∧ z.length ≤ sizeLine ∧ Q (.int z.length) H) ∨ ∃ a kvs, xs = [V.ref a] ∧ Rd H a (.dK kvs) ∧ Q (.int kvs.length) H
theorem call_lenU : CallR X (.builtin "len") (rLen X.K) := CallR.or call_len_seq (CallR.or call_len_str call_lenR)
def lenD : D → Option Nat
  | .str s => if s.length ≤ sizeLine then some s.length else none
  | .dct kvs => some kvs.length
  | x => (itemsOf x).map List.length
def gLen : OpN := fun ds st => match ds with
  | [d] => (match lenD d with
    | some n => .ok (.int n) st
    | none => .bad)
  | _ => .bad
theorem sem_len : SemN kV K mg gLen (rLen K) := by
  intro Γ W F L σ H ρ st ds vs Q rl kvs q
  unfold gLen at q
  split at q
  · rename_i d
    obtain ⟨v, rfl, kv⟩ := kvs.one (Γ := Γ)
    split at q
    · rename_i n hn
      have seq : ∀ ds, itemsOf d = some ds → n = ds.length → rLen K [v] H Q := fun ds hd e => by
        obtain ⟨p, us, rfl, h1, h2⟩ := items_at rl kv hd
        exact .inl ⟨p, us, rfl, h1, by rw [← h2.length, ← e]; exact q.here rl.sto _ (.inr rfl)⟩
      cases d with
      | str s =>
        have hn : (if s.length ≤ sizeLine then some s.length else none) = some n := hn
        split at hn
        · rename_i hl
          cases hn
          exact .inr (.inl ⟨s, by rw [kv.str rl], hl, q.here rl.sto _ (.inr rfl)⟩)
        · cases hn
      | dct kvs' =>
        cases hn
        obtain ⟨a, us, rfl, h1, h2⟩ := kv.dct rl
        exact .inr (.inr ⟨a, us, rfl, h1, by rw [← h2.length]; exact q.here rl.sto _ (.inr rfl)⟩)
      | lst ds => exact seq ds rfl (by simpa [lenD, itemsOf] using hn.symm)
      | tup ds => exact seq ds rfl (by simpa [lenD, itemsOf] using hn.symm)
      | scr ds => exact seq ds rfl (by simpa [lenD, itemsOf] using hn.symm)
      | _ => simp [lenD, itemsOf] at hn
    · exact q.elim
  · exact q.elim
/-- list(x), tuple(x) -/
def gList : OpN := fun ds st => match ds with
  | [d] => (match itemsOf d with
    | some es => .ok (.lst es) st
    | none => .bad)
  | _ => .bad
theorem sem_list : SemN kO K mg gList (fun xs H Q => ∃ p ys, xs = [.ref p] ∧ (SqL K H p ys ∨ SqT K H p ys) ∧ ∀ l, H l = none → Q (.ref l) (upd H l (.lst ys))) := by
  intro Γ W F L σ H ρ st ds vs Q rl kvs q
  unfold gList at q
  split at q
  · rename_i d
    obtain ⟨v, rfl, kv⟩ := kvs.one (Γ := Γ)
    split at q
    · rename_i es hd
      obtain ⟨p, us, rfl, h1, h2⟩ := items_at rl kv hd
      exact ⟨p, us, rfl, h1, fun z nz => q _ _ _ (Stp.fresh nz) (rl.sto.fresh nz) _ ⟨z, rfl, nz, rl.newF nz, rl.newL nz, us, upd_same, h2⟩⟩
    · exact q.elim
  · exact q.elim
def gTuple : OpN := fun ds st => match ds with
  | [d] => (match itemsOf d with
    | some es => .ok (.tup es) st
    | none => .bad)
  | _ => .bad
theorem sem_tuple : SemN kV K mg gTuple (fun xs H Q => ∃ p ys, xs = [.ref p] ∧ ((SqL K H p ys ∧ ∀ l, H l = none → Q (.ref l) (upd H l (.tup ys))) ∨ (SqT K H p ys ∧ Q (.ref p) H))) := by
  intro Γ W F L σ H ρ st ds vs Q rl kvs q
  unfold gTuple at q
  split at q
  · rename_i d
    obtain ⟨v, rfl, kv⟩ := kvs.one (Γ := Γ)
    split at q
    · rename_i es hd
      have new : ∀ us, RepL K mg F es us → ∀ l, H l = none → Q (.ref l) (upd H l (.tup us)) := fun us h2 l nl => by
        obtain ⟨s, o⟩ := rl.sto.lay (o := .tup us) nl
        exact q _ _ _ s o _ (.inr ⟨l, us, rfl, .inl (.inl upd_same), RepL.mono s.ex _ h2⟩)
      cases d with
      | lst es' => cases hd; obtain ⟨a, us, rfl, h1, h2⟩ := kv.lst rl; exact ⟨a, us, rfl, .inl ⟨.inl (.inl h1), new us h2⟩⟩
      | scr es' => cases hd; obtain ⟨a, us, rfl, h1, h2⟩ := kv.scr rl; exact ⟨a, us, rfl, .inl ⟨h1, new us h2⟩⟩
      | tup es' => cases hd; obtain ⟨a, us, rfl, h1, h2, h3⟩ := kv.tup rl; exact ⟨a, us, rfl, .inr ⟨h1, q.here rl.sto _ (.inr ⟨a, us, rfl, h3, h2⟩)⟩⟩
      | _ => cases hd
    · exact q.elim
  · exact q.elim
/-- lists of ints, of truth values -/
def asInts : List D → Option (List Int)
  | [] => some []
  | .int i :: r => (asInts r).map (i :: ·)
  | _ => none
def asBools : List D → Option (List Bool)
  | [] => some []
  | .bl i :: r => (asBools r).map (i :: ·)
  | _ => none
theorem asInts_rep {F : Hp} : ∀ {ds : List D} {vs : List V} {ns : List Int}, RepL K mg F ds vs → asInts ds = some ns → vs = ns.map V.int
  | [], vs, ns, r, h => by
    cases (show vs = [] from r)
    cases h
    rfl
  | d :: ds, vs, ns, r, h => by
    obtain ⟨v, r', rfl, r1, r2⟩ := r
    cases d with
    | int i =>
      have h : (asInts ds).map (i :: ·) = some ns := h
      cases h2 : asInts ds with
      | none => rw [h2] at h; cases h
      | some ms =>
        rw [h2] at h
        cases h
        cases (show v = .int i from r1)
        rw [asInts_rep r2 h2] <;> rfl
    | _ => cases h
theorem asBools_rep {F : Hp} : ∀ {ds : List D} {vs : List V} {ns : List Bool}, RepL K mg F ds vs → asBools ds = some ns → vs = ns.map V.bl
  | [], vs, ns, r, h => by
    cases (show vs = [] from r)
    cases h
    rfl
  | d :: ds, vs, ns, r, h => by
    obtain ⟨v, r', rfl, r1, r2⟩ := r
    cases d with
    | bl i =>
      have h : (asBools ds).map (i :: ·) = some ns := h
      cases h2 : asBools ds with
      | none => rw [h2] at h; cases h
      | some ms =>
        rw [h2] at h
        cases h
        cases (show v = .bl i from r1)
        rw [asBools_rep r2 h2] <;> rfl
    | _ => cases h
theorem list_at {F H H0 : Hp} {L : List Addr} {σ : St} {ρ : REnv} {st : Store} {ds : List D} {v : V} (rl : Rl K mg Γ F L σ H ρ st) (kv : kR K mg σ H0 ρ F L H (.lst ds) v) : ∃ a vs, v = .ref a ∧ SqL K H a vs ∧ RepL K mg F ds vs := by
  obtain ⟨a, vs, rfl, h1, h2⟩ := kv.lst rl
  exact ⟨a, vs, rfl, .inl (.inl h1), h2⟩
def gAll : OpN := fun ds st => match ds with
  | [.lst es] => (match asBools es with
    | some bs => .ok (.bl (bs.all id)) st
    | none => .bad)
  | _ => .bad
def gAny : OpN := fun ds st => match ds with
  | [.lst es] => (match asBools es with
    | some bs => .ok (.bl (bs.any id)) st
    | none => .bad)
  | _ => .bad
theorem sem_all : SemN kV K mg gAll (rAll K) := by
  intro Γ W F L σ H ρ st ds vs Q rl kvs q
  unfold gAll at q
  split at q
  · rename_i es
    obtain ⟨v, rfl, kv⟩ := kvs.one (Γ := Γ)
    split at q
    · rename_i bs hb
      obtain ⟨a, us, rfl, h1, h2⟩ := list_at rl kv
      cases asBools_rep h2 hb
      exact ⟨a, bs, rfl, h1, q.here rl.sto _ (.inr rfl)⟩
    · exact q.elim
  · exact q.elim
theorem sem_any : SemN kV K mg gAny (rAny K) := by
  intro Γ W F L σ H ρ st ds vs Q rl kvs q
  unfold gAny at q
  split at q
  · rename_i es
    obtain ⟨v, rfl, kv⟩ := kvs.one (Γ := Γ)
    split at q
    · rename_i bs hb
      obtain ⟨a, us, rfl, h1, h2⟩ := list_at rl kv
      cases asBools_rep h2 hb
      exact ⟨a, bs, rfl, h1, q.here rl.sto _ (.inr rfl)⟩
    · exact q.elim
  · exact q.elim
def maxI : List Int → Int
  | [] => 0
  | [i] => i
  | i :: r => max i (maxI r)
def minI : List Int → Int
  | [] => 0
  | [i] => i
  | i :: r => min i (minI r)
theorem maxI_is : ∀ (ns : List Int) (m : Int), m ∈ ns → (∀ y, y ∈ ns → y ≤ m) → maxI ns = m
  | [], m, h, _ => by simp at h
  | [i], m, h, _ => by
    have : m = i := by simpa using h
    exact this.symm
  | i :: j :: r, m, h, hm => by
    show max i (maxI (j :: r)) = m
    by_cases hr : m ∈ j :: r
    · rw [maxI_is (j :: r) m hr (fun y hy => hm y (List.mem_cons_of_mem _ hy))]
      have := hm i List.mem_cons_self
      omega
    · have e : m = i := by
        rcases List.mem_cons.mp h with h | h
        · exact h
        · exact absurd h hr
      subst e
      have le : ∀ l : List Int, l ≠ [] → (∀ y, y ∈ l → y ≤ m) → maxI l ≤ m := by
        intro l
        induction l with
        | nil => intro h; exact absurd rfl h
        | cons x l ih =>
          intro _ h
          cases l with
          | nil => exact h x List.mem_cons_self
          | cons z l =>
            show max x (maxI (z :: l)) ≤ m
            have := ih (by simp) (fun y hy => h y (List.mem_cons_of_mem _ hy))
            have := h x List.mem_cons_self
            omega
      have := le (j :: r) (by simp) (fun y hy => hm y (List.mem_cons_of_mem _ hy))
      omega
theorem minI_is : ∀ (ns : List Int) (m : Int), m ∈ ns → (∀ y, y ∈ ns → m ≤ y) → minI ns = m
  | [], m, h, _ => by simp at h
  | [i], m, h, _ => by
    have : m = i := by simpa using h
    exact this.symm
  | i :: j :: r, m, h, hm => by
    show min i (minI (j :: r)) = m
    by_cases hr : m ∈ j :: r
    · rw [minI_is (j :: r) m hr (fun y hy => hm y (List.mem_cons_of_mem _ hy))]
      have := hm i List.mem_cons_self
      omega
    · have e : m = i := by
        rcases List.mem_cons.mp h with h | h
        · exact h
        · exact absurd h hr
      subst e
      have le : ∀ l : List Int, l ≠ [] → (∀ y, y ∈ l → m ≤ y) → m ≤ minI l := by
        intro l
        induction l with
        | nil => intro h; exact absurd rfl h
        | cons x l ih =>
          intro _ h
          cases l with
          | nil => exact h x List.mem_cons_self
          | cons z l =>
            show m ≤ min x (minI (z :: l))
            have := ih (by simp) (fun y hy => h y (List.mem_cons_of_mem _ hy))
            have := h x List.mem_cons_self
            omega
      have := le (j :: r) (by simp) (fun y hy => hm y (List.mem_cons_of_mem _ hy))
      omega
def gMax : OpN := fun ds st => match ds with
  | [.lst es] => (match asInts es with
    | some (n :: ns) => .ok (.int (maxI (n :: ns))) st
    | _ => .bad)
  | _ => .bad
def gMin : OpN := fun ds st => match ds with
  | [.lst es] => (match asInts es with
    | some (n :: ns) => .ok (.int (minI (n :: ns))) st
    | _ => .bad)
  | _ => .bad
def gSum : OpN := fun ds st => match ds with
  | [.lst es] => (match asInts es with
    | some ns => .ok (.int ns.sum) st
    | _ => .bad)
  | _ => .bad
theorem sem_max : SemN kV K mg gMax (rMax K) := by
  intro Γ W F L σ H ρ st ds vs Q rl kvs q
  unfold gMax at q
  split at q
  · rename_i es
    obtain ⟨v, rfl, kv⟩ := kvs.one (Γ := Γ)
    split at q
    · rename_i n ns hb
      obtain ⟨a, us, rfl, h1, h2⟩ := list_at rl kv
      cases asInts_rep h2 hb
      refine ⟨a, n :: ns, rfl, h1, by simp, fun m hm hy => ?_⟩
      rw [maxI_is _ m hm hy] at q
      exact q.here rl.sto _ (.inr rfl)
    · exact q.elim
  · exact q.elim
theorem sem_min : SemN kV K mg gMin (rMin K) := by
  intro Γ W F L σ H ρ st ds vs Q rl kvs q
  unfold gMin at q
  split at q
  · rename_i es
    obtain ⟨v, rfl, kv⟩ := kvs.one (Γ := Γ)
    split at q
    · rename_i n ns hb
      obtain ⟨a, us, rfl, h1, h2⟩ := list_at rl kv
      cases asInts_rep h2 hb
      refine ⟨a, n :: ns, rfl, h1, by simp, fun m hm hy => ?_⟩
      rw [minI_is _ m hm hy] at q
      exact q.here rl.sto _ (.inr rfl)
    · exact q.elim
  · exact q.elim
theorem sem_sum : SemN kV K mg gSum (rSum K) := by
  intro Γ W F L σ H ρ st ds vs Q rl kvs q
  unfold gSum at q
  split at q
  · rename_i es
    obtain ⟨v, rfl, kv⟩ := kvs.one (Γ := Γ)
    split at q
    · rename_i ns hb
      obtain ⟨a, us, rfl, h1, h2⟩ := list_at rl kv
      cases asInts_rep h2 hb
      exact ⟨a, ns, rfl, h1, q.here rl.sto _ (.inr rfl)⟩
    · exact q.elim
  · exact q.elim
def gMax2 : OpN := fun ds st => match ds with
  | [.int i, .int j] => .ok (.int (if j > i then j else i)) st
  | _ => .bad
def gMin2 : OpN := fun ds st => match ds with
  | [.int i, .int j] => .ok (.int (if j < i then j else i)) st
  | _ => .bad
theorem sem_max2 : SemN kV K mg gMax2 (fun xs H Q => ∃ i j, xs = [.int i, .int j] ∧ Q (.int (if j > i then j else i)) H) := by
  intro Γ W F L σ H ρ st ds vs Q rl kvs q
  unfold gMax2 at q
  split at q
  · rename_i i j
    obtain ⟨v, u, rfl, kv, ku⟩ := kvs.two (Γ := Γ)
    exact ⟨i, j, by rw [kv.int rl, ku.int rl], q.here rl.sto _ (.inr rfl)⟩
  · exact q.elim
theorem sem_min2 : SemN kV K mg gMin2 (fun xs H Q => ∃ i j, xs = [.int i, .int j] ∧ Q (.int (if j < i then j else i)) H) := by
  intro Γ W F L σ H ρ st ds vs Q rl kvs q
  unfold gMin2 at q
  split at q
  · rename_i i j
    obtain ⟨v, u, rfl, kv, ku⟩ := kvs.two (Γ := Γ)
    exact ⟨i, j, by rw [kv.int rl, ku.int rl], q.here rl.sto _ (.inr rfl)⟩
  · exact q.elim
def gInt : OpN := fun ds st => match ds with
  | [.int i] => .ok (.int i) st
  | [.bl b] => .ok (.int (if b then 1 else 0)) st
  | _ => .bad
theorem sem_int : SemN kV K mg gInt (fun xs H Q => (∃ i, xs = [.int i] ∧ Q (.int i) H) ∨ ∃ k, xs = [.bl k] ∧ Q (.int (if k then 1 else 0)) H) := by
  intro Γ W F L σ H ρ st ds vs Q rl kvs q
  unfold gInt at q
  split at q
  · rename_i i
    obtain ⟨v, rfl, kv⟩ := kvs.one (Γ := Γ)
    exact .inl ⟨i, by rw [kv.int rl], q.here rl.sto _ (.inr rfl)⟩
  · rename_i i
    obtain ⟨v, rfl, kv⟩ := kvs.one (Γ := Γ)
    exact .inr ⟨i, by rw [kv.bl rl], q.here rl.sto _ (.inr rfl)⟩
  · exact q.elim
end
end Gh
/-! Gh11: enumerate of a tuple. -/
namespace Gh
open L2 PyProof.Rows PySem.Spec PySem
/-- enumerate(v), one argument: an iterator of v, then the enumerate object -/
theorem meets_enumB {v : Value} {o : Obj} {H : Heap → Prop} (B : Begins v o H) :
    Meets (Builtin.«enumerate.__new__» ⟨[.type "enumerate", v], []⟩) (fun _ R s => H s.heap ∧
      R (.ok (.ret (.ref (s.heap.push o).objs.size))) { s with heap := (s.heap.push o).push { cls := .type "enumerate", data := .fields #[.none, .bool false, .ref s.heap.objs.size, rawInt 0, .none, .none] } }) := by
  refine .of_wp fun prog w A R s z => ?_
  obtain ⟨hp, gn, dp, tk, os⟩ := s
  obtain ⟨z1, z2⟩ := z
  have hsub := sub_enumerate
  have it1 : ∀ {A1 : Around} {E1 : Value → Shared → Prop} {Q1 : Value → Shared → Prop}, Q1 (.ref hp.objs.size) ⟨hp.push o, gn, dp, tk, os⟩ → wpAny (model prog w) A1 (pyIter v) Q1 E1 ⟨hp, gn, dp, tk, os⟩ := by
    intro A1 E1 Q1 q
    exact B.iter prog w _ _ ⟨hp, gn, dp, tk, os⟩ _ z1 q
  wp_walk using it1
  refine wpAny_stack_any fun stk => wpAny_pure ?_
  split
  next c _ _ _ _ _ => cases (c == Value.type "enumerate") <;> (wp_walk using it1) <;> exact ⟨_, rfl, z2⟩
  next => (wp_walk using it1) <;> exact ⟨_, rfl, z2⟩
theorem call_enumB {prog : Program} {w : World} {A : Around} {E : Value → Shared → Prop} {s : Shared} {v : Value} {o : Obj} {H : Heap → Prop} {Q : Value → Shared → Prop} (B : Begins v o H) (z : H s.heap)
    (q : ∀ h', IsEnum h' (s.heap.objs.size + 1) s.heap.objs.size 0 .none → h'.get? s.heap.objs.size = some o → (∀ b u, s.heap.get? b = some u → h'.get? b = some u) → Q (.ref (s.heap.objs.size + 1)) { s with heap := h' }) :
    wpAny (model prog w) A (call (.type "enumerate") [v]) Q E s := by
  refine callType_new F.called_enumerate (by decide) (F.typeCall_enumerate_1 _) (F.newCall_enumerate_1 _) (fun obj => F.args_object_init_2 obj _) F.entry_enumerate_new (meets_enumB B) ⟨z, ?_⟩
  have n1 : (s.heap.push o).objs.size = s.heap.objs.size + 1 := Heap.size_push ..
  have g0 : (s.heap.push o).get? s.heap.objs.size = some o := Heap.get?_push_size _ B.free
  refine (?_ : _ ∧ _)
  rw [n1]
  have g1 : IsEnum ((s.heap.push o).push { cls := .type "enumerate", data := .fields #[.none, .bool false, .ref s.heap.objs.size, rawInt 0, .none, .none] }) (s.heap.objs.size + 1) s.heap.objs.size 0 .none := by
    rw [← n1]
    exact Heap.get?_push_size _ rfl
  exact ⟨⟨_, g1, rfl⟩, q _ g1 (Heap.get?_push_of_some _ g0) fun b u e => Heap.get?_push_of_some _ (Heap.get?_push_of_some _ e)⟩

/-- the tuple at a, each item in a new pair -/
def IteT (K : PySem.W.Frag) (a : Addr) : It where
  go i H := ∃ (xs : List V) (x : V), SqT K H a xs ∧ xs[i]? = some x
  yld i H v H' := ∃ T x, v = .ref T ∧ H T = none ∧ H' = upd H T (.tup [.int (i : Nat), x]) ∧ ∀ xs, SqT K H a xs → xs[i]? = some x
  stop i H := ∃ xs : List V, SqT K H a xs ∧ xs.length ≤ i
theorem turn_enumT {P : Program} {w : World} {K : PySem.W.Frag} {elts : List Expr} {kk : Nat} {tpos : Pos} (a en it : Addr) (hai : a ≠ it) (hae : a ≠ en) :
    Turn P w K (.Tuple elts kk tpos) (IteT K a) [en, it] en (fun i h => (∃ old, IsEnum h en it ((i : Nat) : Int) old) ∧ h.IsTupleIter it a i ∧ en ≠ it) where
  mem := by simp
  obj i h st b hb := by
    obtain ⟨⟨old, he⟩, ⟨o, ho, hc, hd⟩, _⟩ := st
    rcases (by simpa using hb : b = en ∨ b = it) with rfl | rfl
    · exact ⟨_, he, fun v q => nomatch q⟩
    · exact ⟨o, ho, fun v q => by rw [hd] at q; cases q⟩
  keep i h h' st k := by
    obtain ⟨⟨old, he⟩, hi, hne⟩ := st
    exact ⟨⟨old, k en (by simp) _ he⟩, hi.at fun o q => k it (by simp) o q, hne⟩
  item := by
    rintro X rfl rfl rfl hc i pins s σ H E I hf ⟨⟨old, he⟩, hit, hne⟩ ⟨xs, x, hq, hx⟩
    obtain ⟨its, rv, p, hz⟩ := I.tuple hq
    obtain ⟨u, hu, ru⟩ := rv.get hx
    have l1 : en < s.heap.objs.size := Heap.lt_size he
    have l2 : it < s.heap.objs.size := by
      obtain ⟨_, q, _⟩ := hit
      exact Heap.lt_size q
    have hsz : i < its.toArray.size := by simpa using (List.getElem?_eq_some_iff.mp hu).1
    refine wpAny_pyNext_enum_itemD (Draws.tuple (A := X.A.in1) (I.ok.hd hc) it a hai its.toArray) he ⟨hit, p⟩ hsz hne (by simp [Ne.symm hae, hne]) fun y h' tk hP ho hs' hT hn hk => ?_
    obtain ⟨hit', p'⟩ := hs'
    have hy : y = u := by
      have q1 : its.toArray[i]? = some u := by simpa using hu
      rw [show its.toArray[i]? = some y from hP] at q1
      exact Option.some.inj q1
    subst hy
    refine ⟨_, rfl, wpAny_letOwnedTupleGo_enum (s := { s with heap := h', toks := tk + 1 }) ho fun h'' he' sb => ?_⟩
    have hT2 := (sb.2 _ (Nat.ne_of_gt l1)).trans hT
    have new : ObjOk X.prog X.w (upd H s.heap.objs.size (.tup [.int (i : Nat), x])) h'' s.heap.objs.size (.tup [.int (i : Nat), x]) := by
      refine ⟨by show 2 ≤ sizeLine; decide, [.int i tk, y], .cons ⟨_, rfl⟩ (.cons ru .nil), _, hT2, rfl, _, rfl⟩
    have I1 : Inv X pins σ (upd H s.heap.objs.size (.tup [.int (i : Nat), x])) { s with heap := h'', toks := tk + 1 } := by
      refine I.turnedNew (ch := [en, it]) (fun b ob hb q => ?_) hf (Nat.le_refl _) new
      simp only [List.mem_cons, List.not_mem_nil, or_false, not_or] at hb
      exact (sb.2 b hb.1).trans (hk b ob hb.1 hb.2 q)
    refine ⟨.ref s.heap.objs.size, _, I1, rfl, ⟨_, x, rfl, I.hok.fresh (Nat.le_refl _), rfl, fun ys hy => by rw [I.tuple_inj hy hq]; exact hx⟩, ⟨⟨y, ?_⟩, hit'.at fun o q => (sb.2 it (Ne.symm hne)).trans q, hne⟩, fun b hb => ?_⟩
    · rw [show ((i + 1 : Nat) : Int) = (i : Int) + 1 by omega]
      exact he'
    · have hb' : b < s.heap.objs.size := by
        rcases (by simpa using hb : b = en ∨ b = it) with rfl | rfl
        · exact l1
        · exact l2
      rw [upd_ne (Nat.ne_of_lt hb')]
      exact (hf b hb).1
  done := by
    rintro X rfl rfl rfl hc i pins s σ H E I hf ⟨⟨old, he⟩, hit, hne⟩ ⟨xs, hq, hx⟩
    obtain ⟨its, rv, p, hz⟩ := I.tuple hq
    obtain ⟨f0, f1, f2, f3, f4, f5⟩ := hf it (by simp)
    have hl := rv.length
    have D : Draws X.prog X.w X.A.in1 it [it, a] i (fun _ _ => True) (fun j h => j = i ∧ h.IsTupleIter it a j ∧ h.IsTuple a its.toArray) := by
      have D0 := Draws.tuple (prog := X.prog) (w := X.w) (A := X.A.in1) (I.ok.hd hc) it a hai its.toArray
      exact ⟨fun j h z => D0.live j h z.2, fun j h h' z k => ⟨z.1, D0.frame j h h' z.2 k⟩, fun j s Q E hj z => absurd z.1 (Nat.ne_of_lt hj), fun s Q E z hE => wpAny_nextOf_tuple_end (I.ok.hd hc) z.2.1 z.2.2 (by simp; omega) hE⟩
    exact wpAny_pyNext_enum_endD D he ⟨rfl, hit, p⟩ fun h' eb => ⟨rfl, I.turned (t' := s.toks) (fun b o hb q => eb b o hb q) f0 f1 f3 f4 f5⟩
  self A i s Q E st h := by
    obtain ⟨⟨_, he⟩, _⟩ := st
    exact wpAny_pyIter_enum he h

def iEnumT (K : PySem.W.Frag) (ta : TA) : TI := fun σ H R => ta σ H fun vs H1 => ∃ a xs, vs = [.ref a] ∧ SqT K H1 a xs ∧ R (IteT K a) H1
theorem pi_enumT {X : Cx} {e : Expr} {ta : TA} {p pos tpos : Pos} {elts : List Expr} {kk : Nat} (hg : Gl X "enumerate") (hm : X.mg "enumerate" = none) (ha : PA X [e] ta) (hs : starEach [e] X.env = [(false, eval e X.env)] := by rfl) :
    PI X (.Tuple elts kk tpos) (.Call (.Name "enumerate" p) [e] [] pos) (iEnumT X.K ta) where
  run pins s σ H R I h := by
    refine Call_ (ld_blt I hg hm boot_enumerate (PyProof.Rows.callWith_type1 (thn (ha.run pos pins s σ H _ I h) fun us s1 z => ?_) hs rfl))
    obtain ⟨vs, H1, I1, r1, a, xs, rfl, hq, q⟩ := z
    obtain ⟨u, rfl, r⟩ : ∃ u, us = [u] ∧ RelV (.ref a) u := by
      cases r1 with
      | cons r rr => cases rr; exact ⟨_, rfl, r⟩
    cases r
    obtain ⟨its, rv, p', hz⟩ := I1.tuple hq
    have la : a < s1.heap.objs.size := by
      obtain ⟨o, e, _⟩ := p'
      exact Heap.lt_size e
    refine call_enumB (begins_tuple a its.toArray) p' fun h' he hit hk => wpAny_pyIter_enum he ?_
    have I2 : Inv X pins σ H1 { s1 with heap := h' } := I1.kept (t' := s1.toks) hk
    refine ⟨s1.heap.objs.size + 1, [s1.heap.objs.size + 1, s1.heap.objs.size], _, _, H1, rfl, I2, turn_enumT a _ _ (Nat.ne_of_lt la) (Nat.ne_of_lt (Nat.lt_succ_of_lt la)), ⟨⟨.none, he⟩, ⟨_, hit, rfl, rfl⟩, Nat.succ_ne_self _⟩, fun b hb => ?_, q⟩
    have hle : s1.heap.objs.size ≤ b := by
      rcases (by simpa using hb : b = s1.heap.objs.size + 1 ∨ b = s1.heap.objs.size) with rfl | rfl <;> omega
    exact I1.fpOk hle (I1.hok.fresh hle)
section
variable {X : Cx} {K : PySem.W.Frag} {mg : Glob} {Γ : Ent} {W : WX} {tg e a b : Expr} {m ma mb : EDen} {ms : ADen} {pos p : Pos}
theorem itG_enumT {F : Hp} {ds : List D} {vs : List V} {a : Addr} (hs : ∀ F1 L1 H1 st1, Ex F F1 → Sto K mg F1 L1 H1 st1 → SqT K H1 a vs) (r : RepL K mg F ds vs) : ItG K mg (IteT K a) (numbered ds) F := fun F1 L1 H1 st1 x o => by
  have h := hs F1 L1 H1 st1 x o
  have hl : (numbered ds).length = ds.length := by unfold numbered; rw [List.length_map, List.length_range]
  refine ⟨⟨vs, h, by rw [hl, r.length]; exact Nat.le_refl _⟩, fun i d e => ?_⟩
  obtain ⟨y, ey, rfl⟩ := numbered_get e
  obtain ⟨v, e1, e2⟩ := r.get ey
  refine ⟨⟨vs, v, h, e1⟩, fun z H2 w => ?_⟩
  obtain ⟨T, x', rfl, nT, rfl, q⟩ := w
  have := q vs h
  rw [e1] at this; cases this
  obtain ⟨s2, o2⟩ := o.lay (o := .tup [.int (i : Nat), v]) nT
  exact ⟨_, s2, o2, T, _, rfl, .inl (.inl upd_same), _, _, rfl, rfl, _, _, rfl, Rep.mono s2.ex _ (Rep.mono x _ e2), rfl⟩
/-- enumerate of a list, a tuple -/
def lEnumU (ms : ADen) : LDen := fun ρ st => (ms ρ st).bind fun ds st1 => match ds with
  | [.lst xs] => .ok (numbered xs) st1
  | [.tup xs] => .ok (numbered xs) st1
  | _ => .bad
theorem i_enumU {elts : List Expr} {kk : Nat} {tpos : Pos} (hK : X.K = K) (hm : X.mg "enumerate" = none) (ha : PA X [e] (taG K mg Γ W ms)) (hg : Gl X "enumerate" := by rfl) (hs : starEach [e] X.env = [(false, eval e X.env)] := by rfl) :
    PI X (.Tuple elts kk tpos) (.Call (.Name "enumerate" p) [e] [] pos) (tiG K mg Γ W (lEnumU ms)) := by
  refine pi_imp (pi_or (pi_enum hg hm ha hs) (pi_enumT hg hm ha hs)) fun σ H R z => ?_
  obtain ⟨F, L, ρ, st, rl, q⟩ := z
  have q := q.bind
  cases hd : ms ρ st with
  | bad => rw [hd] at q; exact q.elim
  | exc c fs st' =>
    refine .inl ⟨F, L, ρ, st, rl, ?_⟩
    rw [hd] at q ⊢
    exact q
  | ok ds st' =>
    rw [hd] at q
    by_cases hl : ∃ xs, ds = [.lst xs]
    · obtain ⟨xs, rfl⟩ := hl
      refine .inl ⟨F, L, ρ, st, rl, ?_⟩
      rw [hd]
      intro F1 L1 H1 s o vs kvs
      have q1 := q F1 L1 H1 s o
      obtain ⟨v, r, rfl, kv, rr⟩ := kvs
      cases (show r = [] from rr)
      rcases kv with ⟨_, _, e, _⟩ | ⟨a, vs, rfl, h1, h2⟩
      · cases e
      · rw [hK]
        exact ⟨a, vs, rfl, .inl (.inl (o.ex.lst h1)), q1.here o _ (itG_enum (fun F1 L1 H1 st1 x o1 => .inl (.inl (o1.ex.lst (x _ _ h1)))) h2)⟩
    · refine .inr ⟨F, L, ρ, st, rl, ?_⟩
      rw [hd]
      intro F1 L1 H1 s o vs kvs
      have q1 := q F1 L1 H1 s o
      dsimp only at q1
      split at q1
      · exact absurd ⟨_, rfl⟩ hl
      · obtain ⟨v, r, rfl, kv, rr⟩ := kvs
        cases (show r = [] from rr)
        rcases kv with ⟨_, _, e, _⟩ | ⟨a, vs, rfl, h1, h2⟩
        · cases e
        · rw [hK]
          exact ⟨a, vs, rfl, o.ex.t h1, q1.here o _ (itG_enumT (fun F1 L1 H1 st1 x o1 => o1.ex.t (ex_t x h1)) h2)⟩
      · exact q1.elim
end
end Gh
/-! Gh12: isinstance; instances with an own __bool__, an own __eq__. -/
namespace Gh
open L2 PyProof.Rows PySem.Spec PySem
/-! ### isinstance -/
/-- what isinstance asks of a class of the text -/
structure InsTy (K : PySem.W.Frag) (C : Addr) : Prop where
  cl : Cls K C
  ha : PySem.W.findIn K (.ref C) "__class__" = some (some (.builtin "object.__class__"))
  hn : PySem.W.specialIn K (.builtin "object.__class__") "__get__" = some (some (.builtin "getset_descriptor.__get__"))
  htk : PySem.W.takesIn K (.builtin "object.__class__") = some true
  hm : PySem.W.mroIn K C (.type "object") = some true
inductive Ty where
  | blt (n : String) | own (c : Str)
def tyD (st : Store) : D → Option Ty
  | .non => some (.blt "NoneType")
  | .bl _ => some (.blt "bool")
  | .int _ => some (.blt "int")
  | .str _ => some (.blt "str")
  | .tup _ => some (.blt "tuple")
  | .lst _ => some (.blt "list")
  | .scr _ => some (.blt "list")
  | .dct _ => some (.blt "dict")
  | .ins c _ => some (.own c)
  | .loc n => (match st[n]? with
    | some (.ins c _) => some (.own c)
    | _ => none)
def blts : List String := ["NoneType", "bool", "int", "str", "tuple", "list", "dict"]
/-- is a value of the built-in type n one of the types bs -/
def tyIs (n : String) (bs : List String) : Bool := bs.any fun b => n == b || (n == "bool" && b == "int")
def isiT (bs : List String) (yes no : List Str) : Ty → Option Bool
  | .blt n => some (tyIs n bs)
  | .own c => if c ∈ yes then some true else if c ∈ no then some false else none
def gIsi (bs : List String) (yes no : List Str) : Op1 := fun d st => match tyD st d with
  | some t => (match isiT bs yes no t with
    | some b => .ok (.bl b) st
    | none => .bad)
  | none => .bad
structure IsiOk (K : PySem.W.Frag) (mg : Glob) (kit : Value → Option Bool) (bs : List String) (yes no : List Str) : Prop where
  b : ∀ n ∈ blts, kit (.type n) = some (tyIs n bs)
  y : ∀ c ∈ yes, ∀ C, mg c = some (.ref C) → InsTy K C ∧ kit (.ref C) = some true
  n : ∀ c ∈ no, ∀ C, mg c = some (.ref C) → InsTy K C ∧ kit (.ref C) = some false
section
variable {X : Cx} {K : PySem.W.Frag} {mg : Glob} {Γ : Ent} {W : WX} {e a b : Expr} {es : List Expr} {m ma mb : EDen} {ms : ADen} {pos p p2 p3 : Pos}
theorem ty_rd {H : Hp} {a : Addr} {kv : List (Key × V)} (h : Rd H a (.dK kv)) : TyX K H (.ref a) (.type "dict") := by
  rcases h with h | ⟨o, h⟩
  · exact .base (.dK h)
  · exact .fDict h
theorem ty_l {H : Hp} {a : Addr} {vs : List V} (h : SqL K H a vs) : TyX K H (.ref a) (.type "list") := by
  rcases h with h | ⟨o, its, n, hk, hc, _⟩
  · rcases h with h | ⟨o, h⟩
    · exact .base (.lst h)
    · exact .base (.frz h)
  · exact .kList hk hc
theorem ty_t {H : Hp} {a : Addr} {vs : List V} (h : SqT K H a vs) : TyX K H (.ref a) (.type "tuple") := by
  rcases h with h | ⟨o, its, n, hk, hc, _⟩
  · rcases h with h | ⟨o, h⟩
    · exact .base (.tup h)
    · exact .fTuple h
  · exact .kTuple hk hc
theorem ty_of {kit : Value → Option Bool} {bs : List String} {yes no : List Str} (A : IsiOk K mg kit bs yes no) {F H H0 : Hp} {L : List Addr} {σ : St} {ρ : REnv} {st : Store} {d : D} {v : V} {t : Ty} {r : Bool} (rl : Rl K mg Γ F L σ H ρ st) (kv : kR K mg σ H0 ρ F L H d v)
    (ht : tyD st d = some t) (hr : isiT bs yes no t = some r) : ∃ u, TyX K H v u ∧ kit u = some r := by
  have own : ∀ c fs, (∃ a C dx fv, v = .ref a ∧ mg c = some (.ref C) ∧ H a = some (.ins C dx fv) ∧ RepF K mg F fs fv) → t = .own c → ∃ u, TyX K H v u ∧ kit u = some r := by
    rintro c fs ⟨a, C, dx, fv, rfl, h1, h2, _⟩ rfl
    replace hr : (if c ∈ yes then some true else if c ∈ no then some false else none) = some r := hr
    split at hr
    · rename_i hy
      cases hr
      obtain ⟨i, k⟩ := A.y c hy C h1
      exact ⟨_, .base (.ins h2 i.cl i.ha i.hn i.htk i.hm), k⟩
    · split at hr
      · rename_i hy
        cases hr
        obtain ⟨i, k⟩ := A.n c hy C h1
        exact ⟨_, .base (.ins h2 i.cl i.ha i.hn i.htk i.hm), k⟩
      · cases hr
  cases d with
  | non => cases ht; cases hr; cases kv.non rl; exact ⟨_, .base .non, A.b _ (by decide)⟩
  | bl x => cases ht; cases hr; cases kv.bl rl; exact ⟨_, .base (.bl _), A.b _ (by decide)⟩
  | int x => cases ht; cases hr; cases kv.int rl; exact ⟨_, .base (.int _), A.b _ (by decide)⟩
  | str x => cases ht; cases hr; cases kv.str rl; exact ⟨_, .base (.str _), A.b _ (by decide)⟩
  | tup ds => cases ht; cases hr; obtain ⟨a, vs, rfl, h, _⟩ := kv.tup rl; exact ⟨_, ty_t h, A.b _ (by decide)⟩
  | lst ds => cases ht; cases hr; obtain ⟨a, vs, rfl, h, _⟩ := kv.lst rl; exact ⟨_, .base (.lst h), A.b _ (by decide)⟩
  | scr ds => cases ht; cases hr; obtain ⟨a, vs, rfl, h, _⟩ := kv.scr rl; exact ⟨_, ty_l h, A.b _ (by decide)⟩
  | dct ds => cases ht; cases hr; obtain ⟨a, vs, rfl, h, _⟩ := kv.dct rl; exact ⟨_, ty_rd h, A.b _ (by decide)⟩
  | ins c fs =>
    cases ht
    refine own c fs ?_ rfl
    rcases kv with kv | ⟨i, h1, h2⟩
    · exact inst_at rl.sto kv (.inl rfl)
    · obtain ⟨a, g1, _, _, _, C, dx, fv, g2, g3, g4⟩ := rl.so i _ h1
      rw [g1] at h2; cases h2
      exact ⟨a, C, dx, fv, rfl, g2, g3, g4⟩
  | loc n =>
    have ht : (match st[n]? with
      | some (.ins c _) => some (.own c)
      | _ => none) = some t := ht
    split at ht
    · rename_i c fs e
      cases ht
      refine own c fs ?_ rfl
      rcases kv with kv | ⟨i, h1, h2⟩
      · exact inst_at rl.sto kv (.inr ⟨n, rfl, e⟩)
      · obtain ⟨_, _, _, _, _, hs⟩ := rl.so i _ h1
        exact hs.elim
    · cases ht
theorem isi_go {kit : Value → Option Bool} {bs : List String} {yes no : List Str} (A : IsiOk K mg kit bs yes no) {σ : St} {H : Hp} {Q : VK} (h : teV K mg Γ W (e1 (gIsi bs yes no) m) σ H Q) : teR K mg Γ W m σ H fun v H1 => ∃ u r, TyX K H1 v u ∧ kit u = some r ∧ Q (.bl r) H1 := by
  obtain ⟨F, L, ρ, st, rl, q⟩ := h
  refine ⟨F, L, ρ, st, rl, q.bind.imp fun F1 L1 H1 st1 d s o q1 v kv => ?_⟩
  unfold gIsi at q1
  split at q1
  · rename_i t ht
    split at q1
    · rename_i r hr
      obtain ⟨u, z1, z2⟩ := ty_of A (rl.step s o) kv ht hr
      exact ⟨u, r, z1, z2, q1.here o _ (.inr rfl)⟩
    · exact q1.elim
  · exact q1.elim
/-- isinstance(e, c), c one class -/
theorem g_isi {c : V} {u : Value} {bs : List String} {yes no : List Str} (hK : X.K = K) (k : ClsV c u) (A : IsiOk K mg (fun t => PySem.W.kitOne K t u) bs yes no) (hm : X.mg "isinstance" = none) (ha : PE X a (teR K mg Γ W m)) (hc : PE X b (tC c)) (hg : Gl X "isinstance" := by rfl)
    (he : starEach [a, b] X.env = (false, eval a X.env) :: starEach [b] X.env := by rfl) (hs2 : starEach [b] X.env = (false, eval b X.env) :: starEach [] X.env := by rfl) (hpl : (backTo pos (starEach [b] X.env)).any (·.1) = false := by rfl) :
    PE X (.Call (.Name "isinstance" p) [a, b] [] pos) (teV K mg Γ W (e1 (gIsi bs yes no) m)) := by
  refine pe_imp (pe_callB (call_isi (X := X)) hg hm boot_isinstance (pa_cons ha (pa_cons hc pa_nil hs2) he) (by decide) (by decide) he hpl) fun σ H Q h => ?_
  obtain ⟨F, L, ρ, st, rl, q⟩ := isi_go A h
  refine ⟨F, L, ρ, st, rl, q.imp fun F1 L1 H1 st1 d s o q1 v kv => ?_⟩
  obtain ⟨t, r, z1, z2, z3⟩ := q1 v kv
  exact ⟨v, c, t, u, r, rfl, k, by rw [hK]; exact z1, by rw [hK]; exact z2, z3⟩
/-- isinstance(e, (c1, c2)) -/
theorem g_isi2 {c1 c2 : V} {u1 u2 : Value} {b1 b2 : Expr} {kk : Nat} {bs : List String} {yes no : List Str} (hK : X.K = K) (k1 : ClsV c1 u1) (k2 : ClsV c2 u2) (A : IsiOk K mg (fun t => PySem.W.kitAny K t [u1, u2]) bs yes no) (hm : X.mg "isinstance" = none) (ha : PE X a (teR K mg Γ W m)) (hc1 : PE X b1 (tC c1)) (hc2 : PE X b2 (tC c2)) (hg : Gl X "isinstance" := by rfl)
    (he : starEach [a, .Tuple [b1, b2] kk p2] X.env = (false, eval a X.env) :: starEach [.Tuple [b1, b2] kk p2] X.env := by rfl) (hs2 : starEach [.Tuple [b1, b2] kk p2] X.env = (false, eval (.Tuple [b1, b2] kk p2) X.env) :: starEach [] X.env := by rfl) (hpl : (backTo pos (starEach [.Tuple [b1, b2] kk p2] X.env)).any (·.1) = false := by rfl)
    (hs3 : starEach [b1, b2] X.env = (false, eval b1 X.env) :: starEach [b2] X.env := by rfl) (hs4 : starEach [b2] X.env = (false, eval b2 X.env) :: starEach [] X.env := by rfl) :
    PE X (.Call (.Name "isinstance" p) [a, .Tuple [b1, b2] kk p2] [] pos) (teV K mg Γ W (e1 (gIsi bs yes no) m)) := by
  refine pe_imp (pe_callB (call_isiT (X := X)) hg hm boot_isinstance (pa_cons ha (pa_cons (pe_tup (pa_cons hc1 (pa_cons hc2 pa_nil hs4) hs3)) pa_nil hs2) he) (by decide) (by decide) he hpl) fun σ H Q h => ?_
  obtain ⟨F, L, ρ, st, rl, q⟩ := h
  refine ⟨F, L, ρ, st, rl, q.bind.imp fun F1 L1 H1 st1 d s o q1 v kv => ?_⟩
  refine ⟨by show 2 ≤ sizeLine; decide, fun tp ntp => ?_⟩
  unfold gIsi at q1
  split at q1
  · rename_i t ht
    split at q1
    · rename_i r hr
      obtain ⟨s2, o2⟩ := o.lay (o := .tup [c1, c2]) ntp
      have rl2 := (rl.step s o).step s2 o2
      obtain ⟨u, z1, z2⟩ := ty_of A rl2 (kR.step kv s2 (H0' := H1)) ht hr
      exact ⟨v, tp, [c1, c2], u, [u1, u2], r, rfl, upd_same, .cons k1 (.cons k2 .nil), by rw [hK]; exact z1, by rw [hK]; exact z2, q1 _ _ _ s2 o2 _ (.inr rfl)⟩
    · exact q1.elim
  · exact q1.elim
end
/-! ### own __bool__, own __eq__ -/
/-- the classes that cf knows have the def nm, and it promises what cf tells -/
def OwnM (X : Cx) (mg : Glob) (kk : Nat) (nm : Str) (cf : Str → Option CallF) : Prop := ∀ c g C, cf c = some g → mg c = some (.ref C) →
  ∃ f fd ps, PySem.W.findIn X.K (.ref C) nm = some (some (.ref f)) ∧ PySem.W.isFn X.K (.ref f) = true ∧ FnOk X.prog X.w X.K X.mg X.base (L2.CX X.prog X.w) kk f fd ps (spG X.K mg g) ∧ Binds X.K fd ps []
theorem run_at {X : Cx} {A : Around} {kk : Nat} {f : Addr} {fd : FuncData} {ps : List Str} {sp : Sp} {E : XK} {pins : List (Addr × Obj)} {σ : St} {H : Hp} {s : Shared} {Q : VK} {us : List Value} {vs : List V} (F : FnOk X.prog X.w X.K X.mg X.base (L2.CX X.prog X.w) kk f fd ps sp) (hr : Room kk A) (hb : Binds X.K fd ps []) (hx : PassesAt (L2.CX X.prog X.w) X σ E)
    (e0 : Env0 X.prog X.w X.K X.mg X.base A X.stack s H) (I : Inv X pins σ H s) (r : Vals vs us) (h : sp vs H Q E) : wpAny (model X.prog X.w) A (call (.ref f) us) (EP X pins σ Q) X.xe s := by
  have hl : us.length = ps.length := by
    rw [← r.length]
    exact F.len _ _ _ _ h
  have b := hb s us I.kIn (by simpa using hl)
  simp only [List.append_nil] at b
  refine wpAny_call (codeAny_mono (F.run A X.stack s H ⟨us, []⟩ us vs Q E hr e0 b r h) fun z s' hq => ?_)
  match z, hq with
  | .error e, hq => exact hx pins H s e s' I hq
  | .ok (.ret u), hq => exact I.after hq
section
variable {X : Cx} {K : PySem.W.Frag} {mg : Glob} {Γ : Ent} {W : WX} {e a b : Expr} {es : List Expr} {m ma mb : EDen} {ms : ADen} {pos p : Pos} {kk : Nat} {cf : Str → Option CallF}
/-- x's def of the class is asked; its answer is a truth value -/
def askB (cf : Str → Option CallF) (args : List D) (d : D) (st : Store) : RC Bool := match instOf st d with
  | some (c, _) => (match cf c with
    | some g => (noX (g (d :: args) st)).bind fun r st2 => match r with
      | .bl b => .ok b st2
      | _ => .bad
    | none => .bad)
  | none => .bad
def tOwn (cf : Str → Option CallF) (m : EDen) : TDen := fun ρ st => (m ρ st).bind fun d st1 => askB cf [] d st1
def eOwn (cf : Str → Option CallF) (m : EDen) : EDen := fun ρ st => (m ρ st).bind fun d st1 => (askB cf [] d st1).bind fun b st2 => .ok (.bl b) st2
/-- what is asked of the heap and of what follows -/
def rAsk (X : Cx) (kk : Nat) (nm : Str) (args : List V) : V → Hp → (Bool → Hp → Prop) → Prop := fun x H Q => ∃ a C dx fs f fd ps sp, x = .ref a ∧ H a = some (.ins C dx fs) ∧ PySem.W.findIn X.K (.ref C) nm = some (some (.ref f)) ∧ PySem.W.isFn X.K (.ref f) = true ∧
  FnOk X.prog X.w X.K X.mg X.base (L2.CX X.prog X.w) kk f fd ps sp ∧ Binds X.K fd ps [] ∧ sp (x :: args) H (fun v H' => ∃ b, v = .bl b ∧ Q b H') (fun _ _ _ => False)
theorem no_pass {X : Cx} {σ : St} (tk : Takes X W0) : PassesAt (L2.CX X.prog X.w) X σ (fun _ _ _ => False) := passAt tk σ
theorem truR_own (hr : Room kk X.A) (tk : Takes X W0) : TruR X (rAsk X kk "__bool__" []) := by
  rintro pins s σ H x v Q I rx ⟨a, C, dx, fs, f, fd, ps, sp, rfl, ha, hf, hi, F, hb, q⟩
  cases rx
  obtain ⟨mA, J, _⟩ := ins_get I.hok ha
  obtain ⟨od, J, _⟩ := J.look
  obtain ⟨m, hF⟩ := I.fr
  refine PySem.W.truthy_K hF I.ok.mod.kin J hf hi (wpAny_mono (run_at (us := [.ref a]) (vs := [.ref a]) F hr hb (no_pass (σ := σ) tk) I.env0 I (.cons rfl .nil) q) (fun r s' z => ?_) fun _ _ y => y)
  obtain ⟨v, H', I', rz, b, rfl, q'⟩ := z
  cases rz
  exact ⟨H', I', q'⟩
theorem ask_go {nm : Str} (hK : X.K = K) (A : OwnM X mg kk nm cf) {F H : Hp} {L : List Addr} {σ : St} {st : Store} {d : D} {v : V} {ds : List D} {vs : List V} {Q : Bool → Hp → Prop} (o : Sto K mg F L H st) (kv : VRep K mg L F d v) (kvs : VRepL K mg L F ds vs)
    (h : Post K mg W σ F L H (askB cf ds d st) fun F' L' H' _ b => Q b H') : rAsk X kk nm vs v H Q := by
  subst hK
  unfold askB at h
  split at h
  · rename_i c fs e
    split at h
    · rename_i g hg
      obtain ⟨a, C, dx, fv, rfl, h1, h2, h3⟩ := inst_at o kv (instOf_at e)
      obtain ⟨f, fd, ps, z1, z2, z3, z4⟩ := A c g C hg h1
      refine ⟨a, C, dx, fv, f, fd, ps, spG X.K mg g, rfl, h2, z1, z2, z3, z4, F, L, d :: ds, st, o, ⟨_, vs, rfl, kv, kvs⟩, ?_⟩
      refine Post.imp (ok' := fun F' L' H' _ d => ∀ w, VRep X.K mg L' F' d w → ∃ b, w = .bl b ∧ Q b H') (h.bind.noX (σ' := [])) (fun F' L' H' st' r s2 o2 z w kw => ?_)
      split at z
      · cases kw.bl
        exact ⟨_, rfl, z.here o2⟩
      · exact z.elim
    · exact h.elim
  · exact h.elim
theorem g_trOwn (hK : X.K = K) (A : OwnM X mg kk "__bool__" cf) (hr : Room kk X.A) (tk : Takes X W0) (h : PE X a (teV K mg Γ W m)) (he : ∀ whole, isTrue a X.env whole = (do let v ← whole; standAt a.pos; holding [v] (truthy v)) := by intro _; rfl) : PT X a (ttG K mg Γ W (tOwn cf m)) := by
  refine pt_imp (pt_truthR h (truR_own hr tk) he) fun σ H Q ⟨F, L, ρ, st, rl, p⟩ => ⟨F, L, ρ, st, rl, p.bind.imp fun F1 L1 H1 st1 d s o p1 v kv => ?_⟩
  exact ask_go (vs := []) (ds := []) hK A o kv rfl p1
/-- == by an own __eq__ -/
def gOwnEq (cf : Str → Option CallF) : Op2 := fun x y st => (askB cf [y] x st).bind fun b st2 => .ok (.bl b) st2
/-- no class of the right ones is a subclass of a left one with another def -/
def NotF (X : Cx) (mg : Glob) (cf : Str → Option CallF) (cs : List Str) : Prop := ∀ c g C, cf c = some g → mg c = some (.ref C) → ∀ c' ∈ cs, ∀ C', mg c' = some (.ref C') → PySem.W.notFirst X.K C (.ref C') = true
def insIn (cs : List Str) (st : Store) (d : D) : Bool := match instOf st d with
  | some (c, _) => decide (c ∈ cs)
  | none => false
/-- .. the right one an instance of a class of cs -/
def gEqI (cf : Str → Option CallF) (cs : List Str) : Op2 := fun x y st => if insIn cs st y = true then gOwnEq cf x y st else .bad
def rEqI (X : Cx) (kk : Nat) : R2 := fun x y H Q => rAsk X kk "__eq__" [y] x H (fun b H' => Q (.bl b) H') ∧ ∃ a b C dx fs C' dx' fs', x = .ref a ∧ y = .ref b ∧ H a = some (.ins C dx fs) ∧ H b = some (.ins C' dx' fs') ∧ PySem.W.notFirst X.K C (.ref C') = true
theorem op_eqI (hr : Room kk X.A) (tk : Takes X W0) : OpR X (compareOp .Eq) (rEqI X kk) := by
  rintro pins s σ H x y v u Q I rx ry ⟨⟨a, C, dx, fs, f, fd, ps, sp, rfl, ha, hf, hi, F, hb, q⟩, a', b', C2, dx2, fs2, C3, dx3, fs3, e1, rfl, hA, hB, nf⟩
  cases e1
  rw [ha] at hA; cases hA
  cases rx
  cases ry
  obtain ⟨mA, J, _⟩ := ins_get I.hok ha
  obtain ⟨mB, J', _⟩ := ins_get I.hok hB
  obtain ⟨od, J, _⟩ := J.look
  obtain ⟨od', J', _⟩ := J'.look
  obtain ⟨m, hF⟩ := I.fr
  refine PySem.W.cmp_K (op := .Eq) (tb := .ref C3) hr.units0 hF I.ok.mod.kin J J'.type nf hf hi (wpAny_mono (run_at (us := [.ref a, .ref b']) (vs := [.ref a, .ref b']) F hr hb (no_pass (σ := σ) tk) I.env0 I (.cons rfl (.cons rfl .nil)) q) (fun r s' z => ?_) fun _ _ y => y)
  obtain ⟨v, H', I', rz, b, rfl, q'⟩ := z
  cases rz
  exact ⟨.bl b, H', I', rfl, q'⟩
theorem g_eqI {cs : List Str} (hK : X.K = K) (A : OwnM X mg kk "__eq__" cf) (nf : NotF X mg cf cs) (hr : Room kk X.A) (tk : Takes X W0) (ha : PE X a (teV K mg Γ W ma)) (hb : PE X b (teV K mg Γ W mb)) (hm : behindInMarks .Eq b = false := by rfl) :
    PE X (.Compare a [.Eq] [b] pos) (teV K mg Γ W (e2 (gEqI cf cs) ma mb)) := by
  refine pe_imp (pe_cmpR (op_eqI hr tk) ha hb hm) fun σ H Q ⟨F, L, ρ, st, rl, q⟩ => ⟨F, L, ρ, st, rl, q.bind.imp fun F1 L1 H1 st1 d s o q1 v kv => ⟨F1, L1, ρ, st1, rl.step s o, q1.bind.imp fun F2 L2 H2 st2 y s2 o2 q2 u ku => ?_⟩⟩
  unfold gEqI at q2
  split at q2
  · rename_i hin
    unfold insIn at hin
    split at hin
    · rename_i c fs ey
      have kx := s2.vrep kv
      have q3 : Post K mg W σ F2 L2 H2 (askB cf [y] d st2) (fun F' L' H' _ b => Q (.bl b) H') := Post.imp (Post.bind (f := fun b st2 => RC.ok (D.bl b) st2) q2) fun F' L' H' st' r s3 o3 z => z.here o3 _ (.inr rfl)
      refine ⟨ask_go (ds := [y]) (vs := [u]) hK A o2 kx ⟨u, [], rfl, ku, rfl⟩ q3, ?_⟩
      obtain ⟨b, C', dx', fv', rfl, g1, g2, g3⟩ := inst_at o2 ku (instOf_at ey)
      unfold askB at q3
      split at q3
      · rename_i c1 fs1 e1
        split at q3
        · rename_i g hg
          obtain ⟨a, C, dx, fv, rfl, h1, h2, h3⟩ := inst_at o2 kx (instOf_at e1)
          exact ⟨a, b, C, dx, fv, C', dx', fv', rfl, rfl, h2, g2, nf c1 g C hg h1 c (by simpa using hin) C' g1⟩
        · exact q3.elim
      · exact q3.elim
    · cases hin
  · exact q2.elim
/-! bool(x), x an instance with an own __bool__ -/
theorem bool_at {prog : Program} {w : World} {A : Around} {E : Value → Shared → Prop} {s : Shared} {x : Value} {Q : Bool → Shared → Prop}
    (h : wpAny (model prog w) A.in1.in1 (truthy x) Q E s) : wpAny (model prog w) A (call (.type "bool") [x]) (fun r s' => ∃ b, r = .bool b ∧ Q b s') E s := by
  refine callType_codes (T := "bool") (Bi := Builtin.«object.__init__») (Q₁ := fun r s₁ => ∃ b, r = Value.bool b ∧ Q b s₁) PySem.F.called_bool (PySem.F.typeCall_bool_1 _) PySem.F.entry_object_init ?_ ?_
  · refine codeAny_of_tree ?_
    show wpAny _ A.in1.in1 (do checkBuiltinCall "bool.__new__" ⟨[.type "bool", x], []⟩; again (.builtin "bool.__new__" ⟨[.type "bool", x], []⟩)) _ _ s
    refine wpAny_bind (wpAny_of_eq (PySem.F.newCall_bool_1 _) (wpAny_pure ⟨plainId_quiet (by decide +kernel) _, codeAny_builtin PySem.F.entry_bool_new ?_⟩))
    rw [Around.under_plainId (by decide +kernel) _]
    unfold Builtin.«bool.__new__»
    refine wpAny_bind (wpAny_of_eq (a := true) (by first | rfl | kernel_rfl) ?_)
    refine PySem.W.KFB.if_not rfl ?_
    refine wpAny_bind (wpAny_of_eq (a := true) PySem.F.conv_sub_bool ?_)
    refine PySem.W.KFB.if_not rfl ?_
    refine wpAny_bind (m := someArgs "bool" 0 1 _) (wpAny_of_eq (a := [x]) (by first | rfl | kernel_rfl) ?_)
    exact wpAny_bind (wpAny_mono h (fun b s' q => wpAny_pure ⟨b, rfl, q⟩) fun _ _ y => y)
  · rintro obj s₁ ⟨b, rfl, hq⟩
    exact ⟨rfl, PySem.F.args_object_init_2 _ _, object_init_meets PySem.F.called_bool.init.lookup PySem.F.called_bool.made (by decide) prog w A.in1 _ s₁ ⟨rfl, rfl, b, rfl, hq⟩⟩
theorem call_boolOwn (hr : Room (kk + 2) X.A) (tk : Takes X W0) : CallR X (.type "bool") (fun xs H Q => ∃ x, xs = [x] ∧ rAsk X kk "__bool__" [] x H (fun b H' => Q (.bl b) H')) := by
  rintro pins s σ H xs us Q I r ⟨x, rfl, a, C, dx, fs, f, fd, ps, sp, rfl, ha, hf, hi, F, hb, q⟩
  obtain ⟨u, rfl, ru⟩ := vals1 r
  cases ru
  obtain ⟨mA, J, _⟩ := ins_get I.hok ha
  obtain ⟨od, J, _⟩ := J.look
  obtain ⟨m, hF⟩ := I.fr
  have hr2 : Room kk X.A.in1.in1 := (show Room (kk + 1) X.A.in1 from Room.in1 hr).in1
  have z := PySem.W.truthy_K (M := model X.prog X.w) (A := X.A.in1.in1) (E := X.xe) (Q := fun b s' => ∃ H', Inv X pins σ H' s' ∧ Q (.bl b) H') hF I.ok.mod.kin J hf hi (wpAny_mono (run_at (us := [.ref a]) (vs := [.ref a]) F hr2 hb (no_pass (σ := σ) tk) I.env0.in1.in1 I (.cons rfl .nil) q) (fun r s' z => by
    obtain ⟨v, H', I', rz, b, rfl, q'⟩ := z
    cases rz
    exact ⟨H', I', q'⟩) fun _ _ y => y)
  refine wpAny_mono (bool_at z) (fun r s' z => ?_) fun _ _ y => y
  obtain ⟨b, rfl, H', I', q'⟩ := z
  exact ⟨.bl b, H', I', rfl, q'⟩
theorem g_boolOwn (hK : X.K = K) (A : OwnM X mg kk "__bool__" cf) (hr : Room (kk + 2) X.A) (tk : Takes X W0) (hm : X.mg "bool" = none) (h : PE X a (teV K mg Γ W m)) (hg : Gl X "bool" := by rfl) (he : starEach [a] X.env = (false, eval a X.env) :: starEach [] X.env := by rfl) (hpl : (backTo pos (starEach [] X.env)).any (·.1) = false := by rfl) :
    PE X (.Call (.Name "bool" p) [a] [] pos) (teV K mg Γ W (eOwn cf m)) := by
  refine pe_imp (pe_callTy (call_boolOwn hr tk) hg hm (by decide +kernel) (pa_cons h pa_nil he) (by decide) (by decide) he hpl) fun σ H Q ⟨F, L, ρ, st, rl, p⟩ => ⟨F, L, ρ, st, rl, p.bind.imp fun F1 L1 H1 st1 d s o p1 v kv => ?_⟩
  exact ⟨v, rfl, ask_go (vs := []) (ds := []) hK A o kv rfl (Post.imp (Post.bind (f := fun b st2 => RC.ok (D.bl b) st2) p1) fun F' L' H' st' r s3 o3 z => z.here o3 _ (.inr rfl))⟩
end
end Gh
/-! Gh13: truth values compared; lists of the store; several targets. -/
namespace Gh
open L2 PyProof.Rows PySem.Spec PySem
section
variable {X : Cx} {K : PySem.W.Frag} {mg : Glob} {Γ : Ent} {W : WX} {e a b tg : Expr} {es : List Expr} {m ma mb mo mi me : EDen} {ms : ADen} {pos p p2 tpos : Pos} {k : Kd}
/-! ### numbers and truth values by order -/
def numOf : D → Option Int
  | .int i => some i
  | .bl b => some (if b then 1 else 0)
  | _ => none
def gLtB : Op2 := fun x y st => match x, y with
  | .bl p, .bl q => .ok (.bl (!p && q)) st
  | _, _ => .bad
theorem op_ltB : OpR X (compareOp .Lt) (fun x y H Q => ∃ p q, x = .bl p ∧ y = .bl q ∧ Q (.bl (!p && q)) H) := by
  rintro pins s σ H x y v u Q I rx ry ⟨c, d, rfl, rfl, q⟩
  cases rx
  cases ry
  refine lt_bool ⟨.bl _, H, I, rfl, ?_⟩
  cases c <;> cases d <;> exact q
theorem sem_ltB : Sem2 kV K mg gLtB (fun x y H Q => ∃ p q, x = .bl p ∧ y = .bl q ∧ Q (.bl (!p && q)) H) := by
  intro Γ W F L σ H ρ st x y v u Q rl kx ky q
  unfold gLtB at q
  split at q
  · exact ⟨_, _, kx.bl rl, ky.bl rl, q.here rl.sto _ (.inr rfl)⟩
  · exact q.elim
/-! ### a list laid into the store -/
def eAlloc (m : EDen) : EDen := fun ρ st => (m ρ st).bind fun d st1 => .ok (.loc st1.length) (st1 ++ [d])
theorem Stp.withO {F H F1 H1 : Hp} {L L1 : List Addr} {a : Addr} (s : Stp F L H F1 L1 H1) (n : H a = none) : Stp F L H F1 (L1 ++ [a]) H1 := by
  refine ⟨s.ex, ?_, fun b u h nb => ?_⟩
  · obtain ⟨M, e⟩ := s.pre
    exact ⟨M ++ [a], by rw [e, List.append_assoc]⟩
  · obtain ⟨h1, h2, h3⟩ := s.kp b u h nb
    refine ⟨h1, h2, fun z => ?_⟩
    rcases List.mem_append.mp z with z | z
    · exact h3 z
    · have z : b = a := by simpa using z
      rw [z, n] at h; cases h
theorem g_alloc (h : PE X e (teO K mg Γ W m)) : PE X e (teV K mg Γ W (eAlloc m)) := by
  refine pe_imp h fun σ H Q ⟨F, L, ρ, st, rl, q⟩ => ⟨F, L, ρ, st, rl, ?_⟩
  unfold eAlloc at q
  cases hd : m ρ st with
  | bad => rw [hd] at q; exact q.elim
  | exc c fs st' => rw [hd] at q; exact q
  | ok d st1 =>
    rw [hd] at q
    intro F1 L1 H1 s o v kv
    obtain ⟨a, rfl, n, nF, nL, hs⟩ := kv
    exact q _ _ _ (s.withO n) (o.add hs nF nL) _ (.inl ⟨st1.length, a, rfl, by rw [← o.len]; simp, rfl⟩)
/-- o[i] op= e, o a list of the store -/
def sAugI (mo mi : EDen) (g : Op2) (me : EDen) : SDen := fun ρ st => (mo ρ st).s ρ fun o st1 => (mi ρ st1).s ρ fun i st2 => match o, i with
  | .loc n, .int k => (match st2[n]? with
    | some (.lst ds) => (match atI ds k with
      | some x => if 0 ≤ k ∧ k < 1000000 then (me ρ st2).s ρ fun y st3 => (g x y st3).s ρ fun z st4 => if isLoc z = false then (match st4[n]? with
        | some (.lst es) => (match ixN es.length k with
          | some j => .nx ρ (st4.set n (.lst (es.set j z)))
          | none => .bad)
        | _ => .bad) else .bad else .bad
      | none => .bad)
    | _ => .bad)
  | _, _ => .bad
theorem pget_list : PGet X (fun o i H Q => ∃ p xs k v, o = .ref p ∧ i = .int k ∧ SqL X.K H p xs ∧ 0 ≤ k ∧ k < 1000000 ∧ atI xs k = some v ∧ Q v H) := by
  rintro pins s σ H x y v u Q I rx ry ⟨p, xs, k, z, rfl, rfl, hq, h0, h1, he, q⟩
  cases rx
  obtain ⟨t, rfl⟩ := ry
  obtain ⟨its, r, pl, hz⟩ := I.list hq
  obtain ⟨j, g1, g2, g3, g4, g5⟩ := atI_get he
  obtain ⟨w, ew, rw'⟩ := r.get g2
  have hj : k.toNat = j := by
    rw [seqIndex_of h0 g5] at g1
    exact Option.some.inj g1
  exact wpAny_getItem_list pl.isList h0 (by omega) (by rw [hj]; simpa using ew) ⟨z, H, I, rw', q⟩
theorem s_augI {o i : Expr} {op : Operator} {r : R2} {g : Op2} (hK : X.K = K) (ho : PE X o (teV K mg Γ W mo)) (hi : PE X i (teV K mg Γ W mi)) (he : PE X e (teV K mg Γ W me)) (hop : OpR X (inplaceOp op) r) (hsem : Sem2 kV K mg g r)
    (ha : ∀ ov iv new, augStore i ov iv new = (do holding [new, ov, iv] (setItem ov iv new); release [new, ov, iv] []; pure .next) := by intros; rfl) : PS X (.AugAssign (.Subscript o i tpos) op e pos) (tsG K mg Γ W (sAugI mo mi g me)) := by
  refine ps_imp (ps_augS (tip := r) ho hi pget_list he (fun pins s σ H x y v u Q I r r2 q => hop pins s σ H x y v u Q I r r2 q) set_list ha) fun D' σ H z => ?_
  obtain ⟨F, L, ρ, st, rl, q⟩ := z
  refine ⟨F, L, ρ, st, rl, (SPost.s q rl).imp fun F1 L1 H1 st1 od s1 o1 q1 ov ko => ?_⟩
  have rl1 := rl.step s1 o1
  refine ⟨F1, L1, ρ, st1, rl1, (SPost.s q1 rl1).imp fun F2 L2 H2 st2 idd s2 o2 q2 iv ki => ?_⟩
  have rl2 := rl1.step s2 o2
  split at q2
  · rename_i n k'
    split at q2
    · rename_i ds e
      split at q2
      · rename_i x ex
        obtain ⟨a, hL, rfl⟩ := (s2.vrep ko).loc
        cases ki.int
        obtain ⟨nF, vs, hv, hr⟩ := o2.at_ n a _ hL e
        obtain ⟨xv, exv, hx⟩ := atI_rep hr ex
        split at q2
        · rename_i hk
          refine ⟨a, vs, k', xv, rfl, rfl, .inl (.inl hv), hk.1, hk.2, exv, F2, L2, ρ, st2, rl2, (SPost.s q2 rl2).imp fun F3 L3 H3 st3 y s3 o3 q3 yv ky => ?_⟩
          have rl3 := rl2.step s3 o3
          refine hsem Γ W F3 L3 σ H3 ρ st3 x y xv yv _ rl3 (.inl (.inr (Rep.mono s3.ex _ hx))) (.inl ky) ((SPost.s q3 rl3).imp fun F4 L4 H4 st4 z s4 o4 q4 zv kz => ?_)
          have rl4 := rl3.step s4 o4
          split at q4
          · rename_i hc
            split at q4
            · rename_i es e4
              split at q4
              · rename_i j hj
                have hL4 : L4[n]? = some a := by
                  obtain ⟨M, e1⟩ := (s3.trans s4).pre
                  rw [e1, List.getElem?_append_left (List.getElem?_eq_some_iff.mp hL).1]
                  exact hL
                obtain ⟨nF4, us, hu, hur⟩ := o4.at_ n a _ hL4 e4
                have rz : Rep K mg F4 z zv := VRep.flat kz hc
                refine ⟨a, us, k', j, rfl, rfl, hu, by rw [← hur.length]; exact hj, ?_⟩
                have o5 := o4.put (d := .lst (es.set j z)) (u := .lst (us.set j zv)) hL4 fun H' h => ⟨_, h, hur.set j rz⟩
                exact q4 F4 L4 σ _ (rl4.step (Stp.put (List.mem_of_getElem? hL4)) o5)
              · exact q4.elim
            · exact q4.elim
          · exact q4.elim
        · exact q2.elim
      · exact q2.elim
    · exact q2.elim
  · exact q2.elim
/-! ### several targets at once -/
abbrev MDen := REnv → Store → RC (List (D × Bool))
/-- (d, false): a value; (d, true): a new list, dict of its own -/
def MixL (K : PySem.W.Frag) (mg : Glob) (Hs F : Hp) (L : List Addr) (H : Hp) : List (D × Bool) → List V → Prop
  | [], vs => vs = []
  | (d, false) :: ds, vs => ∃ v r, vs = v :: r ∧ VRep K mg L F d v ∧ MixL K mg Hs F L H ds r
  | (d, true) :: ds, vs => ∃ a r, vs = .ref a :: r ∧ (Hs a = none ∧ F a = none ∧ a ∉ L ∧ Has K mg F H a d) ∧ (∀ (j : Nat) (d' : D), ds[j]? = some (d', true) → r[j]? ≠ some (V.ref a)) ∧ MixL K mg Hs F L H ds r
theorem MixL.len {Hs F H : Hp} {L : List Addr} : ∀ {ds : List (D × Bool)} {vs : List V}, MixL K mg Hs F L H ds vs → ds.length = vs.length
  | [], vs, h => by
    have h : vs = [] := h
    rw [h] <;> rfl
  | (d, false) :: ds, vs, h => by
    obtain ⟨v, r, rfl, _, h3⟩ := h
    rw [List.length_cons, List.length_cons, h3.len]
  | (d, true) :: ds, vs, h => by
    obtain ⟨v, r, rfl, _, _, h3⟩ := h
    rw [List.length_cons, List.length_cons, h3.len]
theorem MixL.late {Hs Hs' F H : Hp} {L : List Addr} (h0 : ∀ a, Hs a ≠ none → Hs' a ≠ none) : ∀ {ds : List (D × Bool)} {vs : List V}, MixL K mg Hs' F L H ds vs → MixL K mg Hs F L H ds vs
  | [], vs, h => h
  | (d, false) :: ds, vs, h => by
    obtain ⟨v, r, rfl, h1, h3⟩ := h
    exact ⟨v, r, rfl, h1, h3.late h0⟩
  | (d, true) :: ds, vs, h => by
    obtain ⟨v, r, rfl, ⟨h1, h2⟩, h4, h3⟩ := h
    exact ⟨v, r, rfl, ⟨Classical.byContradiction fun z => h0 _ z h1, h2⟩, h4, h3.late h0⟩
theorem MixL.fresh {Hs F H : Hp} {L : List Addr} : ∀ {ds : List (D × Bool)} {vs : List V} {j : Nat} {d : D} {a : Addr}, MixL K mg Hs F L H ds vs → ds[j]? = some (d, true) → vs[j]? = some (.ref a) → Hs a = none
  | [], vs, j, d, a, h, e, e' => by simp at e
  | (d, false) :: ds, vs, 0, d', a, h, e, e' => by simp at e
  | (d, true) :: ds, vs, 0, d', a, h, e, e' => by
    obtain ⟨v, r, rfl, ⟨h1, _⟩, _, _⟩ := h
    have e' : v = a := by simpa using e'
    exact e' ▸ h1
  | (d, false) :: ds, vs, j + 1, d', a, h, e, e' => by
    obtain ⟨v, r, rfl, _, h3⟩ := h
    exact h3.fresh (by simpa using e) (by simpa using e')
  | (d, true) :: ds, vs, j + 1, d', a, h, e, e' => by
    obtain ⟨v, r, rfl, _, _, h3⟩ := h
    exact h3.fresh (by simpa using e) (by simpa using e')
theorem MixL.more {Hs F H H' : Hp} {L : List Addr} (x : ∀ a o, H a = some o → H' a = some o) : ∀ {ds : List (D × Bool)} {vs : List V}, MixL K mg Hs F L H ds vs → MixL K mg Hs F L H' ds vs
  | [], vs, h => h
  | (d, false) :: ds, vs, h => by
    obtain ⟨v, r, rfl, h1, h3⟩ := h
    exact ⟨v, r, rfl, h1, h3.more x⟩
  | (d, true) :: ds, vs, h => by
    obtain ⟨v, r, rfl, ⟨h1, h2, h5, h6⟩, h4, h3⟩ := h
    exact ⟨v, r, rfl, ⟨h1, h2, h5, h6.mono (Ex.refl F) (x v)⟩, h4, h3.more x⟩
def tmG (K : PySem.W.Frag) (mg : Glob) (Γ : Ent) (W : WX) (m : MDen) : TA := fun σ H Q => ∃ F L ρ st, Rl K mg Γ F L σ H ρ st ∧
  Post K mg W σ F L H (m ρ st) fun F' L' H' _ ds => ∀ vs, MixL K mg H F' L' H' ds vs → Q vs H'
def mNil : MDen := fun _ st => .ok [] st
def mVal (m : EDen) (ms : MDen) : MDen := fun ρ st => (m ρ st).bind fun d st1 => (ms ρ st1).bind fun ds st2 => .ok ((d, false) :: ds) st2
def mOwn (m : EDen) (ms : MDen) : MDen := fun ρ st => (m ρ st).bind fun d st1 => (ms ρ st1).bind fun ds st2 => .ok ((d, true) :: ds) st2
theorem m_nil : PA X [] (tmG K mg Γ W mNil) := pa_imp pa_nil fun σ H Q ⟨F, L, ρ, st, rl, q⟩ => q.here rl.sto [] rfl
theorem m_val {ms : MDen} (ha : PE X e (teV K mg Γ W m)) (hr : PA X es (tmG K mg Γ W ms)) (hs : starEach (e :: es) X.env = (false, eval e X.env) :: starEach es X.env := by rfl) : PA X (e :: es) (tmG K mg Γ W (mVal m ms)) := by
  refine pa_imp (pa_cons ha hr hs) fun σ H Q ⟨F, L, ρ, st, rl, q⟩ => ⟨F, L, ρ, st, rl, q.bind.imp fun F1 L1 H1 st1 d s o q1 v kv => ?_⟩
  refine ⟨F1, L1, ρ, st1, rl.step s o, q1.bind.imp fun F2 L2 H2 st2 ds s2 o2 q2 vs kvs => ?_⟩
  exact q2.here o2 (v :: vs) ⟨v, vs, rfl, s2.vrep kv, kvs.late (s.more o)⟩
theorem m_own {ms : MDen} (ha : PE X e (teO K mg Γ W m)) (hr : PA X es (tmG K mg Γ W ms)) (hs : starEach (e :: es) X.env = (false, eval e X.env) :: starEach es X.env := by rfl) : PA X (e :: es) (tmG K mg Γ W (mOwn m ms)) := by
  refine pa_imp (pa_cons ha hr hs) fun σ H Q ⟨F, L, ρ, st, rl, q⟩ => ⟨F, L, ρ, st, rl, q.bind.imp fun F1 L1 H1 st1 d s o q1 v kv => ?_⟩
  refine ⟨F1, L1, ρ, st1, rl.step s o, q1.bind.imp fun F2 L2 H2 st2 ds s2 o2 q2 vs kvs => ?_⟩
  obtain ⟨a, rfl, n, nF, nL, hs⟩ := kv
  obtain ⟨u, hu⟩ := hs.there
  obtain ⟨g1, g2, g3⟩ := s2.kp a u hu nL
  refine q2.here o2 (.ref a :: vs) ⟨a, vs, rfl, ⟨n, g2.trans nF, g3, hs.mono s2.ex fun w z => (s2.kp a w z nL).1⟩, fun j d' e1 e2 => ?_, kvs.late (s.more o)⟩
  rw [kvs.fresh e1 e2] at hu; cases hu
def setR (ρ : REnv) : List Nat → List (D × Bool) → REnv
  | i :: is, (d, true) :: ds => setR (ρ.set i (.own d)) is ds
  | i :: is, (d, false) :: ds => setR (ρ.set i (.val d)) is ds
  | _, _ => ρ
def setAll (σ : St) : List Nat → List V → St
  | i :: is, v :: vs => setAll (σ.set i (some v)) is vs
  | _, _ => σ
theorem Rl.setAll {Hs F H : Hp} {L : List Addr} {st : Store} (n0 : ∀ a, Hs a = none → Γ.H0 a = none) : ∀ (is : List Nat) {σ : St} {ρ : REnv} {ds : List (D × Bool)} {vs : List V}, Rl K mg Γ F L σ H ρ st → MixL K mg Hs F L H ds vs →
    (∀ (i : Nat) (d : D) (b : Addr), ρ[i]? = some (Sl.own d) → σ[i]? = some (some (V.ref b)) → ∀ (j : Nat) (d' : D), ds[j]? = some (d', true) → vs[j]? ≠ some (V.ref b)) → Rl K mg Γ F L (Gh.setAll σ is vs) H (setR ρ is ds) st
  | [], σ, ρ, ds, vs, rl, h, ne => by
    have e : setR ρ [] ds = ρ := by cases ds <;> rfl
    have e2 : Gh.setAll σ [] vs = σ := by cases vs <;> rfl
    rw [e, e2]; exact rl
  | i :: is, σ, ρ, [], vs, rl, h, ne => by
    have h : vs = [] := h
    subst h
    exact rl
  | i :: is, σ, ρ, (d, false) :: ds, vs, rl, h, ne => by
    obtain ⟨v, r, rfl, h1, h3⟩ := h
    refine Rl.setAll n0 is (rl.setV i h1) h3 fun k e b k1 k2 j d' j1 => ?_
    rcases set_get k1 with ⟨_, q, _⟩ | ⟨n, q⟩
    · cases q
    · rw [List.getElem?_set_ne (Ne.symm n)] at k2
      have := ne k e b q k2 (j + 1) d' (by simpa using j1)
      simpa using this
  | i :: is, σ, ρ, (d, true) :: ds, vs, rl, h, ne => by
    obtain ⟨a, r, rfl, ⟨h1, h2, h5, h6⟩, h4, h3⟩ := h
    refine Rl.setAll n0 is (rl.setO i h2 h5 (n0 a h1) h6 fun j e q => fun z => ne j e a q z 0 d rfl rfl) h3 fun k e b k1 k2 j d' j1 => ?_
    rcases set_get k1 with ⟨hki, q, hl⟩ | ⟨n, q⟩
    · subst hki
      rw [List.getElem?_set_self (by rw [← rl.len]; exact hl)] at k2
      cases k2
      exact h4 j d' j1
    · rw [List.getElem?_set_ne (Ne.symm n)] at k2
      have := ne k e b q k2 (j + 1) d' (by simpa using j1)
      simpa using this
end
end Gh
/-! Gh14: statements with several targets. -/
namespace Gh
open L2 PyProof.Rows PySem.Spec PySem
section
variable {X : Cx} {K : PySem.W.Frag} {mg : Glob} {Γ : Ent} {W : WX} {e a b c tg : Expr} {es ts : List Expr} {m ma mb mo mi me : EDen} {ms : MDen} {pos p p2 tpos px py pz pt pt2 : Pos} {k : Kd} {kt k2 : Nat} {vs ws : List Nat} {bd : BDen}
def sPar (is : List Nat) (m : MDen) : SDen := fun ρ st => (m ρ st).s ρ fun ds st' => if ds.length = is.length then .nx (setR ρ is ds) st' else .bad
/-- from the outcome of the values to the slots -/
theorem par_go {D' : Ends} {σ : St} {H : Hp} {is : List Nat} (h : tsG K mg Γ W (sPar is ms) D' σ H) : tmG K mg Γ W ms σ H fun vs H1 => vs.length = is.length ∧ (∀ p u, H1 p = none → D'.nx (setAll σ is vs) (upd H1 p u)) ∧ D'.nx (setAll σ is vs) H1 := by
  obtain ⟨F, L, ρ, st, rl, q⟩ := h
  refine ⟨F, L, ρ, st, rl, (SPost.s q rl).imp fun F1 L1 H1 st1 ds s o q1 vs kvs => ?_⟩
  split at q1
  · rename_i hl
    have rl1 := rl.step s o
    have fin : ∀ H2, Rl K mg Γ F1 L1 σ H2 ρ st1 → MixL K mg H F1 L1 H2 ds vs → D'.nx (setAll σ is vs) H2 := fun H2 r2 k2 => by
      refine q1 F1 L1 _ H2 (r2.setAll (Hs := H) (fun a n => rl.new0 n) is k2 fun i d b e1 e2 j d' j1 j2 => ?_)
      obtain ⟨a, g1, _, _, _, hh⟩ := rl.so i d e1
      rw [g1] at e2
      cases e2
      obtain ⟨u, hu⟩ := hh.there
      rw [k2.fresh j1 j2] at hu; cases hu
    refine ⟨by rw [← kvs.len]; exact hl, fun p u np => fin _ (rl1.step (Stp.fresh np) (o.fresh np)) (kvs.more fun a w z => by rw [upd_ne (ne_of_none z np)]; exact z), fin H1 rl1 kvs⟩
  · exact q1.elim
theorem s_par2 {i j : Nat} {x y : Str} (hc : X.calm = true) (hN : X.N.Nodup) (ha : PA X [a, b] (tmG K mg Γ W ms)) (hi : X.N[i]? = some x := by rfl) (hj : X.N[j]? = some y := by rfl) (hij : i ≠ j := by decide) (hx : X.env.scope.names.lookup x = some .local := by rfl) (hy : X.env.scope.names.lookup y = some .local := by rfl)
    (hw : swappedStores [.Tuple [.Name x px, .Name y py] kt pt] (.Tuple [a, b] k2 pt2) X.env = pure (some [x, y]) := by rfl) (hs : swapsWithSole [.Tuple [.Name x px, .Name y py] kt pt] (.Tuple [a, b] k2 pt2) pos.line X.env = pure false := by rfl) :
    PS X (.Assign [.Tuple [.Name x px, .Name y py] kt pt] (.Tuple [a, b] k2 pt2) pos) (tsG K mg Γ W (sPar [i, j] ms)) := by
  refine ps_imp (ps_par hc hN hi hj hij hx hy ha hw hs) fun D' σ H h => ?_
  obtain ⟨F, L, ρ, st, rl, q⟩ := par_go h
  refine ⟨F, L, ρ, st, rl, q.imp fun F1 L1 H1 st1 ds s o q1 vs kvs => ?_⟩
  obtain ⟨hl, _, q2⟩ := q1 vs kvs
  match vs, hl, q2 with
  | [v, u], _, q2 => exact ⟨v, u, rfl, q2⟩
theorem s_par3 {i j l : Nat} {x y z : Str} (hc : X.calm = true) (hN : X.N.Nodup) (ha : PA X [a, b, c] (tmG K mg Γ W ms)) (hi : X.N[i]? = some x := by rfl) (hj : X.N[j]? = some y := by rfl) (hl : X.N[l]? = some z := by rfl) (hij : i ≠ j := by decide) (hil : i ≠ l := by decide) (hjl : j ≠ l := by decide)
    (hx : X.env.scope.names.lookup x = some .local := by rfl) (hy : X.env.scope.names.lookup y = some .local := by rfl) (hz : X.env.scope.names.lookup z = some .local := by rfl)
    (hw : swappedStores [.Tuple [.Name x px, .Name y py, .Name z pz] kt pt] (.Tuple [a, b, c] k2 pt2) X.env = pure (some [x, y, z]) := by rfl) (hs : swapsWithSole [.Tuple [.Name x px, .Name y py, .Name z pz] kt pt] (.Tuple [a, b, c] k2 pt2) pos.line X.env = pure false := by rfl) :
    PS X (.Assign [.Tuple [.Name x px, .Name y py, .Name z pz] kt pt] (.Tuple [a, b, c] k2 pt2) pos) (tsG K mg Γ W (sPar [i, j, l] ms)) := by
  refine ps_imp (ps_par3 hc hN hi hj hl hij hil hjl hx hy hz ha hw hs) fun D' σ H h => ?_
  obtain ⟨F, L, ρ, st, rl, q⟩ := par_go h
  refine ⟨F, L, ρ, st, rl, q.imp fun F1 L1 H1 st1 ds s o q1 vs kvs => ?_⟩
  obtain ⟨hl, _, q2⟩ := q1 vs kvs
  match vs, hl, q2 with
  | [v, u, w], _, q2 => exact ⟨v, u, w, rfl, q2⟩
/-- any number of plain names -/
def gAll' (is : List Nat) : TGs := fun vs σ H Q => vs.length = is.length ∧ Q (setAll σ is vs) H
theorem n_nil : PGs X [] (gAll' []) := pgs_imp pgs_nil fun vs σ H Q ⟨h1, h2⟩ => by
  have e : vs = [] := by simpa using h1
  subst e
  exact ⟨rfl, h2⟩
theorem n_cons {x : Str} {is : List Nat} (i : Nat) (hN : X.N.Nodup) (h2 : PGs X es (gAll' is)) (hi : X.N[i]? = some x := by rfl) (hx : Loc X.env.scope x := by first | exact Or.inl rfl | exact Or.inr rfl) (hf : X.fn x = true ∨ X.env.scope.names.lookup x = some .local := by first | exact .inl rfl | exact .inr rfl | assumption)
    (hs : (assignEach (.Name x pos :: es) X.env).map (·.2) = assign (.Name x pos) X.env :: (assignEach es X.env).map (·.2) := by rfl) : PGs X (.Name x pos :: es) (gAll' (i :: is)) := by
  refine pgs_imp (pgs_cons (pg_name hN hi hx hf) h2 hs) fun vs σ H Q ⟨h1, h3⟩ => ?_
  match vs, h1, h3 with
  | v :: r, h1, h3 => exact ⟨v, r, rfl, by simpa using h1, h3⟩
theorem s_parN {is : List Nat} {x1 : Nat} (hK : X.K = K) (hc : X.calm = true) (ha : PA X es (tmG K mg Γ W ms)) (h : PGs X ts (gAll' is)) (hl9 : is.length < 100) (hn : (assignEach ts X.env).length = is.length := by rfl) (hst : (assignEach ts X.env).findIdx? (·.1) = none := by rfl)
    (hs : swapsWithSole [.Tuple ts kt tpos] (.Tuple es x1 p) pos.line X.env = pure false := by rfl) (hw : swappedStores [.Tuple ts kt tpos] (.Tuple es x1 p) X.env = pure none := by rfl)
    (h1 : (assignEach [.Tuple ts kt tpos] X.env).map (·.2) = [assign (.Tuple ts kt tpos) X.env] := by rfl) : PS X (.Assign [.Tuple ts kt tpos] (.Tuple es x1 p) pos) (tsG K mg Γ W (sPar is ms)) := by
  refine ps_imp (ps_asg (pe_tup ha) (pg_tup hc h hn hst) hs hw h1) fun D' σ H h => ?_
  obtain ⟨F, L, ρ, st, rl, q⟩ := par_go h
  refine ⟨F, L, ρ, st, rl, q.imp fun F1 L1 H1 st1 ds s o q1 vs kvs => ?_⟩
  obtain ⟨hl, q2, _⟩ := q1 vs kvs
  exact ⟨by rw [hl, sizeLine_eq]; omega, fun p np => ⟨p, vs, rfl, .inl (.inl upd_same), hl, hl, q2 p _ np⟩⟩
/-- target = e, e a value -/
def sAsgT (bd : BDen) (m : EDen) : SDen := fun ρ st => (m ρ st).s ρ fun d st' => if isLoc d = true then .bad else match bd d ρ with
  | some ρ' => .nx ρ' st'
  | none => .bad
theorem s_asgT (he : PE X e (teV K mg Γ W m)) (hg : PG X tg (tgG K mg Γ vs bd)) (hs : swapsWithSole [tg] e pos.line X.env = pure false := by rfl) (hw : swappedStores [tg] e X.env = pure none := by rfl) (h1 : (assignEach [tg] X.env).map (·.2) = [assign tg X.env] := by rfl) :
    PS X (.Assign [tg] e pos) (tsG K mg Γ W (sAsgT bd m)) := by
  refine ps_imp (ps_asg he hg hs hw h1) fun D' σ H ⟨F, L, ρ, st, rl, q⟩ => ⟨F, L, ρ, st, rl, (SPost.s q rl).imp fun F1 L1 H1 st1 d s o q1 v kv => ?_⟩
  split at q1
  · exact q1.elim
  · rename_i hl
    split at q1
    · rename_i ρ' hb
      exact ⟨F1, L1, ρ, st1, d, ρ', rl.step s o, VRep.flat kv (by simpa using hl), hb, fun σ' _ rl' => q1 F1 L1 σ' H1 rl'⟩
    · exact q1.elim
end
end Gh
/-! Gh15: what the top has written, in one word a def; the rules by it; the end. -/
namespace Gh
open L2 PyProof.Rows PySem.Spec PySem
theorem takesW {X : Cx} : Takes X W0 := fun u s' ⟨_, _, _, _, _, _, _, _, _, _, _, _, _, _, _, _, w⟩ => w.elim
section
variable {P : Program} {w : World} {K : PySem.W.Frag} {mg : Glob} {base : Heap}
/-- a def of the module promises m -/
def OkG (P : Program) (w : World) (K : PySem.W.Frag) (mg : Glob) (base : Heap) (kk : Nat) (x : Str) (ps : List Str) (m : CallF) : Prop :=
  ∃ f fd, mg x = some (.ref f) ∧ FnOk P w K mg base (L2.CX P w) kk f fd ps (spG K mg m) ∧ PySem.W.keepIn K (.ref f) = true ∧ Binds K fd ps []
/-- a def of a class promises m -/
def OkM (P : Program) (w : World) (K : PySem.W.Frag) (mg : Glob) (base : Heap) (kk : Nat) (c x : Str) (ps : List Str) (m : CallF) : Prop :=
  ∃ C f fd, mg c = some (.ref C) ∧ Cls K C ∧ Meth K C x f ∧ FnOk P w K mg base (L2.CX P w) kk f fd ps (spG K mg m) ∧ Binds K fd ps []
/-- the class may be called, its __init__ promises m -/
def OkC (P : Program) (w : World) (K : PySem.W.Frag) (mg : Glob) (base : Heap) (kk : Nat) (c : Str) (ps : List Str) (m : CallF) : Prop :=
  ∃ C f fd, mg c = some (.ref C) ∧ Mk K C f ∧ FnOk P w K mg base (L2.CX P w) kk f fd ps (spG K mg m) ∧ Binds K fd ps []
/-- the same def x in some classes -/
def OkMs (P : Program) (w : World) (K : PySem.W.Frag) (mg : Glob) (base : Heap) (kk : Nat) (x : Str) (l : List (Str × CallF)) : Prop := ∀ c g, l.lookup c = some g → ∃ ps, OkM P w K mg base kk c x ps g
theorem OkMs.nil {kk : Nat} {x : Str} : OkMs P w K mg base kk x [] := fun c g h => by cases h
theorem OkMs.cons {kk : Nat} {c x : Str} {ps : List Str} {m : CallF} {l : List (Str × CallF)} (h : OkM P w K mg base kk c x ps m) (t : OkMs P w K mg base kk x l) : OkMs P w K mg base kk x ((c, m) :: l) := fun d g e => by
  rw [List.lookup_cons] at e
  cases q : d == c with
  | true =>
    rw [q] at e
    cases e
    rw [beq_iff_eq] at q
    subst q
    exact ⟨ps, h⟩
  | false =>
    rw [q] at e
    exact t d g e
theorem OkG.mono {j k : Nat} {x : Str} {ps : List Str} {m : CallF} (h : OkG P w K mg base j x ps m) (e : j ≤ k) : OkG P w K mg base k x ps m := by
  obtain ⟨f, fd, h1, h2, h3, h4⟩ := h
  exact ⟨f, fd, h1, h2.mono e, h3, h4⟩
theorem OkM.mono {j k : Nat} {c x : Str} {ps : List Str} {m : CallF} (h : OkM P w K mg base j c x ps m) (e : j ≤ k) : OkM P w K mg base k c x ps m := by
  obtain ⟨C, f, fd, h1, h2, h3, h4, h5⟩ := h
  exact ⟨C, f, fd, h1, h2, h3, h4.mono e, h5⟩
theorem OkC.mono {j k : Nat} {c : Str} {ps : List Str} {m : CallF} (h : OkC P w K mg base j c ps m) (e : j ≤ k) : OkC P w K mg base k c ps m := by
  obtain ⟨C, f, fd, h1, h3, h4, h5⟩ := h
  exact ⟨C, f, fd, h1, h3, h4.mono e, h5⟩
/-! what the top has written -/
def TG (K : PySem.W.Frag) (mg : Glob) (x qual : Str) (st : Stmt) : Prop := ∃ f fd, mg x = some (.ref f) ∧ Fun K x qual st f fd ∧ PySem.W.keepIn K (.ref f) = true
def TC (K : PySem.W.Frag) (mg : Glob) (c : Str) : Prop := ∃ C, mg c = some (.ref C) ∧ Cls K C ∧ PySem.W.makesIn K C = true ∧ PySem.W.keepIn K (.ref C) = true
def TM (K : PySem.W.Frag) (mg : Glob) (c x qual : Str) (st : Stmt) : Prop := ∃ C f fd, mg c = some (.ref C) ∧ Meth K C x f ∧ Fun K x qual st f fd
def TF (K : PySem.W.Frag) (mg : Glob) (c f : Str) : Prop := ∃ C, mg c = some (.ref C) ∧ Cls K C ∧ NoAttr K C f
theorem tg_mk {h : Heap} {x qual : Str} {st : Stmt} {f : Addr} {oc : Value} {od an : Option Addr} {osl : Array (Option Value)} {kV doc pm cdv ct : Value} (X : K.In h) (G : h.Ns mainGlobals mg) (a : PySem.W.nsIn K mainGlobals x = some (some (.ref f)))
    (l : K.lookup f = some ⟨oc, od, .func (PySem.W.fnOf x qual (defArgs st) (defBody st) (defScope st) .none kV doc pm an cdv ct), osl⟩) (c : PySem.W.codeIn K cdv qual = true) (k : PySem.W.keepIn K (.ref f) = true) : TG K mg x qual st :=
  ⟨f, _, PySem.W.mg_of X G a, fun_mk l c k, k⟩
theorem tc_mk {h : Heap} {c : Str} {C : Addr} (X : K.In h) (G : h.Ns mainGlobals mg) (a : PySem.W.nsIn K mainGlobals c = some (some (.ref C))) (pg : PySem.W.plainGet K C Str.empty = true) (hd : PySem.W.hasDictIn K C = true) (po : PySem.W.plainOver K C = true)
    (sa : PySem.W.findIn K (.ref C) "__setattr__" = some (some (.builtin "object.__setattr__"))) (mk : PySem.W.makesIn K C = true) (kc : PySem.W.keepIn K (.ref C) = true) : TC K mg c := ⟨C, PySem.W.mg_of X G a, ⟨pg, hd, po, sa⟩, mk, kc⟩
theorem tm_mk {h : Heap} {c x qual : Str} {st : Stmt} {C f : Addr} {oc : Value} {od an : Option Addr} {osl : Array (Option Value)} {kV doc pm cdv ct : Value} (X : K.In h) (G : h.Ns mainGlobals mg) (a : PySem.W.nsIn K mainGlobals c = some (some (.ref C)))
    (b : PySem.W.findIn K (.ref C) x = some (some (.ref f))) (i : PySem.W.isFn K (.ref f) = true)
    (l : K.lookup f = some ⟨oc, od, .func (PySem.W.fnOf x qual (defArgs st) (defBody st) (defScope st) .none kV doc pm an cdv ct), osl⟩) (d : PySem.W.codeIn K cdv qual = true) (k : PySem.W.keepIn K (.ref f) = true) : TM K mg c x qual st :=
  ⟨C, f, _, PySem.W.mg_of X G a, ⟨b, i, k⟩, fun_mk l d k⟩
theorem tf_mk {h : Heap} {c f : Str} {C : Addr} (X : K.In h) (G : h.Ns mainGlobals mg) (T : TC K mg c) (a : PySem.W.nsIn K mainGlobals c = some (some (.ref C))) (n : PySem.W.findIn K (.ref C) f = some none) : TF K mg c f := by
  obtain ⟨C', h1, h2, _⟩ := T
  rw [PySem.W.mg_of X G a] at h1
  cases h1
  exact ⟨C, PySem.W.mg_of X G a, h2, n⟩
theorem AttOk.nil {f : Str} : AttOk K mg f [] := fun c h => by cases h
theorem AttOk.cons {c f : Str} {cs : List Str} (h : TF K mg c f) (t : AttOk K mg f cs) : AttOk K mg f (c :: cs) := fun d hd C hC => by
  rcases List.mem_cons.mp hd with rfl | hd
  · obtain ⟨C', h1, h2, h3⟩ := h
    rw [h1] at hC
    cases hC
    exact ⟨h2, h3⟩
  · exact t d hd C hC
/-- one class among those that isinstance asks of -/
def TI1 (K : PySem.W.Frag) (mg : Glob) (kit : Value → Option Bool) (c : Str) (r : Bool) : Prop := ∃ C, mg c = some (.ref C) ∧ InsTy K C ∧ kit (.ref C) = some r
theorem isiOk_mk {kit : Value → Option Bool} {bs : List String} {yes no : List Str} (hb : ∀ n ∈ blts, kit (.type n) = some (tyIs n bs)) (hy : ∀ c ∈ yes, TI1 K mg kit c true) (hn : ∀ c ∈ no, TI1 K mg kit c false) : IsiOk K mg kit bs yes no := by
  refine ⟨hb, fun c h C hC => ?_, fun c h C hC => ?_⟩
  · obtain ⟨C', h1, h2⟩ := hy c h
    rw [h1] at hC; cases hC
    exact h2
  · obtain ⟨C', h1, h2⟩ := hn c h
    rw [h1] at hC; cases hC
    exact h2
theorem OkMs.own {X : Cx} {kk : Nat} {x : Str} {l : List (Str × CallF)} (h : OkMs X.prog X.w X.K X.mg X.base kk x l) : OwnM X X.mg kk x (fun c => l.lookup c) := fun c g C e hC => by
  obtain ⟨ps, C', f, fd, h1, h2, h3, h4, h5⟩ := h c g e
  rw [h1] at hC; cases hC
  exact ⟨f, fd, ps, h3.at_, h3.fn, h4, h5⟩
/-! the promise of a def -/
theorem okG_of {x : Str} {st : Stmt} {ps : List Str} {kk : Nat} {m : CallF} (T : TG K mg x x st) (hb : ∀ f fd, Fun K x x st f fd → Binds K fd ps []) (F : ∀ f fd, Fun K x x st f fd → FnOk P w K mg base (L2.CX P w) kk f fd ps (spG K mg m)) : OkG P w K mg base kk x ps m := by
  obtain ⟨f, fd, h1, h2, h3⟩ := T
  exact ⟨f, fd, h1, F f fd h2, h3, hb f fd h2⟩
theorem okM_of {c x qual : Str} {st : Stmt} {ps : List Str} {kk : Nat} {m : CallF} (T0 : TC K mg c) (T : TM K mg c x qual st) (hb : ∀ f fd, Fun K x qual st f fd → Binds K fd ps []) (F : ∀ f fd, Fun K x qual st f fd → FnOk P w K mg base (L2.CX P w) kk f fd ps (spG K mg m)) : OkM P w K mg base kk c x ps m := by
  obtain ⟨C, f, fd, h1, h2, h3⟩ := T
  obtain ⟨C', g1, g2, _⟩ := T0
  rw [h1] at g1; cases g1
  exact ⟨C, f, fd, h1, g2, h2, F f fd h3, hb f fd h3⟩
theorem okC_of {c : Str} {ps : List Str} {kk : Nat} {m : CallF} (T0 : TC K mg c) (h : OkM P w K mg base kk c "__init__" ps m) : OkC P w K mg base kk c ps m := by
  obtain ⟨C, f, fd, h1, h2, h3, h4, h5⟩ := h
  obtain ⟨C', g1, g2, g3, g4⟩ := T0
  rw [h1] at g1; cases g1
  exact ⟨C, f, fd, h1, ⟨g3, h3.at_, h3.fn, g4⟩, h4, h5⟩
end
section
variable {X : Cx} {mg : Glob} {Γ : Ent} {W : WX} {e o : Expr} {es : List Expr} {m mo : EDen} {ms : ADen} {pos p apos : Pos} {kk : Nat} {x c mname : Str} {ps : List Str} {cf : CallF}
theorem f_call (h : OkG X.prog X.w X.K X.mg X.base kk x ps cf) (hr : Room kk X.A) (tk : Takes X W) (ha : PA X (e :: es) (taG X.K X.mg Γ W ms)) (hg : Gl X x := by rfl) (hdb : (x == ("__debug__" : Str)) = false := by decide)
    (he : starEach (e :: es) X.env = (false, eval e X.env) :: starEach es X.env := by rfl) (hpl : (backTo pos (starEach es X.env)).any (·.1) = false := by rfl) : PE X (.Call (.Name x p) (e :: es) [] pos) (teV X.K X.mg Γ W (eCall cf ms)) := by
  obtain ⟨f, fd, h1, h2, h3, h4⟩ := h
  exact g_call h2 hr h1 h3 h4 tk ha hg hdb he hpl
theorem f_call0 (h : OkG X.prog X.w X.K X.mg X.base kk x ps cf) (hr : Room kk X.A) (tk : Takes X W) (hg : Gl X x := by rfl) (hdb : (x == ("__debug__" : Str)) = false := by decide) : PE X (.Call (.Name x p) [] [] pos) (teV X.K X.mg Γ W (eCall cf aNil)) := by
  obtain ⟨f, fd, h1, h2, h3, h4⟩ := h
  exact g_call0 h2 hr h1 h3 h4 tk hg hdb
theorem f_make (h : OkC X.prog X.w X.K X.mg X.base kk c ps cf) (hr : Room (kk + 1) X.A) (tk : Takes X W) (ha : PA X (e :: es) (taG X.K X.mg Γ W ms)) (hg : Gl X c := by rfl) (hdb : (c == ("__debug__" : Str)) = false := by decide)
    (he : starEach (e :: es) X.env = (false, eval e X.env) :: starEach es X.env := by rfl) (hpl : (backTo pos (starEach es X.env)).any (·.1) = false := by rfl) : PE X (.Call (.Name c p) (e :: es) [] pos) (teV X.K X.mg Γ W (eMake c cf ms)) := by
  obtain ⟨C, f, fd, h1, h2, h3, h4⟩ := h
  exact g_make h2 h3 hr h1 h1 h4 tk ha hg hdb he hpl
theorem f_makeM (h : OkC X.prog X.w X.K X.mg X.base kk c ps cf) (hr : Room (kk + 1) X.A) (tk : Takes X W) (ha : PA X (e :: es) (taG X.K X.mg Γ W ms)) (hg : Gl X c := by rfl) (hdb : (c == ("__debug__" : Str)) = false := by decide)
    (he : starEach (e :: es) X.env = (false, eval e X.env) :: starEach es X.env := by rfl) (hpl : (backTo pos (starEach es X.env)).any (·.1) = false := by rfl) : PE X (.Call (.Name c p) (e :: es) [] pos) (teV X.K X.mg Γ W (eMakeM c cf ms)) := by
  obtain ⟨C, f, fd, h1, h2, h3, h4⟩ := h
  exact g_makeM h2 h3 hr h1 h1 h4 tk ha hg hdb he hpl
theorem f_makeM0 (h : OkC X.prog X.w X.K X.mg X.base kk c ps cf) (hr : Room (kk + 1) X.A) (tk : Takes X W) (hg : Gl X c := by rfl) (hdb : (c == ("__debug__" : Str)) = false := by decide) : PE X (.Call (.Name c p) [] [] pos) (teV X.K X.mg Γ W (eMakeM c cf aNil)) := by
  obtain ⟨C, f, fd, h1, h2, h3, h4⟩ := h
  exact g_makeM0 h2 h3 hr h1 h1 h4 tk hg hdb
/-- o.m(..), o of one of the classes of l -/
def eMethU (l : List (Str × CallF)) (m : Str) (mo : EDen) (ms : ADen) : EDen := fun ρ st => (mo ρ st).bind fun d st1 => match instOf st1 d with
  | some (c, fs) => (match l.lookup c with
    | some f => if (fs.lookup m).isNone = true then (ms ρ st1).bind fun ds st2 => f (d :: ds) st2 else .bad
    | none => .bad)
  | none => .bad
theorem methU_go {Q : VK} {σ : St} {H : Hp} {l : List (Str × CallF)} (A : OkMs X.prog X.w X.K X.mg X.base kk mname l) (h : teV X.K X.mg Γ W (eMethU l mname mo ms) σ H Q) :
    teV X.K X.mg Γ W mo σ H fun x H1 => ∃ C a dx fs f fd ps cf, x = .ref a ∧ H1 a = some (.ins C dx fs) ∧ fs.lookup mname = none ∧ Cls X.K C ∧ Meth X.K C mname f ∧ FnOk X.prog X.w X.K X.mg X.base (L2.CX X.prog X.w) kk f fd ps (spG X.K X.mg cf) ∧ Binds X.K fd ps [] ∧
      taG X.K X.mg Γ W ms σ H1 fun vs H2 => spG X.K X.mg cf (x :: vs) H2 Q (WE W σ) := by
  obtain ⟨F, L, ρ, st, rl, q⟩ := h
  refine ⟨F, L, ρ, st, rl, q.bind.imp fun F1 L1 H1 st1 d s o q1 v kv => ?_⟩
  split at q1
  · rename_i c' fs e
    split at q1
    · rename_i g hg
      split at q1
      · rename_i hn
        obtain ⟨a, C', dx, fv, rfl, h1, h2, h3⟩ := inst_at o kv (instOf_at e)
        obtain ⟨ps, C, f, fd, g1, g2, g3, g4, g5⟩ := A c' g hg
        rw [h1] at g1; cases g1
        refine ⟨C', a, dx, fv, f, fd, ps, g, rfl, h2, h3.lookNone (by simpa using hn), g2, g3, g4, g5, F1, L1, ρ, st1, rl.step s o, q1.bind.imp fun F2 L2 H2 st2 ds s2 o2 q2 vs kvs => ?_⟩
        exact ⟨F2, L2, d :: ds, st2, o2, ⟨_, vs, rfl, s2.vrep kv, kvs⟩, Post.wish q2⟩
      · exact q1.elim
    · exact q1.elim
  · exact q1.elim
theorem f_meth {pl : Sem Bool} {l : List (Str × CallF)} (A : OkMs X.prog X.w X.K X.mg X.base kk mname l) (hr : Room kk X.A) (tk : Takes X W) (ho : PE X o (teV X.K X.mg Γ W mo)) (ha : PA X (e :: es) (taG X.K X.mg Γ W ms))
    (hst : starEach (e :: es) X.env = (false, eval e X.env) :: starEach es X.env := by rfl) (hpl : (backTo pos (starEach es X.env)).any (·.1) = false := by rfl)
    (ht : eval (.Call (.Attribute o mname apos) (e :: es) [] pos) X.env = (do let ov ← eval o X.env; standAt apos.atName; let (f, first) ← holding [ov] (getMethod ov mname pl); callWith pos f first (backTo pos (starEach (e :: es) X.env)) (backToKw pos (keywordEach [] X.env))) := by rfl) :
    PE X (.Call (.Attribute o mname apos) (e :: es) [] pos) (teV X.K X.mg Γ W (eMethU l mname mo ms)) := by
  refine ⟨fun pins s σ H Q I h => PySem.W.methodCall_KW (pl := pl) (thn (ho.run pins s σ H _ I (methU_go A h)) fun u s1 hh => ?_) ht⟩
  obtain ⟨x, H1, I1, rx, C, a, dx, fs, f, fd, ps, cf, ex, ea, ln, cl, hm, F, hb, q⟩ := hh
  cases ex
  cases (show u = Value.ref a from rx)
  exact getmeth_ok I1 ea cl hm ln (PySem.W.callWith_K (first := [.ref a]) (h₀ := X.base) I.ok.mod.kin hm.kp (thn (ha.run pos pins s1 σ H1 _ I1 q) fun us s2 ⟨vs, H2, I2, r, q2⟩ =>
    ⟨I2.kIn, run_fnS (us := .ref a :: us) (vs := .ref a :: vs) (E := WE W) F hr hb (passAt tk σ) I2 (.cons rfl r) q2⟩) hst hpl)
theorem f_meth0 {pl : Sem Bool} {l : List (Str × CallF)} (A : OkMs X.prog X.w X.K X.mg X.base kk mname l) (hr : Room kk X.A) (tk : Takes X W) (ho : PE X o (teV X.K X.mg Γ W mo))
    (ht : eval (.Call (.Attribute o mname apos) [] [] pos) X.env = (do let ov ← eval o X.env; standAt apos.atName; let (f, first) ← holding [ov] (getMethod ov mname pl); callWith pos f first (backTo pos (starEach [] X.env)) (backToKw pos (keywordEach [] X.env))) := by rfl) :
    PE X (.Call (.Attribute o mname apos) [] [] pos) (teV X.K X.mg Γ W (eMethU l mname mo aNil)) := by
  refine ⟨fun pins s σ H Q I h => PySem.W.methodCall_KW (pl := pl) (thn (ho.run pins s σ H _ I (methU_go A h)) fun u s1 hh => ?_) ht⟩
  obtain ⟨x, H1, I1, rx, C, a, dx, fs, f, fd, ps, cf, ex, ea, ln, cl, hm, F, hb, F', L', ρ', st', rl', q⟩ := hh
  cases ex
  cases (show u = Value.ref a from rx)
  obtain ⟨F2, L2', ds, st2, o2, k2, q2⟩ := q.here rl'.sto [] rfl
  exact getmeth_ok I1 ea cl hm ln (PySem.W.callWith_K0 (first := [.ref a]) I1.kIn hm.kp (run_fnS (us := [.ref a]) (vs := [.ref a]) (E := WE W) F hr hb (passAt tk σ) I1 (.cons rfl .nil) ⟨F2, L2', ds, st2, o2, k2, q2⟩))
/-! what is never come to -/
def eBad : EDen := fun _ _ => .bad
def sBad : SDen := fun _ _ => .bad
theorem e_bad {k : Kd} {K : PySem.W.Frag} : PE X e (teG k K mg Γ W eBad) := ⟨fun pins s σ H Q I ⟨_, _, _, _, _, q⟩ => q.elim⟩
theorem s_bad {K : PySem.W.Frag} {st : Stmt} : PS X st (tsG K mg Γ W sBad) := ⟨fun pins s σ H D' I ⟨_, _, _, _, _, q⟩ => q.elim⟩
end
/-! ### the end -/
/-- law's: a list of at most 63 ints is handed in, True comes out -/
def spLaw (K : PySem.W.Frag) : Sp := fun vs H Q _ => ∃ (a : Addr) (ns : List Int), vs = [.ref a] ∧ SqL K H a (ns.map V.int) ∧ ns.length ≤ 63 ∧ ∀ H', Q (.bl true) H'
theorem repl_ints {K : PySem.W.Frag} {mg : Glob} {F : Hp} : ∀ ns : List Int, RepL K mg F (ns.map D.int) (ns.map V.int)
  | [] => rfl
  | n :: ns => ⟨_, _, rfl, rfl, repl_ints ns⟩
theorem law_sp {K : PySem.W.Frag} {mg : Glob} {m : CallF} (h : ∀ ns : List Int, ns.length ≤ 63 → m [.scr (ns.map D.int)] [] = .ok (.bl true) []) : ∀ vs H Q E, spLaw K vs H Q E → spG K mg m vs H Q E := by
  rintro vs H Q E ⟨a, ns, rfl, h1, h2, h3⟩
  refine ⟨H, [], [.scr (ns.map D.int)], [], ⟨ExF.of (Ex.refl H), List.nodup_nil, rfl, fun n a d e => by cases e⟩, ⟨_, [], rfl, .inr ⟨a, _, rfl, h1, repl_ints ns⟩, rfl⟩, ?_⟩
  rw [h ns h2]
  intro F' L' H' s o v kv
  rw [kv.bl]
  exact h3 H'
/-- law's own entry, by what the top has written -/
def LawB (P : Program) (w : World) (K : PySem.W.Frag) (mg : Glob) (k : Nat) (x : Str) (m : CallF) : Prop := ∃ fd f, mg x = some (.ref f) ∧ (∀ (s : Shared) (u : Value), BindsTo s fd ⟨[u], []⟩ [("script", u)]) ∧
  ∀ base : Heap, K.In base → base.Ns mainGlobals mg → FnOk P w K mg base (L2.CX P w) k f fd ["script"] (spG K mg m)
theorem lawB_of {P : Program} {w : World} {K : PySem.W.Frag} {mg : Glob} {k : Nat} {x : Str} {m : CallF} {st : Stmt} (T : TG K mg x x st) (hb : ∀ (f : Addr) (fd : FuncData), Fun K x x st f fd → ∀ (s : Shared) (u : Value), BindsTo s fd ⟨[u], []⟩ [("script", u)])
    (F : ∀ (base : Heap) (f : Addr) (fd : FuncData), Fun K x x st f fd → FnOk P w K mg base (L2.CX P w) k f fd ["script"] (spG K mg m)) : LawB P w K mg k x m := by
  obtain ⟨f, fd, h1, h2, h3⟩ := T
  exact ⟨fd, f, h1, hb f fd h2, fun base _ _ => F base f fd h2⟩
theorem law_walk {l : PySem.W.OpenLaw} {k : Nat} {q : Program} {loose : List Str} {XP : (Str → Option Value) → Heap → Prop} {YP : World → Heap → Prop} {d : DefRec} {K : Params → PySem.W.Frag} {m : CallF} (hn : l.most = some 63) (hdf : d.params.defaults = []) (hr : Room k callerA)
    (hY : ∀ (w : World) (h : Heap), YP w h → (K w.params).In h) (hm : ∀ ns : List Int, ns.length ≤ 63 → m [.scr (ns.map D.int)] [] = .ok (.bl true) [])
    (B : ∀ (w : World) (mg : Glob) (h : Heap), (K w.params).In h → h.Ns mainGlobals mg → LawB l.prog w (K w.params) mg k d.name m) :
    PySem.W.WalkO q loose XP YP l.row.toRowW d [] (fun f vs => PySem.call f vs) := by
  refine L2.walk_of (n := 63) (k := k) (x := "script") (CX := fun w => L2.CX l.prog w) (sp := fun w => spLaw (K w.params)) hn (by decide) hdf hr hY (fun w mg fa h KX G hfa => ?_) (fun _ _ a ns hl _ hS => ⟨a, ns, rfl, hS, hl, fun _ => rfl⟩) ?_
  · obtain ⟨fd, f, h1, h2, h3⟩ := B w mg h KX G
    rw [h1] at hfa
    cases hfa
    exact ⟨fd, h2, fun base b1 b2 => (h3 base b1 b2).imp (law_sp hm)⟩
  · rintro w H s e s' ⟨_, _, _, _, _, _, _, _, _, _, _, _, z⟩
    exact z
/-! facts of classes -/
theorem the {K : PySem.W.Frag} {h : Heap} (_ : K.In h) (p : PySem.W.Frag → Prop) (t : p K) : p K := t
theorem insTy_mk {K : PySem.W.Frag} {mg : Glob} {h : Heap} {c : Str} {C : Addr} (X : K.In h) (G : h.Ns mainGlobals mg) (T : TC K mg c) (a : PySem.W.nsIn K mainGlobals c = some (some (.ref C))) (ha : PySem.W.findIn K (.ref C) "__class__" = some (some (.builtin "object.__class__")))
    (hn : PySem.W.specialIn K (.builtin "object.__class__") "__get__" = some (some (.builtin "getset_descriptor.__get__"))) (htk : PySem.W.takesIn K (.builtin "object.__class__") = some true) (hm : PySem.W.mroIn K C (.type "object") = some true) : mg c = some (.ref C) ∧ InsTy K C := by
  obtain ⟨C', h1, h2, _⟩ := T
  rw [PySem.W.mg_of X G a] at h1
  cases h1
  exact ⟨PySem.W.mg_of X G a, h2, ha, hn, htk, hm⟩
end Gh
/-! Gh16: isinstance, own truth and == by what the top has written; the def rule for okG, okM. -/
namespace Gh
open L2 PyProof.Rows PySem.Spec PySem
def gAddI : Op2 := gI (fun _ _ => true) fun i j => .int (i + j)
theorem sem_addI {K : PySem.W.Frag} {mg : Glob} : Sem2 kV K mg gAddI (rI0 fun i j => .int (i + j)) := sem_I0 fun F i j => rfl
/-- isinstance by the class c0 of the text -/
def TIs (K : PySem.W.Frag) (mg : Glob) (c0 : Str) (yes no : List Str) : Prop := ∃ C, mg c0 = some (.ref C) ∧ IsiOk K mg (fun t => PySem.W.kitOne K t (.ref C)) [] yes no
/-- .. by a built-in type, by two -/
def TIb (K : PySem.W.Frag) (mg : Glob) (n : String) (no : List Str) : Prop := IsiOk K mg (fun t => PySem.W.kitOne K t (.type n)) [n] [] no
def TIb2 (K : PySem.W.Frag) (mg : Glob) (n n2 : String) (no : List Str) : Prop := IsiOk K mg (fun t => PySem.W.kitAny K t [.type n, .type n2]) [n, n2] [] no
section
variable {X : Cx} {mg : Glob} {Γ : Ent} {W : WX} {a : Expr} {m : EDen} {pos p p2 p3 pt : Pos} {kk : Nat} {c0 x y : Str} {yes no : List Str} {n n2 : String} {kt : Nat}
theorem f_isiC (h : TIs X.K X.mg c0 yes no) (hm : X.mg "isinstance" = none) (ha : PE X a (teR X.K X.mg Γ W m)) (hg : Gl X "isinstance" := by rfl) (hg2 : Gl X c0 := by rfl) (hd : (c0 == ("__debug__" : Str)) = false := by decide)
    (he : starEach [a, .Name c0 p2] X.env = (false, eval a X.env) :: starEach [.Name c0 p2] X.env := by rfl) (hs2 : starEach [.Name c0 p2] X.env = (false, eval (.Name c0 p2) X.env) :: starEach [] X.env := by rfl) (hpl : (backTo pos (starEach [.Name c0 p2] X.env)).any (·.1) = false := by rfl) :
    PE X (.Call (.Name "isinstance" p) [a, .Name c0 p2] [] pos) (teV X.K X.mg Γ W (e1 (gIsi [] yes no) m)) := by
  obtain ⟨C, h1, h2⟩ := h
  exact g_isi rfl (.own C) h2 hm ha (pe_glob hg2 h1 rfl hd) hg he hs2 hpl
theorem f_isiB (h : TIb X.K X.mg n no) (hm : X.mg "isinstance" = none) (hx : X.mg x = none) (hv : bootBuiltins x = some (.type n)) (ha : PE X a (teR X.K X.mg Γ W m)) (hg : Gl X "isinstance" := by rfl) (hg2 : Gl X x := by rfl) (hn : x ≠ "__name__" := by decide) (hd : (x == ("__debug__" : Str)) = false := by decide)
    (he : starEach [a, .Name x p2] X.env = (false, eval a X.env) :: starEach [.Name x p2] X.env := by rfl) (hs2 : starEach [.Name x p2] X.env = (false, eval (.Name x p2) X.env) :: starEach [] X.env := by rfl) (hpl : (backTo pos (starEach [.Name x p2] X.env)).any (·.1) = false := by rfl) :
    PE X (.Call (.Name "isinstance" p) [a, .Name x p2] [] pos) (teV X.K X.mg Γ W (e1 (gIsi [n] [] no) m)) :=
  g_isi rfl (.ty n) h hm ha (pe_bltn hg2 hx hv rfl hn hd) hg he hs2 hpl
theorem f_isiB2 (h : TIb2 X.K X.mg n n2 no) (hm : X.mg "isinstance" = none) (hx : X.mg x = none) (hv : bootBuiltins x = some (.type n)) (hy : X.mg y = none) (hv2 : bootBuiltins y = some (.type n2)) (ha : PE X a (teR X.K X.mg Γ W m)) (hg : Gl X "isinstance" := by rfl) (hg2 : Gl X x := by rfl) (hn : x ≠ "__name__" := by decide) (hd : (x == ("__debug__" : Str)) = false := by decide)
    (hg3 : Gl X y := by rfl) (hn3 : y ≠ "__name__" := by decide) (hd3 : (y == ("__debug__" : Str)) = false := by decide)
    (he : starEach [a, .Tuple [.Name x p2, .Name y p3] kt pt] X.env = (false, eval a X.env) :: starEach [.Tuple [.Name x p2, .Name y p3] kt pt] X.env := by rfl) (hs2 : starEach [.Tuple [.Name x p2, .Name y p3] kt pt] X.env = (false, eval (.Tuple [.Name x p2, .Name y p3] kt pt) X.env) :: starEach [] X.env := by rfl)
    (hpl : (backTo pos (starEach [.Tuple [.Name x p2, .Name y p3] kt pt] X.env)).any (·.1) = false := by rfl) (hs3 : starEach [.Name x p2, .Name y p3] X.env = (false, eval (.Name x p2) X.env) :: starEach [.Name y p3] X.env := by rfl) (hs4 : starEach [.Name y p3] X.env = (false, eval (.Name y p3) X.env) :: starEach [] X.env := by rfl) :
    PE X (.Call (.Name "isinstance" p) [a, .Tuple [.Name x p2, .Name y p3] kt pt] [] pos) (teV X.K X.mg Γ W (e1 (gIsi [n, n2] [] no) m)) :=
  g_isi2 rfl (.ty n) (.ty n2) h hm ha (pe_bltn hg2 hx hv rfl hn hd) (pe_bltn hg3 hy hv2 rfl hn3 hd3) hg he hs2 hpl hs3 hs4
theorem f_trOwn {l : List (Str × CallF)} (A : OkMs X.prog X.w X.K X.mg X.base kk "__bool__" l) (hr : Room kk X.A) (h : PE X a (teV X.K X.mg Γ W m)) (he : ∀ whole, isTrue a X.env whole = (do let v ← whole; standAt a.pos; holding [v] (truthy v)) := by intro _; rfl) : PT X a (ttG X.K X.mg Γ W (tOwn (fun c => l.lookup c) m)) :=
  g_trOwn rfl A.own hr takesW h he
theorem f_boolOwn {l : List (Str × CallF)} (A : OkMs X.prog X.w X.K X.mg X.base kk "__bool__" l) (hr : Room (kk + 2) X.A) (hm : X.mg "bool" = none) (h : PE X a (teV X.K X.mg Γ W m)) (hg : Gl X "bool" := by rfl) (he : starEach [a] X.env = (false, eval a X.env) :: starEach [] X.env := by rfl) (hpl : (backTo pos (starEach [] X.env)).any (·.1) = false := by rfl) :
    PE X (.Call (.Name "bool" p) [a] [] pos) (teV X.K X.mg Γ W (eOwn (fun c => l.lookup c) m)) :=
  g_boolOwn rfl A.own hr takesW hm h hg he hpl
/-- no left class has a right one below it -/
def TNf (K : PySem.W.Frag) (mg : Glob) (ls rs : List Str) : Prop := ∀ c ∈ ls, ∀ C, mg c = some (.ref C) → ∀ c' ∈ rs, ∀ C', mg c' = some (.ref C') → PySem.W.notFirst K C (.ref C') = true
theorem f_eqI {b : Expr} {ma mb : EDen} {l : List (Str × CallF)} {cs : List Str} (A : OkMs X.prog X.w X.K X.mg X.base kk "__eq__" l) (N : TNf X.K X.mg (l.map (·.1)) cs) (hr : Room kk X.A) (ha : PE X a (teV X.K X.mg Γ W ma)) (hb : PE X b (teV X.K X.mg Γ W mb)) (hm : behindInMarks .Eq b = false := by rfl) :
    PE X (.Compare a [.Eq] [b] pos) (teV X.K X.mg Γ W (e2 (gEqI (fun c => l.lookup c) cs) ma mb)) := by
  refine g_eqI rfl A.own (fun c g C e hC c' hc' C' hC' => N c ?_ C hC c' hc' C' hC') hr takesW ha hb hm
  clear A N
  induction l with
  | nil => cases e
  | cons p t ih =>
    rw [List.lookup_cons] at e
    cases q : c == p.1 with
    | true => rw [beq_iff_eq] at q; simp [q]
    | false =>
      rw [q] at e
      exact List.mem_cons_of_mem _ (ih e)
end
theorem kit_ref {K : PySem.W.Frag} {t : Value} {C : Addr} {r : Bool} (ic : PySem.W.isClsIn K C = true) (tc : PySem.W.typeIn K (.ref C) = some (.type "type")) (s : PySem.W.subIn K t (.ref C) = some r) (h : (t == Value.ref C) = false) : PySem.W.kitOne K t (.ref C) = some r := by
  unfold PySem.W.kitOne
  rw [h, if_neg (by decide)]
  show (if ((PySem.W.clsIn K C).isSome && PySem.W.typeIn K (.ref C) == some (.type "type")) = true then PySem.W.subIn K t (.ref C) else none) = some r
  rw [show (PySem.W.clsIn K C).isSome = true from ic, tc, if_pos (by rfl)]
  exact s
theorem kit_self {K : PySem.W.Frag} {C : Addr} : PySem.W.kitOne K (.ref C) (.ref C) = some true := by
  unfold PySem.W.kitOne
  rw [if_pos (beq_self_eq_true _)]
theorem tis_mk {K : PySem.W.Frag} {mg : Glob} {h : Heap} {c0 : Str} {C : Addr} {yes no : List Str} (X : K.In h) (G : h.Ns mainGlobals mg) (a : PySem.W.nsIn K mainGlobals c0 = some (some (.ref C))) (ic : PySem.W.isClsIn K C = true) (tc : PySem.W.typeIn K (.ref C) = some (.type "type"))
    (k1 : PySem.W.subIn K (.type "NoneType") (.ref C) = some false) (k2 : PySem.W.subIn K (.type "bool") (.ref C) = some false) (k3 : PySem.W.subIn K (.type "int") (.ref C) = some false) (k4 : PySem.W.subIn K (.type "str") (.ref C) = some false)
    (k5 : PySem.W.subIn K (.type "tuple") (.ref C) = some false) (k6 : PySem.W.subIn K (.type "list") (.ref C) = some false) (k7 : PySem.W.subIn K (.type "dict") (.ref C) = some false)
    (hy : ∀ c ∈ yes, TI1 K mg (fun t => PySem.W.kitOne K t (.ref C)) c true) (hn : ∀ c ∈ no, TI1 K mg (fun t => PySem.W.kitOne K t (.ref C)) c false) : TIs K mg c0 yes no := by
  refine ⟨C, PySem.W.mg_of X G a, isiOk_mk (fun n h => ?_) hy hn⟩
  simp only [blts, List.mem_cons, List.not_mem_nil, or_false] at h
  rcases h with rfl | rfl | rfl | rfl | rfl | rfl | rfl
  · exact kit_ref ic tc k1 rfl
  · exact kit_ref ic tc k2 rfl
  · exact kit_ref ic tc k3 rfl
  · exact kit_ref ic tc k4 rfl
  · exact kit_ref ic tc k5 rfl
  · exact kit_ref ic tc k6 rfl
  · exact kit_ref ic tc k7 rfl
theorem ti1_mk {K : PySem.W.Frag} {mg : Glob} {c : Str} {C C0 : Addr} {r : Bool} (h : mg c = some (.ref C) ∧ InsTy K C) (k : PySem.W.kitOne K (.ref C) (.ref C0) = some r) : TI1 K mg (fun t => PySem.W.kitOne K t (.ref C0)) c r := ⟨C, h.1, h.2, k⟩
def TNf1 (K : PySem.W.Frag) (mg : Glob) (c c' : Str) : Prop := ∀ C, mg c = some (.ref C) → ∀ C', mg c' = some (.ref C') → PySem.W.notFirst K C (.ref C') = true
theorem nf1_mk {K : PySem.W.Frag} {mg : Glob} {h : Heap} {c c' : Str} {C C' : Addr} (X : K.In h) (G : h.Ns mainGlobals mg) (a : PySem.W.nsIn K mainGlobals c = some (some (.ref C))) (b : PySem.W.nsIn K mainGlobals c' = some (some (.ref C'))) (n : PySem.W.notFirst K C (.ref C') = true) : TNf1 K mg c c' := fun D h1 D' h2 => by
  rw [PySem.W.mg_of X G a] at h1
  rw [PySem.W.mg_of X G b] at h2
  cases h1
  cases h2
  exact n
theorem nf_mk {K : PySem.W.Frag} {mg : Glob} {ls rs : List Str} (h : ∀ c ∈ ls, ∀ c' ∈ rs, TNf1 K mg c c') : TNf K mg ls rs := fun c hc C hC c' hc' C' hC' => h c hc c' hc' C hC C' hC'
theorem isi_b {K : PySem.W.Frag} {n : String} (h : ∀ a ∈ blts, kitB a n = some (tyIs a [n])) : ∀ a ∈ blts, PySem.W.kitOne K (.type a) (.type n) = some (tyIs a [n]) := fun a ha => kit_ty (h a ha)
theorem tib_mk {K : PySem.W.Frag} {mg : Glob} {n : String} (h : ∀ a ∈ blts, kitB a n = some (tyIs a [n])) : TIb K mg n [] := isiOk_mk (isi_b h) (fun _ h => by cases h) (fun _ h => by cases h)
theorem kitAny2 {K : PySem.W.Frag} {t u v : Value} {r s : Bool} (h1 : PySem.W.kitOne K t u = some r) (h2 : PySem.W.kitOne K t v = some s) : PySem.W.kitAny K t [u, v] = some (r || s) := by
  refine kitAny_cons h1 (fun e => ?_) (fun e => by rw [e]; rfl)
  rw [e]
  exact kitAny_cons h2 (fun e => by rw [e]; exact kitAny_nil) (fun e => by rw [e]; rfl)
theorem tib2_mk {K : PySem.W.Frag} {mg : Glob} {n n2 : String} (h : ∀ a ∈ blts, kitB a n = some (tyIs a [n])) (h2 : ∀ a ∈ blts, kitB a n2 = some (tyIs a [n2])) (h3 : ∀ a ∈ blts, (tyIs a [n] || tyIs a [n2]) = tyIs a [n, n2]) : TIb2 K mg n n2 [] :=
  isiOk_mk (fun a ha => by rw [← h3 a ha]; exact kitAny2 (isi_b h a ha) (isi_b h2 a ha)) (fun _ h => by cases h) (fun _ h => by cases h)
/-! comparisons as tests -/
section
variable {X : Cx} {K : PySem.W.Frag} {mg : Glob} {Γ : Ent} {W : WX} {a b c : Expr} {m ma mb mc : EDen} {pos : Pos}
theorem tb_go {σ : St} {H : Hp} {Q : Bool → Hp → Prop} (h : ttG K mg Γ W (Gh.tB m) σ H Q) : teV K mg Γ W m σ H fun x H' => ∃ k, x = .bl k ∧ Q k H' := by
  obtain ⟨F, L, ρ, st, rl, q⟩ := h
  refine ⟨F, L, ρ, st, rl, q.bind.imp fun F1 L1 H1 st1 d s o q1 v kv => ?_⟩
  split at q1
  · exact ⟨_, kv.bl, q1.here o⟩
  · exact q1.elim
theorem g_tcmp {op : CmpOp} {r : R2} {g : Op2} (ho : OpR X (compareOp op) r) (hs : Sem2 kV K mg g r) (ha : PE X a (teR K mg Γ W ma)) (hb : PE X b (teR K mg Γ W mb)) (hm : behindInMarks op b = false) : PT X (.Compare a [op] [b] pos) (ttG K mg Γ W (Gh.tB (e2 g ma mb))) :=
  pt_imp (pt_cmpR ho ha hb hm) fun σ H Q h => t2_of (k := kV) kV_late hs σ H _ (tb_go h)
theorem pc_of {op : CmpOp} {r : R2} {ta tb : TE} (ho : OpR X (compareOp op) r) (ha : PE X a ta) (hb : PE X b tb) : PC X op a b (tOp r ta tb) := by
  refine ⟨fun pins s σ H Q I h => ?_⟩
  exact thn (ha.run pins s σ H _ I h) fun v s1 ⟨x, H1, I1, r1, q1⟩ => thn (hb.run pins s1 σ H1 _ I1 q1) fun u s2 ⟨y, H2, I2, r2, q2⟩ => ho pins s2 σ H2 x y v u Q I2 r1 r2 q2
theorem pc_or {op : CmpOp} {t t' : TE} (h : PC X op a b t) (h' : PC X op a b t') : PC X op a b (fun σ H Q => t σ H Q ∨ t' σ H Q) := ⟨fun pins s σ H Q I q => q.elim (h.run pins s σ H Q I) (h'.run pins s σ H Q I)⟩
theorem g_tin (hu : X.A.units + 1 < cLine) (ha : PE X a (teR X.K mg Γ W ma)) (hb : PE X b (teR X.K mg Γ W mb)) (hm : behindInMarks .In b = false := by rfl) : PT X (.Compare a [.In] [b] pos) (ttG X.K mg Γ W (Gh.tB (e2 gIn ma mb))) :=
  pt_imp (pt_cmp (pc_or (pc_of op_inU ha hb) (pc_din hu ha hb)) hm) fun σ H Q h => in_go (tb_go h)
theorem g_tnotIn (hu : X.A.units + 1 < cLine) (ha : PE X a (teR X.K mg Γ W ma)) (hb : PE X b (teR X.K mg Γ W mb)) (hm : behindInMarks .NotIn b = false := by rfl) : PT X (.Compare a [.NotIn] [b] pos) (ttG X.K mg Γ W (Gh.tB (e2 gNotIn ma mb))) :=
  pt_imp (pt_cmp (pc_or (pc_of op_notInU ha hb) (pc_dnotin hu ha hb)) hm) fun σ H Q h => notIn_go (tb_go h)
theorem chain_go {r r' : R2} {g g' : Op2} (hs : Sem2 kV K mg g r) (hs' : Sem2 kV K mg g' r') {σ : St} {H : Hp} {Q : VK} (h : teV K mg Γ W (eChain g g' ma mb mc) σ H Q) : tChain r r' (teR K mg Γ W ma) (teR K mg Γ W mb) (teR K mg Γ W mc) σ H Q := by
  obtain ⟨F, L, ρ, st, rl, p⟩ := h
  refine ⟨F, L, ρ, st, rl, p.bind.imp fun F1 L1 H1 st1 x s1 o1 p1 v kv => ?_⟩
  have rl1 := rl.step s1 o1
  refine ⟨F1, L1, ρ, st1, rl1, p1.bind.imp fun F2 L2 H2 st2 y s2 o2 p2 u ku => ?_⟩
  have rl2 := rl1.step s2 o2
  refine hs Γ W F2 L2 σ H2 ρ st2 x y v u _ rl2 (kR.step kv s2) ku (p2.bind.imp fun F3 L3 H3 st3 z s3 o3 p3 w kw => ?_)
  have rl3 := rl2.step s3 o3
  split at p3
  · obtain rfl := kw.bl
    refine ⟨true, rfl, ?_⟩
    rw [if_pos rfl]
    refine ⟨F3, L3, ρ, st3, rl3, p3.bind.imp fun F4 L4 H4 st4 u' s4 o4 p4 v' kv' => ?_⟩
    have rl4 := rl3.step s4 o4
    exact hs' Γ W F4 L4 σ H4 ρ st4 y u' u v' Q rl4 (kR.step (H0 := H2) (H := H3) (kR.step ku s3) s4) kv' p4
  · obtain rfl := kw.bl
    refine ⟨false, rfl, ?_⟩
    rw [if_neg (by decide)]
    exact p3.here o3 _ (.inr rfl)
  · exact p3.elim
theorem g_tchain {op op' : CmpOp} {r r' : R2} {g g' : Op2} (ho : OpR X (compareOp op) r) (ho' : OpR X (compareOp op') r') (hs : Sem2 kV K mg g r) (hs' : Sem2 kV K mg g' r') (ha : PE X a (teR K mg Γ W ma)) (hb : PE X b (teR K mg Γ W mb)) (hc : PE X c (teR K mg Γ W mc))
    (hm : lastMarks [op, op'] [b, c] = false := by with_unfolding_all rfl) : PT X (.Compare a [op, op'] [b, c] pos) (ttG K mg Γ W (Gh.tB (eChain g g' ma mb mc))) :=
  pt_imp (pt_chain ho ho' ha hb hc hm) fun σ H Q h => chain_go hs hs' (tb_go h)
end
end Gh
/-! Gh17: reckoning with denotations. -/
namespace Gh
open L2 PyProof.Rows PySem.Spec PySem
section
variable {ρ : REnv} {st : Store}
@[simp] theorem r_var (i : Nat) : eVar i ρ st = (match ρ[i]? with | some (Sl.val d) => .ok d st | _ => .bad) := rfl
@[simp] theorem r_peek (i : Nat) : ePeek i ρ st = (match ρ[i]? with | some (Sl.val d) => .ok d st | some (Sl.own d) => .ok d st | _ => .bad) := rfl
@[simp] theorem r_c (d : D) : eC d ρ st = .ok d st := rfl
@[simp] theorem r_e1 (g : Op1) (m : EDen) : e1 g m ρ st = (m ρ st).bind fun x st1 => g x st1 := rfl
@[simp] theorem r_e2 (g : Op2) (m n : EDen) : e2 g m n ρ st = (m ρ st).bind fun x st1 => (n ρ st1).bind fun y st2 => g x y st2 := rfl
@[simp] theorem r_eN (g : OpN) (m : ADen) : eN g m ρ st = (m ρ st).bind fun xs st1 => g xs st1 := rfl
@[simp] theorem r_aNil : aNil ρ st = .ok [] st := rfl
@[simp] theorem r_aCons (m : EDen) (r : ADen) : aCons m r ρ st = (m ρ st).bind fun d st1 => (r ρ st1).bind fun ds st2 => .ok (d :: ds) st2 := rfl
@[simp] theorem r_tup (m : ADen) : eTup m ρ st = (m ρ st).bind fun ds st1 => if flatL ds = true ∧ ds.length ≤ 1000 then .ok (.tup ds) st1 else .bad := rfl
@[simp] theorem r_lst (m : ADen) : eLst m ρ st = (m ρ st).bind fun ds st1 => if flatL ds = true ∧ ds.length ≤ 100000 then .ok (.lst ds) st1 else .bad := rfl
@[simp] theorem r_chain (g g' : Op2) (ma mb mc : EDen) : eChain g g' ma mb mc ρ st = (ma ρ st).bind fun x st1 => (mb ρ st1).bind fun y st2 => (g x y st2).bind fun z st3 => match z with
  | .bl true => (mc ρ st3).bind fun u st4 => g' y u st4
  | .bl false => .ok (.bl false) st3
  | _ => .bad := rfl
@[simp] theorem r_tB (m : EDen) : tB m ρ st = (m ρ st).bind fun d st1 => match d with
  | .bl b => .ok b st1
  | _ => .bad := rfl
@[simp] theorem r_tTr (m : EDen) : tTr m ρ st = (m ρ st).bind fun d st1 => match truth d with
  | some b => .ok b st1
  | none => .bad := rfl
@[simp] theorem r_tAnd (t u : TDen) : tAnd t u ρ st = (t ρ st).bind fun b st1 => if b then u ρ st1 else .ok false st1 := rfl
@[simp] theorem r_tOr (t u : TDen) : tOr t u ρ st = (t ρ st).bind fun b st1 => if b then .ok true st1 else u ρ st1 := rfl
@[simp] theorem r_tNot (t : TDen) : tNot t ρ st = (t ρ st).bind fun b st1 => .ok (!b) st1 := rfl
@[simp] theorem r_eOr (ma mb : EDen) : eOr ma mb ρ st = (ma ρ st).bind fun d st1 => match truth d with
  | some true => .ok d st1
  | some false => mb ρ st1
  | none => .bad := rfl
@[simp] theorem r_eAnd (ma mb : EDen) : eAnd ma mb ρ st = (ma ρ st).bind fun d st1 => match truth d with
  | some false => .ok d st1
  | some true => mb ρ st1
  | none => .bad := rfl
@[simp] theorem r_eNot (ma : EDen) : eNot ma ρ st = (ma ρ st).bind fun d st1 => match truth d with
  | some b => .ok (.bl (!b)) st1
  | none => .bad := rfl
@[simp] theorem r_eIf (t : TDen) (ma mb : EDen) : eIf t ma mb ρ st = (t ρ st).bind fun b st1 => if b then ma ρ st1 else mb ρ st1 := rfl
@[simp] theorem r_tYes : tYes ρ st = .ok true st := rfl
@[simp] theorem r_tOwn (cf : Str → Option CallF) (m : EDen) : tOwn cf m ρ st = (m ρ st).bind fun d st1 => askB cf [] d st1 := rfl
@[simp] theorem r_eOwn (cf : Str → Option CallF) (m : EDen) : eOwn cf m ρ st = (m ρ st).bind fun d st1 => (askB cf [] d st1).bind fun b st2 => .ok (.bl b) st2 := rfl
@[simp] theorem r_cutL (m : EDen) (lo hi : ODen) : eCutL m lo hi ρ st = (m ρ st).bind fun x st1 => (lo ρ st1).bind fun l st2 => (hi ρ st2).bind fun h st3 => gCutL x l h st3 := rfl
@[simp] theorem r_cut (m : EDen) (lo hi : ODen) : eCut m lo hi ρ st = (m ρ st).bind fun x st1 => (lo ρ st1).bind fun l st2 => (hi ρ st2).bind fun h st3 => gCut x l h st3 := rfl
@[simp] theorem r_oNone : oNone ρ st = .ok none st := rfl
@[simp] theorem r_oSome (m : EDen) : oSome m ρ st = (m ρ st).bind fun d st1 => match d with
  | .int i => .ok (some i) st1
  | _ => .bad := rfl
@[simp] theorem r_lSeq (m : EDen) : lSeq m ρ st = (m ρ st).bind fun d st1 => match seqOf d with
  | some ds => .ok ds st1
  | none => .bad := rfl
@[simp] theorem r_range1 (m : ADen) : lRange1 m ρ st = (m ρ st).bind fun ds st1 => match ds with
  | [.int n] => if -1000000000 ≤ n ∧ n ≤ 1000000000 then .ok (upto 0 n.toNat) st1 else .bad
  | _ => .bad := rfl
@[simp] theorem r_range2 (m : ADen) : lRange2 m ρ st = (m ρ st).bind fun ds st1 => match ds with
  | [.int i, .int j] => if -1000000000 ≤ i ∧ i ≤ 1000000000 ∧ -1000000000 ≤ j ∧ j ≤ 1000000000 then .ok (upto i (j - i).toNat) st1 else .bad
  | _ => .bad := rfl
theorem r_enum (m : ADen) : lEnumU m ρ st = (m ρ st).bind fun ds st1 => match ds with
  | [.lst xs] => .ok (numbered xs) st1
  | [.tup xs] => .ok (numbered xs) st1
  | _ => .bad := rfl
@[simp] theorem r_meth (l : List (Str × CallF)) (m : Str) (mo : EDen) (ms : ADen) : eMethU l m mo ms ρ st = (mo ρ st).bind fun d st1 => match instOf st1 d with
  | some (c, fs) => (match l.lookup c with
    | some f => if (fs.lookup m).isNone = true then (ms ρ st1).bind fun ds st2 => f (d :: ds) st2 else .bad
    | none => .bad)
  | none => .bad := rfl
@[simp] theorem r_mNil : mNil ρ st = .ok [] st := rfl
@[simp] theorem r_mVal (m : EDen) (ms : MDen) : mVal m ms ρ st = (m ρ st).bind fun d st1 => (ms ρ st1).bind fun ds st2 => .ok ((d, false) :: ds) st2 := rfl
@[simp] theorem r_mOwn (m : EDen) (ms : MDen) : mOwn m ms ρ st = (m ρ st).bind fun d st1 => (ms ρ st1).bind fun ds st2 => .ok ((d, true) :: ds) st2 := rfl
/-! statements -/
@[simp] theorem r_sNil : sNil ρ st = .nx ρ st := rfl
@[simp] theorem r_seq (a b : SDen) : sSeq a b ρ st = (match a ρ st with
  | .nx ρ' st' => b ρ' st'
  | r => r) := rfl
@[simp] theorem r_drop (m : EDen) : sDrop m ρ st = (m ρ st).s ρ fun _ st' => .nx ρ st' := rfl
@[simp] theorem r_ret (m : EDen) : sRet m ρ st = (m ρ st).s ρ fun d st' => .rt d st' := rfl
@[simp] theorem r_if (t : TDen) (a b : SDen) : sIf t a b ρ st = (t ρ st).s ρ fun c st' => if c then a ρ st' else b ρ st' := rfl
@[simp] theorem r_asg (i : Nat) (m : EDen) : sAsg i m ρ st = (m ρ st).s ρ fun d st' => .nx (ρ.set i (.val d)) st' := rfl
@[simp] theorem r_asgO (i : Nat) (m : EDen) : sAsgO i m ρ st = (m ρ st).s ρ fun d st' => .nx (ρ.set i (.own d)) st' := rfl
@[simp] theorem r_val (i : Nat) (s : SDen) : sVal i s ρ st = (match s ρ st with
  | .nx ρ' st' => .nx (frzE ρ' i) st'
  | r => r) := rfl
@[simp] theorem r_frz (is : List Nat) (s : SDen) : sFrz is s ρ st = s (is.foldl frzE ρ) st := rfl
@[simp] theorem r_par (is : List Nat) (m : MDen) : sPar is m ρ st = (m ρ st).s ρ fun ds st' => if ds.length = is.length then .nx (setR ρ is ds) st' else .bad := rfl
@[simp] theorem r_app (i : Nat) (m : EDen) : sApp i m ρ st = (match ρ[i]? with
  | some (.own (.lst ds)) => (m ρ st).s ρ fun d st1 => if ds.length < 100000 ∧ isLoc d = false then .nx (ρ.set i (.own (.lst (ds ++ [d])))) st1 else .bad
  | _ => .bad) := rfl
@[simp] theorem r_asgT (bd : BDen) (m : EDen) : sAsgT bd m ρ st = (m ρ st).s ρ fun d st' => if isLoc d = true then .bad else match bd d ρ with
  | some ρ' => .nx ρ' st'
  | none => .bad := rfl
@[simp] theorem r_for (mi : LDen) (bd : BDen) (b : SDen) : sFor mi bd b ρ st = (mi ρ st).s ρ fun ds st1 => forGo bd b ds ρ st1 := rfl
@[simp] theorem r_setR0 (is : List Nat) : setR ρ is [] = ρ := by cases is <;> rfl
@[simp] theorem r_setRv (i : Nat) (is : List Nat) (d : D) (ds : List (D × Bool)) : setR ρ (i :: is) ((d, false) :: ds) = setR (ρ.set i (.val d)) is ds := rfl
@[simp] theorem r_setRo (i : Nat) (is : List Nat) (d : D) (ds : List (D × Bool)) : setR ρ (i :: is) ((d, true) :: ds) = setR (ρ.set i (.own d)) is ds := rfl
@[simp] theorem r_bName (i : Nat) (d : D) : bName i d ρ = some (ρ.set i (.val d)) := rfl
@[simp] theorem r_bTup (n : Nat) (b : List D → REnv → Option REnv) (ds : List D) : bTup n b (.tup ds) ρ = if ds.length = n then b ds ρ else none := rfl
@[simp] theorem r_bNil : bNil [] ρ = some ρ := rfl
@[simp] theorem r_bCons (bd : BDen) (bds : List D → REnv → Option REnv) (d : D) (r : List D) : bCons bd bds (d :: r) ρ = (bd d ρ).bind (bds r) := rfl
@[simp] theorem r_frzE (i : Nat) : frzE ρ i = (match ρ[i]? with | some (.own d) => ρ.set i (.val d) | _ => ρ) := rfl
/-! operations -/
@[simp] theorem r_gAddI (i j : Int) : gAddI (.int i) (.int j) st = .ok (.int (i + j)) st := rfl
@[simp] theorem r_gSub (i j : Int) : gSub (.int i) (.int j) st = .ok (.int (i - j)) st := rfl
@[simp] theorem r_gMul (i j : Int) : gMul (.int i) (.int j) st = if (small64 i || small64 j) = true then .ok (.int (i * j)) st else .bad := rfl
@[simp] theorem r_gFdiv (i j : Int) : gFdiv (.int i) (.int j) st = if decide (0 < j ∧ j < 1073741824) = true then .ok (.int (i / j)) st else .bad := rfl
@[simp] theorem r_gMod (i j : Int) : gMod (.int i) (.int j) st = if decide (0 < j) = true then .ok (.int (i % j)) st else .bad := rfl
@[simp] theorem r_gLt (i j : Int) : gLt (.int i) (.int j) st = .ok (.bl (decide (i < j))) st := rfl
@[simp] theorem r_gLe (i j : Int) : gLe (.int i) (.int j) st = .ok (.bl (decide (i ≤ j))) st := rfl
@[simp] theorem r_gGt (i j : Int) : gGt (.int i) (.int j) st = .ok (.bl (decide (j < i))) st := rfl
@[simp] theorem r_gGe (i j : Int) : gGe (.int i) (.int j) st = .ok (.bl (decide (j ≤ i))) st := rfl
@[simp] theorem r_gNeg (i : Int) : gNeg (.int i) st = .ok (.int (-i)) st := rfl
@[simp] theorem r_gIs (d : D) : gIs d .non st = .ok (.bl (isNon d)) st := rfl
@[simp] theorem r_gIsNot (d : D) : gIsNot d .non st = .ok (.bl (!isNon d)) st := rfl
@[simp] theorem r_truthB (b : Bool) : truth (.bl b) = some b := rfl
@[simp] theorem r_truthI (i : Int) : truth (.int i) = some (i != 0) := rfl
@[simp] theorem r_truthN : truth .non = some false := rfl
@[simp] theorem r_truthL (ds : List D) : truth (.lst ds) = some (!ds.isEmpty) := rfl
@[simp] theorem r_truthT (ds : List D) : truth (.tup ds) = some (!ds.isEmpty) := rfl
@[simp] theorem r_seqL (ds : List D) : seqOf (.lst ds) = some ds := rfl
@[simp] theorem r_seqT (ds : List D) : seqOf (.tup ds) = some ds := rfl
end
/-! calls -/
theorem seq_nx {a b : SDen} {ρ ρ' : REnv} {st st' : Store} (h : a ρ st = .nx ρ' st') : sSeq a b ρ st = b ρ' st' := by
  unfold sSeq
  rw [h]
theorem seq_P {a b : SDen} {ρ ρ' : REnv} {st st' : Store} (P : SR → Prop) (h : a ρ st = .nx ρ' st') (k : P (b ρ' st')) : P (sSeq a b ρ st) := by
  rw [seq_nx h]
  exact k
theorem seq_rt {a b : SDen} {ρ : REnv} {st st' : Store} {d : D} (h : a ρ st = .rt d st') : sSeq a b ρ st = .rt d st' := by
  unfold sSeq
  rw [h]
theorem finD_flat {n : Nat} {d : D} {st : Store} (h : isLoc d = false) : finD n d st = .ok d (st.take n) := by
  cases d with
  | loc k => cases h
  | _ => rfl
theorem callD_rt {np nl : Nat} {body : SDen} {ds : List D} {st st' : Store} {d : D} (hl : ds.length = np) (h : body (ds.map Sl.val ++ List.replicate (nl - np) Sl.un) st = .rt d st') (hd : isLoc d = false) : callD np nl body ds st = .ok d (st'.take st.length) := by
  unfold callD
  rw [if_pos hl, h]
  exact finD_flat hd
theorem callD_nx {np nl : Nat} {body : SDen} {ds : List D} {st st' : Store} {ρ' : REnv} (hl : ds.length = np) (h : body (ds.map Sl.val ++ List.replicate (nl - np) Sl.un) st = .nx ρ' st') : callD np nl body ds st = .ok .non (st'.take st.length) := by
  unfold callD
  rw [if_pos hl, h]
  rfl
theorem callD_rt0 {np nl : Nat} {body : SDen} {ds : List D} {st : Store} {d : D} (hl : ds.length = np) (h : body (ds.map Sl.val ++ List.replicate (nl - np) Sl.un) st = .rt d st) (hd : isLoc d = false) : callD np nl body ds st = .ok d st := by
  rw [callD_rt hl h hd, List.take_length]
theorem callD_nx0 {np nl : Nat} {body : SDen} {ds : List D} {st : Store} {ρ' : REnv} (hl : ds.length = np) (h : body (ds.map Sl.val ++ List.replicate (nl - np) Sl.un) st = .nx ρ' st) : callD np nl body ds st = .ok .non st := by
  rw [callD_nx hl h, List.take_length]
/-! loops, comprehensions -/
theorem compGo_map {α : Type} {bd : BDen} {t : TDen} {me : EDen} {ρ : REnv} {st : Store} (emb f : α → D) (q : α → Bool) : ∀ ds : List α, (∀ a ∈ ds, ∃ ρ1, bd (emb a) ρ = some ρ1 ∧ t ρ1 st = .ok (q a) st ∧ (q a = true → me ρ1 st = .ok (f a) st ∧ isLoc (f a) = false)) →
    compGo bd t me ρ (ds.map emb) st = .ok ((ds.filter q).map f) st
  | [], _ => rfl
  | a :: ds, h => by
    obtain ⟨ρ1, h1, h2, h3⟩ := h a List.mem_cons_self
    have ih := compGo_map emb f q ds fun b hb => h b (List.mem_cons_of_mem _ hb)
    rw [List.map_cons]
    unfold compGo
    rw [h1]
    dsimp only
    rw [h2, RC.bind_ok]
    cases hq : q a with
    | true =>
      obtain ⟨h4, h5⟩ := h3 hq
      rw [if_pos rfl, h4, RC.bind_ok, h5, if_neg (by decide), ih, List.filter_cons, hq]
      rfl
    | false =>
      rw [if_neg (by decide), ih, List.filter_cons, hq]
      rfl
theorem eComp_map {α : Type} {mi : LDen} {bd : BDen} {t : TDen} {me : EDen} {vs : List Nat} {ρ : REnv} {st : Store} (emb f : α → D) (q : α → Bool) (ds : List α) (hi : mi ρ st = .ok (ds.map emb) st) (hl : ds.length < 100000)
    (h : ∀ a ∈ ds, ∃ ρ1, bd (emb a) (wipeR ρ vs) = some ρ1 ∧ t ρ1 st = .ok (q a) st ∧ (q a = true → me ρ1 st = .ok (f a) st ∧ isLoc (f a) = false)) : eComp mi bd t me vs ρ st = .ok (.lst ((ds.filter q).map f)) st := by
  unfold eComp
  rw [hi, RC.bind_ok, List.length_map, if_pos hl, compGo_map emb f q ds h]
  rfl
theorem forGo_inv {α : Type} {bd : BDen} {b : SDen} (emb : α → D) (I : REnv → Store → Prop) : ∀ (ds : List α), (∀ a ∈ ds, ∀ ρ st, I ρ st → ∃ ρ1, bd (emb a) ρ = some ρ1 ∧ ∃ ρ2 st2, b ρ1 st = .nx ρ2 st2 ∧ I ρ2 st2) → ∀ ρ st, I ρ st → ∃ ρ2 st2, forGo bd b (ds.map emb) ρ st = .nx ρ2 st2 ∧ I ρ2 st2
  | [], _, ρ, st, i => ⟨ρ, st, rfl, i⟩
  | a :: ds, h, ρ, st, i => by
    obtain ⟨ρ1, h1, ρ2, st2, h2, i2⟩ := h a List.mem_cons_self ρ st i
    obtain ⟨ρ3, st3, h3, i3⟩ := forGo_inv emb I ds (fun x hx => h x (List.mem_cons_of_mem _ hx)) ρ2 st2 i2
    refine ⟨ρ3, st3, ?_, i3⟩
    rw [List.map_cons]
    unfold forGo
    rw [h1]
    dsimp only
    rw [h2]
    exact h3
theorem forGo_find {α : Type} {bd : BDen} {b : SDen} {st : Store} (emb ret : α → D) (p : α → Bool) (Iv : REnv → Prop) : ∀ (ds : List α), (∀ a ∈ ds, ∀ ρ, Iv ρ → ∃ ρ1, bd (emb a) ρ = some ρ1 ∧ (p a = true → b ρ1 st = .rt (ret a) st) ∧ (p a = false → ∃ ρ2, b ρ1 st = .nx ρ2 st ∧ Iv ρ2)) →
    ∀ ρ, Iv ρ → (∃ a, ds.find? p = some a ∧ forGo bd b (ds.map emb) ρ st = .rt (ret a) st) ∨ (ds.find? p = none ∧ ∃ ρ2, forGo bd b (ds.map emb) ρ st = .nx ρ2 st ∧ Iv ρ2)
  | [], _, ρ, i => .inr ⟨rfl, ρ, rfl, i⟩
  | a :: ds, h, ρ, i => by
    obtain ⟨ρ1, h1, h2, h3⟩ := h a List.mem_cons_self ρ i
    rw [List.map_cons]
    unfold forGo
    rw [h1]
    dsimp only
    cases hp : p a with
    | true =>
      refine .inl ⟨a, by rw [List.find?_cons, hp], ?_⟩
      rw [h2 hp]
    | false =>
      obtain ⟨ρ2, h4, i2⟩ := h3 hp
      rw [h4, List.find?_cons, hp]
      exact forGo_find emb ret p Iv ds (fun x hx => h x (List.mem_cons_of_mem _ hx)) ρ2 i2
/-- a list's items with their places, from k on -/
def numF (k : Nat) : List D → List D
  | [] => []
  | d :: r => .tup [.int k, d] :: numF (k + 1) r
theorem numF_get : ∀ (ds : List D) (k i : Nat), (numF k ds)[i]? = (ds[i]?).map fun d => D.tup [.int ((k + i : Nat) : Int), d]
  | [], k, i => by simp [numF]
  | d :: r, k, 0 => by simp [numF]
  | d :: r, k, i + 1 => by
    have := numF_get r (k + 1) i
    simp only [numF, List.getElem?_cons_succ, this]
    rw [show k + 1 + i = k + (i + 1) by omega]
theorem numbered_F (ds : List D) : numbered ds = numF 0 ds := by
  apply List.ext_getElem?
  intro i
  rw [numF_get]
  unfold numbered
  rw [List.getElem?_map]
  by_cases h : i < ds.length
  · simp [h, List.getElem?_eq_getElem h, List.getD]
  · have h' : ds.length ≤ i := by omega
    simp [List.getElem?_eq_none h', h]
end Gh
namespace Lw
open Gh L2 PyProof.Rows PySem.Spec PySem
def top (i : Nat) : Stmt := PySem.Challenge.pw_watchedhands_k63_falls_within_ticks.main.body.getD i (.Pass ⟨0, 0, 0, 0⟩)
abbrev s_Bears___bool__ : Stmt := inClass (top 17) 1
abbrev s_Bears___eq__ : Stmt := inClass (top 17) 2
abbrev s_Passed___eq__ : Stmt := inClass (top 18) 2
abbrev s_Bears___init__ : Stmt := inClass (top 17) 0
abbrev s_Passed___init__ : Stmt := inClass (top 18) 0
abbrev s_check_faults : Stmt := top 10
abbrev s_is_integer : Stmt := top 4
abbrev s_is_number : Stmt := top 6
abbrev s_check_number : Stmt := top 7
abbrev s_check_bound : Stmt := top 19
abbrev s_most_within : Stmt := top 20
abbrev s_soonest : Stmt := top 15
abbrev s_judge_bound : Stmt := top 21
abbrev s_Bears_shows : Stmt := inClass (top 17) 3
abbrev s_Faults___init__ : Stmt := inClass (top 9) 0
abbrev s_Passed___bool__ : Stmt := inClass (top 18) 1
abbrev s_is_row : Stmt := top 5
abbrev s_check_falls : Stmt := top 11
abbrev s_within : Stmt := top 12
abbrev s_are_within : Stmt := top 13
abbrev s_first_beyond : Stmt := top 14
abbrev s_Passed_shows : Stmt := inClass (top 18) 3
abbrev s__law_number : Stmt := top 25
abbrev s__law_take : Stmt := top 26
abbrev s_greatest_ticks : Stmt := top 23
abbrev s_least_most : Stmt := top 22
abbrev s_span_of : Stmt := top 16
abbrev s_law : Stmt := top 27
/-- what the top has written -/
structure Txt (K : PySem.W.Frag) (mg : Glob) : Prop where
  m_Bears___bool__ : TM K mg "Bears" "__bool__" "Bears.__bool__" s_Bears___bool__
  m_Bears___eq__ : TM K mg "Bears" "__eq__" "Bears.__eq__" s_Bears___eq__
  m_Passed___eq__ : TM K mg "Passed" "__eq__" "Passed.__eq__" s_Passed___eq__
  m_Bears___init__ : TM K mg "Bears" "__init__" "Bears.__init__" s_Bears___init__
  m_Passed___init__ : TM K mg "Passed" "__init__" "Passed.__init__" s_Passed___init__
  g_check_faults : TG K mg "check_faults" "check_faults" s_check_faults
  g_is_integer : TG K mg "is_integer" "is_integer" s_is_integer
  g_is_number : TG K mg "is_number" "is_number" s_is_number
  g_check_number : TG K mg "check_number" "check_number" s_check_number
  g_check_bound : TG K mg "check_bound" "check_bound" s_check_bound
  g_most_within : TG K mg "most_within" "most_within" s_most_within
  g_soonest : TG K mg "soonest" "soonest" s_soonest
  g_judge_bound : TG K mg "judge_bound" "judge_bound" s_judge_bound
  m_Bears_shows : TM K mg "Bears" "shows" "Bears.shows" s_Bears_shows
  m_Faults___init__ : TM K mg "Faults" "__init__" "Faults.__init__" s_Faults___init__
  m_Passed___bool__ : TM K mg "Passed" "__bool__" "Passed.__bool__" s_Passed___bool__
  g_is_row : TG K mg "is_row" "is_row" s_is_row
  g_check_falls : TG K mg "check_falls" "check_falls" s_check_falls
  g_within : TG K mg "within" "within" s_within
  g_are_within : TG K mg "are_within" "are_within" s_are_within
  g_first_beyond : TG K mg "first_beyond" "first_beyond" s_first_beyond
  m_Passed_shows : TM K mg "Passed" "shows" "Passed.shows" s_Passed_shows
  g__law_number : TG K mg "_law_number" "_law_number" s__law_number
  g__law_take : TG K mg "_law_take" "_law_take" s__law_take
  g_greatest_ticks : TG K mg "greatest_ticks" "greatest_ticks" s_greatest_ticks
  g_least_most : TG K mg "least_most" "least_most" s_least_most
  g_span_of : TG K mg "span_of" "span_of" s_span_of
  g_law : TG K mg "law" "law" s_law
  c_Faults : TC K mg "Faults"
  c_Bears : TC K mg "Bears"
  c_Passed : TC K mg "Passed"
  a_falls_Passed : AttOk K mg "falls" ["Passed"]
  a_many_Bears : AttOk K mg "many" ["Bears"]
  a_many_Faults : AttOk K mg "many" ["Faults"]
  a_ticks_Faults : AttOk K mg "ticks" ["Faults"]
  i_Bears__Bears__ : TIs K mg "Bears" ["Bears"] []
  i_Faults____ : TIs K mg "Faults" [] []
  i_Faults__Faults__ : TIs K mg "Faults" ["Faults"] []
  i_Passed____Bears : TIs K mg "Passed" [] ["Bears"]
  i_bool : TIb K mg "bool" []
  i_int : TIb K mg "int" []
  i_list_tuple : TIb2 K mg "list" "tuple" []
  n_Bears_Passed__Bears : TNf K mg ["Bears", "Passed"] ["Bears"]
  z_all : mg "all" = none
  z_bool : mg "bool" = none
  z_enumerate : mg "enumerate" = none
  z_int : mg "int" = none
  z_isinstance : mg "isinstance" = none
  z_len : mg "len" = none
  z_list : mg "list" = none
  z_max : mg "max" = none
  z_range : mg "range" = none
  z_tuple : mg "tuple" = none
section
variable {P : Program} {w : World} {K : PySem.W.Frag} {mg : Glob} {base : Heap}
/-! Bears.__bool__ -/
def b_Bears___bool__ : SDen :=
  (sRet (eC (.bl true)))
def m_Bears___bool__ : CallF := callD 1 1 b_Bears___bool__
theorem sc_Bears___bool__ : FnScope ["self"] ["self"] (defScope s_Bears___bool__) := ⟨rfl, rfl, rfl, by decide +kernel, rfl, by decide +kernel, by decide +kernel⟩
theorem fn_Bears___bool__ (T : Txt K mg) {f : Addr} {fd : FuncData} (F : Fun K "__bool__" "Bears.__bool__" s_Bears___bool__ f fd) : FnOk P w K mg base (L2.CX P w) 1 f fd ["self"] (spG K mg m_Bears___bool__) := by
  have nd := (sc_Bears___bool__).nd
  refine Fun.den (m := b_Bears___bool__) (N := ["self"]) (np := 1) (nl := 1) F sc_Bears___bool__ rfl rfl fun cdv A outer s H E hr Γ hx => ?_
  have tk := takes_body (P := P) (w := w) (K := K) (mg := mg) (base := base) (N := ["self"]) (qual := "Bears.__bool__") (sc := defScope s_Bears___bool__) (f := f) (cdv := cdv) (A := A) (outer := outer) (s := s) (H := H) (E := E)
  have ow := own_body (P := P) (w := w) (K := K) (mg := mg) (base := base) (N := ["self"]) (qual := "Bears.__bool__") (sc := defScope s_Bears___bool__) (f := f) (cdv := cdv) (A := A) (outer := outer) (s := s) (H := H) (E := E)
  exact (s_one (s_ret g_bl))
theorem ok_Bears___bool__ (T : Txt K mg) : OkM P w K mg base 1 "Bears" "__bool__" ["self"] m_Bears___bool__ := okM_of T.c_Bears T.m_Bears___bool__ (fun f fd F => F.binds fun _ _ _ _ _ _ us hl => match us, hl with | [_], _ => rfl) fun f fd F => fn_Bears___bool__ T F
/-! Bears.__eq__ -/
def b_Bears___eq__ : SDen :=
  (sRet (eAnd (e1 (gIsi [] ["Bears"] []) (ePeek 1)) (e2 gEq (e1 (eAttC "many" ["Bears"]) (eVar 0)) (e1 (eAttC "many" ["Bears"]) (eVar 1)))))
def m_Bears___eq__ : CallF := callD 2 2 b_Bears___eq__
theorem sc_Bears___eq__ : FnScope ["self", "other"] ["self", "other"] (defScope s_Bears___eq__) := ⟨rfl, rfl, rfl, by decide +kernel, rfl, by decide +kernel, by decide +kernel⟩
theorem fn_Bears___eq__ (T : Txt K mg) {f : Addr} {fd : FuncData} (F : Fun K "__eq__" "Bears.__eq__" s_Bears___eq__ f fd) : FnOk P w K mg base (L2.CX P w) 1 f fd ["self", "other"] (spG K mg m_Bears___eq__) := by
  have nd := (sc_Bears___eq__).nd
  refine Fun.den (m := b_Bears___eq__) (N := ["self", "other"]) (np := 2) (nl := 2) F sc_Bears___eq__ rfl rfl fun cdv A outer s H E hr Γ hx => ?_
  have tk := takes_body (P := P) (w := w) (K := K) (mg := mg) (base := base) (N := ["self", "other"]) (qual := "Bears.__eq__") (sc := defScope s_Bears___eq__) (f := f) (cdv := cdv) (A := A) (outer := outer) (s := s) (H := H) (E := E)
  have ow := own_body (P := P) (w := w) (K := K) (mg := mg) (base := base) (N := ["self", "other"]) (qual := "Bears.__eq__") (sc := defScope s_Bears___eq__) (f := f) (cdv := cdv) (A := A) (outer := outer) (s := s) (H := H) (E := E)
  exact (s_one (s_ret (g_andV rfl (f_isiC T.i_Bears__Bears__ T.z_isinstance (g_peek 1)) (g_one (g_cmp (op_eqU hr.units) sem_eq (g_vr (g_att (cs := ["Bears"]) rfl T.a_many_Bears (g_var 0))) (g_vr (g_att (cs := ["Bears"]) rfl T.a_many_Bears (g_var 1))) rfl)))))
theorem ok_Bears___eq__ (T : Txt K mg) : OkM P w K mg base 1 "Bears" "__eq__" ["self", "other"] m_Bears___eq__ := okM_of T.c_Bears T.m_Bears___eq__ (fun f fd F => F.binds fun _ _ _ _ _ _ us hl => match us, hl with | [_, _], _ => rfl) fun f fd F => fn_Bears___eq__ T F
/-! Passed.__eq__ -/
def b_Passed___eq__ : SDen :=
  (sRet (eAnd (e1 (gIsi [] [] ["Bears"]) (ePeek 1)) (e2 gEq (e1 (eAttC "falls" ["Passed"]) (eVar 0)) eBad)))
def m_Passed___eq__ : CallF := callD 2 2 b_Passed___eq__
theorem sc_Passed___eq__ : FnScope ["self", "other"] ["self", "other"] (defScope s_Passed___eq__) := ⟨rfl, rfl, rfl, by decide +kernel, rfl, by decide +kernel, by decide +kernel⟩
theorem fn_Passed___eq__ (T : Txt K mg) {f : Addr} {fd : FuncData} (F : Fun K "__eq__" "Passed.__eq__" s_Passed___eq__ f fd) : FnOk P w K mg base (L2.CX P w) 1 f fd ["self", "other"] (spG K mg m_Passed___eq__) := by
  have nd := (sc_Passed___eq__).nd
  refine Fun.den (m := b_Passed___eq__) (N := ["self", "other"]) (np := 2) (nl := 2) F sc_Passed___eq__ rfl rfl fun cdv A outer s H E hr Γ hx => ?_
  have tk := takes_body (P := P) (w := w) (K := K) (mg := mg) (base := base) (N := ["self", "other"]) (qual := "Passed.__eq__") (sc := defScope s_Passed___eq__) (f := f) (cdv := cdv) (A := A) (outer := outer) (s := s) (H := H) (E := E)
  have ow := own_body (P := P) (w := w) (K := K) (mg := mg) (base := base) (N := ["self", "other"]) (qual := "Passed.__eq__") (sc := defScope s_Passed___eq__) (f := f) (cdv := cdv) (A := A) (outer := outer) (s := s) (H := H) (E := E)
  exact (s_one (s_ret (g_andV rfl (f_isiC T.i_Passed____Bears T.z_isinstance (g_peek 1)) (g_one (g_cmp (op_eqU hr.units) sem_eq (g_vr (g_att (cs := ["Passed"]) rfl T.a_falls_Passed (g_var 0))) (g_vr e_bad) rfl)))))
theorem ok_Passed___eq__ (T : Txt K mg) : OkM P w K mg base 1 "Passed" "__eq__" ["self", "other"] m_Passed___eq__ := okM_of T.c_Passed T.m_Passed___eq__ (fun f fd F => F.binds fun _ _ _ _ _ _ us hl => match us, hl with | [_, _], _ => rfl) fun f fd F => fn_Passed___eq__ T F
/-! Bears.__init__ -/
def b_Bears___init__ : SDen :=
  (sAtt "many" ["Bears"] (eVar 0) (eVar 1))
def m_Bears___init__ : CallF := callD 2 2 b_Bears___init__
theorem sc_Bears___init__ : FnScope ["self", "many"] ["self", "many"] (defScope s_Bears___init__) := ⟨rfl, rfl, rfl, by decide +kernel, rfl, by decide +kernel, by decide +kernel⟩
theorem fn_Bears___init__ (T : Txt K mg) {f : Addr} {fd : FuncData} (F : Fun K "__init__" "Bears.__init__" s_Bears___init__ f fd) : FnOk P w K mg base (L2.CX P w) 1 f fd ["self", "many"] (spG K mg m_Bears___init__) := by
  have nd := (sc_Bears___init__).nd
  refine Fun.den (m := b_Bears___init__) (N := ["self", "many"]) (np := 2) (nl := 2) F sc_Bears___init__ rfl rfl fun cdv A outer s H E hr Γ hx => ?_
  have tk := takes_body (P := P) (w := w) (K := K) (mg := mg) (base := base) (N := ["self", "many"]) (qual := "Bears.__init__") (sc := defScope s_Bears___init__) (f := f) (cdv := cdv) (A := A) (outer := outer) (s := s) (H := H) (E := E)
  have ow := own_body (P := P) (w := w) (K := K) (mg := mg) (base := base) (N := ["self", "many"]) (qual := "Bears.__init__") (sc := defScope s_Bears___init__) (f := f) (cdv := cdv) (A := A) (outer := outer) (s := s) (H := H) (E := E)
  exact (s_one (s_att (cs := ["Bears"]) rfl T.a_many_Bears (g_var 0) (g_var 1)))
theorem ok_Bears___init__ (T : Txt K mg) : OkM P w K mg base 1 "Bears" "__init__" ["self", "many"] m_Bears___init__ := okM_of T.c_Bears T.m_Bears___init__ (fun f fd F => F.binds fun _ _ _ _ _ _ us hl => match us, hl with | [_, _], _ => rfl) fun f fd F => fn_Bears___init__ T F
/-! Passed.__init__ -/
def b_Passed___init__ : SDen :=
  (sAtt "falls" ["Passed"] (eVar 0) (eN gTuple (aCons (ePeek 1) aNil)))
def m_Passed___init__ : CallF := callD 2 2 b_Passed___init__
theorem sc_Passed___init__ : FnScope ["self", "falls"] ["self", "falls"] (defScope s_Passed___init__) := ⟨rfl, rfl, rfl, by decide +kernel, rfl, by decide +kernel, by decide +kernel⟩
theorem fn_Passed___init__ (T : Txt K mg) {f : Addr} {fd : FuncData} (F : Fun K "__init__" "Passed.__init__" s_Passed___init__ f fd) : FnOk P w K mg base (L2.CX P w) 1 f fd ["self", "falls"] (spG K mg m_Passed___init__) := by
  have nd := (sc_Passed___init__).nd
  refine Fun.den (m := b_Passed___init__) (N := ["self", "falls"]) (np := 2) (nl := 2) F sc_Passed___init__ rfl rfl fun cdv A outer s H E hr Γ hx => ?_
  have tk := takes_body (P := P) (w := w) (K := K) (mg := mg) (base := base) (N := ["self", "falls"]) (qual := "Passed.__init__") (sc := defScope s_Passed___init__) (f := f) (cdv := cdv) (A := A) (outer := outer) (s := s) (H := H) (E := E)
  have ow := own_body (P := P) (w := w) (K := K) (mg := mg) (base := base) (N := ["self", "falls"]) (qual := "Passed.__init__") (sc := defScope s_Passed___init__) (f := f) (cdv := cdv) (A := A) (outer := outer) (s := s) (H := H) (E := E)
  exact (s_one (s_att (cs := ["Passed"]) rfl T.a_falls_Passed (g_var 0) (g_callTy call_tuple_of kV_late sem_tuple T.z_tuple (by decide +kernel) (r_cons (g_peek 1) r_nil))))
theorem ok_Passed___init__ (T : Txt K mg) : OkM P w K mg base 1 "Passed" "__init__" ["self", "falls"] m_Passed___init__ := okM_of T.c_Passed T.m_Passed___init__ (fun f fd F => F.binds fun _ _ _ _ _ _ us hl => match us, hl with | [_, _], _ => rfl) fun f fd F => fn_Passed___init__ T F
/-! check_faults -/
def b_check_faults : SDen :=
  (sIf (tNot (tTr (e1 (gIsi [] ["Faults"] []) (ePeek 0)))) sBad sNil)
def m_check_faults : CallF := callD 1 1 b_check_faults
theorem sc_check_faults : FnScope ["faults"] ["faults"] (defScope s_check_faults) := ⟨rfl, rfl, rfl, by decide +kernel, rfl, by decide +kernel, by decide +kernel⟩
theorem fn_check_faults (T : Txt K mg) {f : Addr} {fd : FuncData} (F : Fun K "check_faults" "check_faults" s_check_faults f fd) : FnOk P w K mg base (L2.CX P w) 1 f fd ["faults"] (spG K mg m_check_faults) := by
  have nd := (sc_check_faults).nd
  refine Fun.den (m := b_check_faults) (N := ["faults"]) (np := 1) (nl := 1) F sc_check_faults rfl rfl fun cdv A outer s H E hr Γ hx => ?_
  have tk := takes_body (P := P) (w := w) (K := K) (mg := mg) (base := base) (N := ["faults"]) (qual := "check_faults") (sc := defScope s_check_faults) (f := f) (cdv := cdv) (A := A) (outer := outer) (s := s) (H := H) (E := E)
  have ow := own_body (P := P) (w := w) (K := K) (mg := mg) (base := base) (N := ["faults"]) (qual := "check_faults") (sc := defScope s_check_faults) (f := f) (cdv := cdv) (A := A) (outer := outer) (s := s) (H := H) (E := E)
  exact (s_one (s_if (g_not (g_tr rfl (g_vr (f_isiC T.i_Faults__Faults__ T.z_isinstance (g_peek 0))))) (s_one s_bad) s_nil))
theorem ok_check_faults (T : Txt K mg) : OkG P w K mg base 1 "check_faults" ["faults"] m_check_faults := okG_of T.g_check_faults (fun f fd F => F.binds fun _ _ _ _ _ _ us hl => match us, hl with | [_], _ => rfl) fun f fd F => fn_check_faults T F
/-! is_integer -/
def b_is_integer : SDen :=
  (sRet (eAnd (e1 (gIsi ["int"] [] []) (ePeek 0)) (eNot (e1 (gIsi ["bool"] [] []) (ePeek 0)))))
def m_is_integer : CallF := callD 1 1 b_is_integer
theorem sc_is_integer : FnScope ["thing"] ["thing"] (defScope s_is_integer) := ⟨rfl, rfl, rfl, by decide +kernel, rfl, by decide +kernel, by decide +kernel⟩
theorem fn_is_integer (T : Txt K mg) {f : Addr} {fd : FuncData} (F : Fun K "is_integer" "is_integer" s_is_integer f fd) : FnOk P w K mg base (L2.CX P w) 1 f fd ["thing"] (spG K mg m_is_integer) := by
  have nd := (sc_is_integer).nd
  refine Fun.den (m := b_is_integer) (N := ["thing"]) (np := 1) (nl := 1) F sc_is_integer rfl rfl fun cdv A outer s H E hr Γ hx => ?_
  have tk := takes_body (P := P) (w := w) (K := K) (mg := mg) (base := base) (N := ["thing"]) (qual := "is_integer") (sc := defScope s_is_integer) (f := f) (cdv := cdv) (A := A) (outer := outer) (s := s) (H := H) (E := E)
  have ow := own_body (P := P) (w := w) (K := K) (mg := mg) (base := base) (N := ["thing"]) (qual := "is_integer") (sc := defScope s_is_integer) (f := f) (cdv := cdv) (A := A) (outer := outer) (s := s) (H := H) (E := E)
  exact (s_one (s_ret (g_andV rfl (f_isiB T.i_int T.z_isinstance T.z_int (by decide +kernel) (g_peek 0)) (g_one (g_notV rfl (g_vr (f_isiB T.i_bool T.z_isinstance T.z_bool (by decide +kernel) (g_peek 0))))))))
theorem ok_is_integer (T : Txt K mg) : OkG P w K mg base 1 "is_integer" ["thing"] m_is_integer := okG_of T.g_is_integer (fun f fd F => F.binds fun _ _ _ _ _ _ us hl => match us, hl with | [_], _ => rfl) fun f fd F => fn_is_integer T F
/-! is_number -/
def b_is_number : SDen :=
  (sRet (eAnd (eCall m_is_integer (aCons (eVar 0) aNil)) (eChain gLe gLe (ePeek 1) (ePeek 0) (ePeek 2))))
def m_is_number : CallF := callD 3 3 b_is_number
theorem sc_is_number : FnScope ["thing", "low", "high"] ["thing", "low", "high"] (defScope s_is_number) := ⟨rfl, rfl, rfl, by decide +kernel, rfl, by decide +kernel, by decide +kernel⟩
theorem fn_is_number (T : Txt K mg) {f : Addr} {fd : FuncData} (F : Fun K "is_number" "is_number" s_is_number f fd) : FnOk P w K mg base (L2.CX P w) 2 f fd ["thing", "low", "high"] (spG K mg m_is_number) := by
  have nd := (sc_is_number).nd
  refine Fun.den (m := b_is_number) (N := ["thing", "low", "high"]) (np := 3) (nl := 3) F sc_is_number rfl rfl fun cdv A outer s H E hr Γ hx => ?_
  have tk := takes_body (P := P) (w := w) (K := K) (mg := mg) (base := base) (N := ["thing", "low", "high"]) (qual := "is_number") (sc := defScope s_is_number) (f := f) (cdv := cdv) (A := A) (outer := outer) (s := s) (H := H) (E := E)
  have ow := own_body (P := P) (w := w) (K := K) (mg := mg) (base := base) (N := ["thing", "low", "high"]) (qual := "is_number") (sc := defScope s_is_number) (f := f) (cdv := cdv) (A := A) (outer := outer) (s := s) (H := H) (E := E)
  exact (s_one (s_ret (g_andV rfl (f_call (ok_is_integer T) (hr.mono (by decide)) tk (g_cons (g_var 0) g_nil)) (g_one (g_chain op_le op_le sem_le sem_le (g_peek 1) (g_peek 0) (g_peek 2))))))
theorem ok_is_number (T : Txt K mg) : OkG P w K mg base 2 "is_number" ["thing", "low", "high"] m_is_number := okG_of T.g_is_number (fun f fd F => F.binds fun _ _ _ _ _ _ us hl => match us, hl with | [_, _, _], _ => rfl) fun f fd F => fn_is_number T F
/-! check_number -/
def b_check_number : SDen :=
  (sIf (tNot (tTr (eCall m_is_number (aCons (eVar 1) (aCons (eVar 2) (aCons (eVar 3) aNil)))))) sBad sNil)
def m_check_number : CallF := callD 4 4 b_check_number
theorem sc_check_number : FnScope ["part", "thing", "low", "high"] ["part", "thing", "low", "high"] (defScope s_check_number) := ⟨rfl, rfl, rfl, by decide +kernel, rfl, by decide +kernel, by decide +kernel⟩
theorem fn_check_number (T : Txt K mg) {f : Addr} {fd : FuncData} (F : Fun K "check_number" "check_number" s_check_number f fd) : FnOk P w K mg base (L2.CX P w) 3 f fd ["part", "thing", "low", "high"] (spG K mg m_check_number) := by
  have nd := (sc_check_number).nd
  refine Fun.den (m := b_check_number) (N := ["part", "thing", "low", "high"]) (np := 4) (nl := 4) F sc_check_number rfl rfl fun cdv A outer s H E hr Γ hx => ?_
  have tk := takes_body (P := P) (w := w) (K := K) (mg := mg) (base := base) (N := ["part", "thing", "low", "high"]) (qual := "check_number") (sc := defScope s_check_number) (f := f) (cdv := cdv) (A := A) (outer := outer) (s := s) (H := H) (E := E)
  have ow := own_body (P := P) (w := w) (K := K) (mg := mg) (base := base) (N := ["part", "thing", "low", "high"]) (qual := "check_number") (sc := defScope s_check_number) (f := f) (cdv := cdv) (A := A) (outer := outer) (s := s) (H := H) (E := E)
  exact (s_one (s_if (g_not (g_tr rfl (g_vr (f_call (ok_is_number T) (hr.mono (by decide)) tk (g_cons (g_var 1) (g_cons (g_var 2) (g_cons (g_var 3) g_nil))))))) (s_one s_bad) s_nil))
theorem ok_check_number (T : Txt K mg) : OkG P w K mg base 3 "check_number" ["part", "thing", "low", "high"] m_check_number := okG_of T.g_check_number (fun f fd F => F.binds fun _ _ _ _ _ _ us hl => match us, hl with | [_, _, _, _], _ => rfl) fun f fd F => fn_check_number T F
/-! check_bound -/
def b_check_bound : SDen :=
  (sSeq (sDrop (eCall m_check_number (aCons (eC (.str "most")) (aCons (eVar 0) (aCons (eC (.int 0)) (aCons (eC (.int 99)) aNil))))))
  (sSeq (sDrop (eCall m_check_number (aCons (eC (.str "ticks")) (aCons (eVar 1) (aCons (eC (.int 1)) (aCons (eC (.int 99)) aNil))))))
  (sDrop (eCall m_check_faults (aCons (eVar 2) aNil)))))
def m_check_bound : CallF := callD 3 3 b_check_bound
theorem sc_check_bound : FnScope ["most", "ticks", "faults"] ["most", "ticks", "faults"] (defScope s_check_bound) := ⟨rfl, rfl, rfl, by decide +kernel, rfl, by decide +kernel, by decide +kernel⟩
theorem fn_check_bound (T : Txt K mg) {f : Addr} {fd : FuncData} (F : Fun K "check_bound" "check_bound" s_check_bound f fd) : FnOk P w K mg base (L2.CX P w) 4 f fd ["most", "ticks", "faults"] (spG K mg m_check_bound) := by
  have nd := (sc_check_bound).nd
  refine Fun.den (m := b_check_bound) (N := ["most", "ticks", "faults"]) (np := 3) (nl := 3) F sc_check_bound rfl rfl fun cdv A outer s H E hr Γ hx => ?_
  have tk := takes_body (P := P) (w := w) (K := K) (mg := mg) (base := base) (N := ["most", "ticks", "faults"]) (qual := "check_bound") (sc := defScope s_check_bound) (f := f) (cdv := cdv) (A := A) (outer := outer) (s := s) (H := H) (E := E)
  have ow := own_body (P := P) (w := w) (K := K) (mg := mg) (base := base) (N := ["most", "ticks", "faults"]) (qual := "check_bound") (sc := defScope s_check_bound) (f := f) (cdv := cdv) (A := A) (outer := outer) (s := s) (H := H) (E := E)
  exact (s_cons (s_drop (f_call (ok_check_number T) (hr.mono (by decide)) tk (g_cons g_str (g_cons (g_var 0) (g_cons g_int (g_cons g_int g_nil))))))
    (s_cons (s_drop (f_call (ok_check_number T) (hr.mono (by decide)) tk (g_cons g_str (g_cons (g_var 1) (g_cons g_int (g_cons g_int g_nil))))))
    (s_one (s_drop (f_call (ok_check_faults T) (hr.mono (by decide)) tk (g_cons (g_var 2) g_nil))))))
theorem ok_check_bound (T : Txt K mg) : OkG P w K mg base 4 "check_bound" ["most", "ticks", "faults"] m_check_bound := okG_of T.g_check_bound (fun f fd F => F.binds fun _ _ _ _ _ _ us hl => match us, hl with | [_, _, _], _ => rfl) fun f fd F => fn_check_bound T F
/-! most_within -/
def b_most_within : SDen :=
  (sSeq (sDrop (eCall m_check_number (aCons (eC (.str "ticks")) (aCons (eVar 0) (aCons (eC (.int 1)) (aCons (eC (.int 999)) aNil))))))
  (sSeq (sDrop (eCall m_check_faults (aCons (eVar 1) aNil)))
  (sRet (e2 gMul (e2 gFdiv (e2 gSub (e2 gAddI (ePeek 0) (e1 (eAttC "ticks" ["Faults"]) (eVar 1))) (eC (.int 1))) (e1 (eAttC "ticks" ["Faults"]) (eVar 1))) (e1 (eAttC "many" ["Faults"]) (eVar 1))))))
def m_most_within : CallF := callD 2 2 b_most_within
theorem sc_most_within : FnScope ["ticks", "faults"] ["ticks", "faults"] (defScope s_most_within) := ⟨rfl, rfl, rfl, by decide +kernel, rfl, by decide +kernel, by decide +kernel⟩
theorem fn_most_within (T : Txt K mg) {f : Addr} {fd : FuncData} (F : Fun K "most_within" "most_within" s_most_within f fd) : FnOk P w K mg base (L2.CX P w) 4 f fd ["ticks", "faults"] (spG K mg m_most_within) := by
  have nd := (sc_most_within).nd
  refine Fun.den (m := b_most_within) (N := ["ticks", "faults"]) (np := 2) (nl := 2) F sc_most_within rfl rfl fun cdv A outer s H E hr Γ hx => ?_
  have tk := takes_body (P := P) (w := w) (K := K) (mg := mg) (base := base) (N := ["ticks", "faults"]) (qual := "most_within") (sc := defScope s_most_within) (f := f) (cdv := cdv) (A := A) (outer := outer) (s := s) (H := H) (E := E)
  have ow := own_body (P := P) (w := w) (K := K) (mg := mg) (base := base) (N := ["ticks", "faults"]) (qual := "most_within") (sc := defScope s_most_within) (f := f) (cdv := cdv) (A := A) (outer := outer) (s := s) (H := H) (E := E)
  exact (s_cons (s_drop (f_call (ok_check_number T) (hr.mono (by decide)) tk (g_cons g_str (g_cons (g_var 0) (g_cons g_int (g_cons g_int g_nil))))))
    (s_cons (s_drop (f_call (ok_check_faults T) (hr.mono (by decide)) tk (g_cons (g_var 1) g_nil)))
    (s_one (s_ret (g_bin op_mul kV_late sem_mul (g_vr (g_bin op_fdiv kV_late sem_fdiv (g_vr (g_bin op_sub kV_late sem_sub (g_vr (g_bin op_add kV_late sem_addI (g_peek 0) (g_vr (g_att (cs := ["Faults"]) rfl T.a_ticks_Faults (g_var 1))))) (g_vr g_int))) (g_vr (g_att (cs := ["Faults"]) rfl T.a_ticks_Faults (g_var 1))))) (g_vr (g_att (cs := ["Faults"]) rfl T.a_many_Faults (g_var 1))))))))
theorem ok_most_within (T : Txt K mg) : OkG P w K mg base 4 "most_within" ["ticks", "faults"] m_most_within := okG_of T.g_most_within (fun f fd F => F.binds fun _ _ _ _ _ _ us hl => match us, hl with | [_, _], _ => rfl) fun f fd F => fn_most_within T F
/-! soonest -/
def b_soonest : SDen :=
  (sSeq (sDrop (eCall m_check_faults (aCons (eVar 0) aNil)))
  (sSeq (sDrop (eCall m_check_number (aCons (eC (.str "many")) (aCons (eVar 1) (aCons (eC (.int 0)) (aCons (eC (.int 999)) aNil))))))
  (sSeq (sIf (tB (e2 gEq (e1 (eAttC "many" ["Faults"]) (eVar 0)) (eC (.int 0)))) (sRet (eIf (tB (e2 gEq (ePeek 1) (eC (.int 0)))) (eLst aNil) (eC .non))) sNil)
  (sRet (eComp (lRange1 (aCons (eVar 1) aNil)) (bName 2) tYes (e2 gMul (e2 gFdiv (ePeek 2) (e1 (eAttC "many" ["Faults"]) (eVar 0))) (e1 (eAttC "ticks" ["Faults"]) (eVar 0))) [2])))))
def m_soonest : CallF := callD 2 3 b_soonest
theorem sc_soonest : FnScope ["faults", "many", "number"] ["faults", "many"] (defScope s_soonest) := ⟨rfl, rfl, rfl, by decide +kernel, rfl, by decide +kernel, by decide +kernel⟩
theorem fn_soonest (T : Txt K mg) {f : Addr} {fd : FuncData} (F : Fun K "soonest" "soonest" s_soonest f fd) : FnOk P w K mg base (L2.CX P w) 4 f fd ["faults", "many"] (spG K mg m_soonest) := by
  have nd := (sc_soonest).nd
  refine Fun.den (m := b_soonest) (N := ["faults", "many", "number"]) (np := 2) (nl := 3) F sc_soonest rfl rfl fun cdv A outer s H E hr Γ hx => ?_
  have tk := takes_body (P := P) (w := w) (K := K) (mg := mg) (base := base) (N := ["faults", "many", "number"]) (qual := "soonest") (sc := defScope s_soonest) (f := f) (cdv := cdv) (A := A) (outer := outer) (s := s) (H := H) (E := E)
  have ow := own_body (P := P) (w := w) (K := K) (mg := mg) (base := base) (N := ["faults", "many", "number"]) (qual := "soonest") (sc := defScope s_soonest) (f := f) (cdv := cdv) (A := A) (outer := outer) (s := s) (H := H) (E := E)
  exact (s_cons (s_drop (f_call (ok_check_faults T) (hr.mono (by decide)) tk (g_cons (g_var 0) g_nil)))
    (s_cons (s_drop (f_call (ok_check_number T) (hr.mono (by decide)) tk (g_cons g_str (g_cons (g_var 1) (g_cons g_int (g_cons g_int g_nil))))))
    (s_cons (s_if (g_tcmp (op_eqU hr.units) sem_eq (g_vr (g_att (cs := ["Faults"]) rfl T.a_many_Faults (g_var 0))) (g_vr g_int) rfl) (s_one (s_ret (g_if kV_late (g_tcmp (op_eqU hr.units) sem_eq (g_peek 1) (g_vr g_int) rfl) (g_ov (g_lst g_nil)) g_non))) s_nil)
    (s_one (s_ret (g_ov (g_lc (own := [("number", 2)]) rfl nd (i_gc (i_range1 T.z_range (g_cons (g_var 1) g_nil))) (blkOk_by (by kernel_rfl)) (fun _ _ _ _ _ => (b_name 2 nd)) (fun _ _ _ _ _ => ts_nil) (fun _ _ _ _ _ => (g_bin op_mul kV_late sem_mul (g_vr (g_bin op_fdiv kV_late sem_fdiv (g_peek 2) (g_vr (g_att (cs := ["Faults"]) rfl T.a_many_Faults (g_var 0))))) (g_vr (g_att (cs := ["Faults"]) rfl T.a_ticks_Faults (g_var 0))))))))))))
theorem ok_soonest (T : Txt K mg) : OkG P w K mg base 4 "soonest" ["faults", "many"] m_soonest := okG_of T.g_soonest (fun f fd F => F.binds fun _ _ _ _ _ _ us hl => match us, hl with | [_, _], _ => rfl) fun f fd F => fn_soonest T F
/-! judge_bound -/
def b_judge_bound : SDen :=
  (sSeq (sDrop (eCall m_check_bound (aCons (eVar 0) (aCons (eVar 1) (aCons (eVar 2) aNil)))))
  (sSeq (sAsg 3 (eCall m_most_within (aCons (eVar 1) (aCons (eVar 2) aNil))))
  (sRet (eIf (tB (e2 gLe (ePeek 3) (ePeek 0))) (eMake "Bears" m_Bears___init__ (aCons (eVar 3) aNil)) (eMake "Passed" m_Passed___init__ (aCons (eCall m_soonest (aCons (eVar 2) (aCons (e2 gAddI (ePeek 0) (eC (.int 1))) aNil))) aNil))))))
def m_judge_bound : CallF := callD 3 4 b_judge_bound
theorem sc_judge_bound : FnScope ["most", "ticks", "faults", "many"] ["most", "ticks", "faults"] (defScope s_judge_bound) := ⟨rfl, rfl, rfl, by decide +kernel, rfl, by decide +kernel, by decide +kernel⟩
theorem fn_judge_bound (T : Txt K mg) {f : Addr} {fd : FuncData} (F : Fun K "judge_bound" "judge_bound" s_judge_bound f fd) : FnOk P w K mg base (L2.CX P w) 5 f fd ["most", "ticks", "faults"] (spG K mg m_judge_bound) := by
  have nd := (sc_judge_bound).nd
  refine Fun.den (m := b_judge_bound) (N := ["most", "ticks", "faults", "many"]) (np := 3) (nl := 4) F sc_judge_bound rfl rfl fun cdv A outer s H E hr Γ hx => ?_
  have tk := takes_body (P := P) (w := w) (K := K) (mg := mg) (base := base) (N := ["most", "ticks", "faults", "many"]) (qual := "judge_bound") (sc := defScope s_judge_bound) (f := f) (cdv := cdv) (A := A) (outer := outer) (s := s) (H := H) (E := E)
  have ow := own_body (P := P) (w := w) (K := K) (mg := mg) (base := base) (N := ["most", "ticks", "faults", "many"]) (qual := "judge_bound") (sc := defScope s_judge_bound) (f := f) (cdv := cdv) (A := A) (outer := outer) (s := s) (H := H) (E := E)
  exact (s_cons (s_drop (f_call (ok_check_bound T) (hr.mono (by decide)) tk (g_cons (g_var 0) (g_cons (g_var 1) (g_cons (g_var 2) g_nil)))))
    (s_cons (s_asg nd (f_call (ok_most_within T) (hr.mono (by decide)) tk (g_cons (g_var 1) (g_cons (g_var 2) g_nil))))
    (s_one (s_ret (g_if kV_late (g_tcmp op_le sem_le (g_peek 3) (g_peek 0) rfl) (f_make (okC_of T.c_Bears (ok_Bears___init__ T)) (hr.mono (by decide)) tk (g_cons (g_var 3) g_nil)) (f_make (okC_of T.c_Passed (ok_Passed___init__ T)) (hr.mono (by decide)) tk (g_cons (f_call (ok_soonest T) (hr.mono (by decide)) tk (g_cons (g_var 2) (g_cons (g_bin op_add kV_late sem_addI (g_peek 0) (g_vr g_int)) g_nil))) g_nil)))))))
theorem ok_judge_bound (T : Txt K mg) : OkG P w K mg base 5 "judge_bound" ["most", "ticks", "faults"] m_judge_bound := okG_of T.g_judge_bound (fun f fd F => F.binds fun _ _ _ _ _ _ us hl => match us, hl with | [_, _, _], _ => rfl) fun f fd F => fn_judge_bound T F
/-! Bears.shows -/
def b_Bears_shows : SDen :=
  (sRet (e2 (gEqI (fun c => List.lookup c [("Bears", m_Bears___eq__), ("Passed", m_Passed___eq__)]) ["Bears"]) (eCall m_judge_bound (aCons (eVar 1) (aCons (eVar 2) (aCons (eVar 3) aNil)))) (eVar 0)))
def m_Bears_shows : CallF := callD 4 4 b_Bears_shows
theorem sc_Bears_shows : FnScope ["self", "most", "ticks", "faults"] ["self", "most", "ticks", "faults"] (defScope s_Bears_shows) := ⟨rfl, rfl, rfl, by decide +kernel, rfl, by decide +kernel, by decide +kernel⟩
theorem fn_Bears_shows (T : Txt K mg) {f : Addr} {fd : FuncData} (F : Fun K "shows" "Bears.shows" s_Bears_shows f fd) : FnOk P w K mg base (L2.CX P w) 6 f fd ["self", "most", "ticks", "faults"] (spG K mg m_Bears_shows) := by
  have nd := (sc_Bears_shows).nd
  refine Fun.den (m := b_Bears_shows) (N := ["self", "most", "ticks", "faults"]) (np := 4) (nl := 4) F sc_Bears_shows rfl rfl fun cdv A outer s H E hr Γ hx => ?_
  have tk := takes_body (P := P) (w := w) (K := K) (mg := mg) (base := base) (N := ["self", "most", "ticks", "faults"]) (qual := "Bears.shows") (sc := defScope s_Bears_shows) (f := f) (cdv := cdv) (A := A) (outer := outer) (s := s) (H := H) (E := E)
  have ow := own_body (P := P) (w := w) (K := K) (mg := mg) (base := base) (N := ["self", "most", "ticks", "faults"]) (qual := "Bears.shows") (sc := defScope s_Bears_shows) (f := f) (cdv := cdv) (A := A) (outer := outer) (s := s) (H := H) (E := E)
  exact (s_one (s_ret (f_eqI (l := [("Bears", m_Bears___eq__), ("Passed", m_Passed___eq__)]) (cs := ["Bears"]) (.cons ((ok_Bears___eq__ T).mono (k := 1) (by decide)) (.cons ((ok_Passed___eq__ T).mono (k := 1) (by decide)) .nil)) T.n_Bears_Passed__Bears (hr.mono (by decide)) (f_call (ok_judge_bound T) (hr.mono (by decide)) tk (g_cons (g_var 1) (g_cons (g_var 2) (g_cons (g_var 3) g_nil)))) (g_var 0))))
theorem ok_Bears_shows (T : Txt K mg) : OkM P w K mg base 6 "Bears" "shows" ["self", "most", "ticks", "faults"] m_Bears_shows := okM_of T.c_Bears T.m_Bears_shows (fun f fd F => F.binds fun _ _ _ _ _ _ us hl => match us, hl with | [_, _, _, _], _ => rfl) fun f fd F => fn_Bears_shows T F
/-! Faults.__init__ -/
def b_Faults___init__ : SDen :=
  (sSeq (sDrop (eCall m_check_number (aCons (eC (.str "many")) (aCons (eVar 1) (aCons (eC (.int 0)) (aCons (eC (.int 999)) aNil))))))
  (sSeq (sDrop (eCall m_check_number (aCons (eC (.str "ticks")) (aCons (eVar 2) (aCons (eC (.int 1)) (aCons (eC (.int 99)) aNil))))))
  (sSeq (sAtt "many" ["Faults"] (eVar 0) (eVar 1))
  (sAtt "ticks" ["Faults"] (eVar 0) (eVar 2)))))
def m_Faults___init__ : CallF := callD 3 3 b_Faults___init__
theorem sc_Faults___init__ : FnScope ["self", "many", "ticks"] ["self", "many", "ticks"] (defScope s_Faults___init__) := ⟨rfl, rfl, rfl, by decide +kernel, rfl, by decide +kernel, by decide +kernel⟩
theorem fn_Faults___init__ (T : Txt K mg) {f : Addr} {fd : FuncData} (F : Fun K "__init__" "Faults.__init__" s_Faults___init__ f fd) : FnOk P w K mg base (L2.CX P w) 4 f fd ["self", "many", "ticks"] (spG K mg m_Faults___init__) := by
  have nd := (sc_Faults___init__).nd
  refine Fun.den (m := b_Faults___init__) (N := ["self", "many", "ticks"]) (np := 3) (nl := 3) F sc_Faults___init__ rfl rfl fun cdv A outer s H E hr Γ hx => ?_
  have tk := takes_body (P := P) (w := w) (K := K) (mg := mg) (base := base) (N := ["self", "many", "ticks"]) (qual := "Faults.__init__") (sc := defScope s_Faults___init__) (f := f) (cdv := cdv) (A := A) (outer := outer) (s := s) (H := H) (E := E)
  have ow := own_body (P := P) (w := w) (K := K) (mg := mg) (base := base) (N := ["self", "many", "ticks"]) (qual := "Faults.__init__") (sc := defScope s_Faults___init__) (f := f) (cdv := cdv) (A := A) (outer := outer) (s := s) (H := H) (E := E)
  exact (s_cons (s_drop (f_call (ok_check_number T) (hr.mono (by decide)) tk (g_cons g_str (g_cons (g_var 1) (g_cons g_int (g_cons g_int g_nil))))))
    (s_cons (s_drop (f_call (ok_check_number T) (hr.mono (by decide)) tk (g_cons g_str (g_cons (g_var 2) (g_cons g_int (g_cons g_int g_nil))))))
    (s_cons (s_att (cs := ["Faults"]) rfl T.a_many_Faults (g_var 0) (g_var 1))
    (s_one (s_att (cs := ["Faults"]) rfl T.a_ticks_Faults (g_var 0) (g_var 2))))))
theorem ok_Faults___init__ (T : Txt K mg) : OkM P w K mg base 4 "Faults" "__init__" ["self", "many", "ticks"] m_Faults___init__ := okM_of T.c_Faults T.m_Faults___init__ (fun f fd F => F.binds fun _ _ _ _ _ _ us hl => match us, hl with | [_, _, _], _ => rfl) fun f fd F => fn_Faults___init__ T F
/-! Passed.__bool__ -/
def b_Passed___bool__ : SDen :=
  (sRet (eC (.bl false)))
def m_Passed___bool__ : CallF := callD 1 1 b_Passed___bool__
theorem sc_Passed___bool__ : FnScope ["self"] ["self"] (defScope s_Passed___bool__) := ⟨rfl, rfl, rfl, by decide +kernel, rfl, by decide +kernel, by decide +kernel⟩
theorem fn_Passed___bool__ (T : Txt K mg) {f : Addr} {fd : FuncData} (F : Fun K "__bool__" "Passed.__bool__" s_Passed___bool__ f fd) : FnOk P w K mg base (L2.CX P w) 1 f fd ["self"] (spG K mg m_Passed___bool__) := by
  have nd := (sc_Passed___bool__).nd
  refine Fun.den (m := b_Passed___bool__) (N := ["self"]) (np := 1) (nl := 1) F sc_Passed___bool__ rfl rfl fun cdv A outer s H E hr Γ hx => ?_
  have tk := takes_body (P := P) (w := w) (K := K) (mg := mg) (base := base) (N := ["self"]) (qual := "Passed.__bool__") (sc := defScope s_Passed___bool__) (f := f) (cdv := cdv) (A := A) (outer := outer) (s := s) (H := H) (E := E)
  have ow := own_body (P := P) (w := w) (K := K) (mg := mg) (base := base) (N := ["self"]) (qual := "Passed.__bool__") (sc := defScope s_Passed___bool__) (f := f) (cdv := cdv) (A := A) (outer := outer) (s := s) (H := H) (E := E)
  exact (s_one (s_ret g_bl))
theorem ok_Passed___bool__ (T : Txt K mg) : OkM P w K mg base 1 "Passed" "__bool__" ["self"] m_Passed___bool__ := okM_of T.c_Passed T.m_Passed___bool__ (fun f fd F => F.binds fun _ _ _ _ _ _ us hl => match us, hl with | [_], _ => rfl) fun f fd F => fn_Passed___bool__ T F
/-! is_row -/
def b_is_row : SDen :=
  (sRet (e1 (gIsi ["list", "tuple"] [] []) (ePeek 0)))
def m_is_row : CallF := callD 1 1 b_is_row
theorem sc_is_row : FnScope ["thing"] ["thing"] (defScope s_is_row) := ⟨rfl, rfl, rfl, by decide +kernel, rfl, by decide +kernel, by decide +kernel⟩
theorem fn_is_row (T : Txt K mg) {f : Addr} {fd : FuncData} (F : Fun K "is_row" "is_row" s_is_row f fd) : FnOk P w K mg base (L2.CX P w) 1 f fd ["thing"] (spG K mg m_is_row) := by
  have nd := (sc_is_row).nd
  refine Fun.den (m := b_is_row) (N := ["thing"]) (np := 1) (nl := 1) F sc_is_row rfl rfl fun cdv A outer s H E hr Γ hx => ?_
  have tk := takes_body (P := P) (w := w) (K := K) (mg := mg) (base := base) (N := ["thing"]) (qual := "is_row") (sc := defScope s_is_row) (f := f) (cdv := cdv) (A := A) (outer := outer) (s := s) (H := H) (E := E)
  have ow := own_body (P := P) (w := w) (K := K) (mg := mg) (base := base) (N := ["thing"]) (qual := "is_row") (sc := defScope s_is_row) (f := f) (cdv := cdv) (A := A) (outer := outer) (s := s) (H := H) (E := E)
  exact (s_one (s_ret (f_isiB2 T.i_list_tuple T.z_isinstance T.z_list (by decide +kernel) T.z_tuple (by decide +kernel) (g_peek 0))))
theorem ok_is_row (T : Txt K mg) : OkG P w K mg base 1 "is_row" ["thing"] m_is_row := okG_of T.g_is_row (fun f fd F => F.binds fun _ _ _ _ _ _ us hl => match us, hl with | [_], _ => rfl) fun f fd F => fn_is_row T F
/-! check_falls -/
def b_check_falls : SDen :=
  (sSeq (sIf (tNot (tTr (eCall m_is_row (aCons (eVar 0) aNil)))) sBad sNil)
  (sSeq (sAsg 1 (eC (.int 0)))
  (sFor (lEnumU (aCons (eVar 0) aNil)) (bTup 2 (bCons (bName 2) (bCons (bName 3) bNil))) (sSeq (sIf (tNot (tTr (eCall m_is_number (aCons (eVar 3) (aCons (eVar 1) (aCons (eC (.int 99999)) aNil)))))) sBad sNil)
  (sAsg 1 (eVar 3))))))
def m_check_falls : CallF := callD 1 4 b_check_falls
theorem sc_check_falls : FnScope ["falls", "last", "place", "tick"] ["falls"] (defScope s_check_falls) := ⟨rfl, rfl, rfl, by decide +kernel, rfl, by decide +kernel, by decide +kernel⟩
theorem fn_check_falls (T : Txt K mg) {f : Addr} {fd : FuncData} (F : Fun K "check_falls" "check_falls" s_check_falls f fd) : FnOk P w K mg base (L2.CX P w) 3 f fd ["falls"] (spG K mg m_check_falls) := by
  have nd := (sc_check_falls).nd
  refine Fun.den (m := b_check_falls) (N := ["falls", "last", "place", "tick"]) (np := 1) (nl := 4) F sc_check_falls rfl rfl fun cdv A outer s H E hr Γ hx => ?_
  have tk := takes_body (P := P) (w := w) (K := K) (mg := mg) (base := base) (N := ["falls", "last", "place", "tick"]) (qual := "check_falls") (sc := defScope s_check_falls) (f := f) (cdv := cdv) (A := A) (outer := outer) (s := s) (H := H) (E := E)
  have ow := own_body (P := P) (w := w) (K := K) (mg := mg) (base := base) (N := ["falls", "last", "place", "tick"]) (qual := "check_falls") (sc := defScope s_check_falls) (f := f) (cdv := cdv) (A := A) (outer := outer) (s := s) (H := H) (E := E)
  exact (s_cons (s_if (g_not (g_tr rfl (g_vr (f_call (ok_is_row T) (hr.mono (by decide)) tk (g_cons (g_var 0) g_nil))))) (s_one s_bad) s_nil)
    (s_cons (s_asg nd g_int)
    (s_one (s_for ow rfl (i_enumU rfl T.z_enumerate (g_cons (g_var 0) g_nil)) (fun Γ => (b_tup rfl rfl (b_cons (b_name 2 nd) (b_cons (b_name 3 nd) b_nil)))) (fun Γ => (s_cons (s_if (g_not (g_tr rfl (g_vr (f_call (ok_is_number T) (hr.mono (by decide)) tk (g_cons (g_var 3) (g_cons (g_var 1) (g_cons g_int g_nil))))))) (s_one s_bad) s_nil)
    (s_one (s_asg nd (g_var 3)))))))))
theorem ok_check_falls (T : Txt K mg) : OkG P w K mg base 3 "check_falls" ["falls"] m_check_falls := okG_of T.g_check_falls (fun f fd F => F.binds fun _ _ _ _ _ _ us hl => match us, hl with | [_], _ => rfl) fun f fd F => fn_check_falls T F
/-! within -/
def b_within : SDen :=
  (sRet (eN gTuple (aCons (eComp (lSeq (eVar 0)) (bName 3) (tB (e2 gGt (ePeek 3) (e2 gSub (ePeek 1) (ePeek 2)))) (eVar 3) [3]) aNil)))
def m_within : CallF := callD 3 4 b_within
theorem sc_within : FnScope ["falls", "now", "ticks", "tick"] ["falls", "now", "ticks"] (defScope s_within) := ⟨rfl, rfl, rfl, by decide +kernel, rfl, by decide +kernel, by decide +kernel⟩
theorem fn_within (T : Txt K mg) {f : Addr} {fd : FuncData} (F : Fun K "within" "within" s_within f fd) : FnOk P w K mg base (L2.CX P w) 1 f fd ["falls", "now", "ticks"] (spG K mg m_within) := by
  have nd := (sc_within).nd
  refine Fun.den (m := b_within) (N := ["falls", "now", "ticks", "tick"]) (np := 3) (nl := 4) F sc_within rfl rfl fun cdv A outer s H E hr Γ hx => ?_
  have tk := takes_body (P := P) (w := w) (K := K) (mg := mg) (base := base) (N := ["falls", "now", "ticks", "tick"]) (qual := "within") (sc := defScope s_within) (f := f) (cdv := cdv) (A := A) (outer := outer) (s := s) (H := H) (E := E)
  have ow := own_body (P := P) (w := w) (K := K) (mg := mg) (base := base) (N := ["falls", "now", "ticks", "tick"]) (qual := "within") (sc := defScope s_within) (f := f) (cdv := cdv) (A := A) (outer := outer) (s := s) (H := H) (E := E)
  exact (s_one (s_ret (g_callTy call_tuple_of kV_late sem_tuple T.z_tuple (by decide +kernel) (r_cons (g_vr (g_ov (g_lc (own := [("tick", 3)]) rfl nd (i_gc (i_seq rfl (g_var 0))) (blkOk_by (by kernel_rfl)) (fun _ _ _ _ _ => (b_name 3 nd)) (fun _ _ _ _ _ => (ts_one (g_tcmp op_gt sem_gt (g_peek 3) (g_vr (g_bin op_sub kV_late sem_sub (g_peek 1) (g_peek 2))) rfl))) (fun _ _ _ _ _ => (g_var 3))))) r_nil))))
theorem ok_within (T : Txt K mg) : OkG P w K mg base 1 "within" ["falls", "now", "ticks"] m_within := okG_of T.g_within (fun f fd F => F.binds fun _ _ _ _ _ _ us hl => match us, hl with | [_, _, _], _ => rfl) fun f fd F => fn_within T F
/-! are_within -/
def b_are_within : SDen :=
  (sSeq (sDrop (eCall m_check_faults (aCons (eVar 0) aNil)))
  (sSeq (sDrop (eCall m_check_falls (aCons (eVar 1) aNil)))
  (sRet (eN gAll (aCons (eComp (lEnumU (aCons (eVar 1) aNil)) (bTup 2 (bCons (bName 2) (bCons (bName 3) bNil))) tYes (e2 gLe (eN gLen (aCons (eCall m_within (aCons (eCutL (eN gList (aCons (ePeek 1) aNil)) oNone (oSome (e2 gAddI (ePeek 2) (eC (.int 1))))) (aCons (eVar 3) (aCons (e1 (eAttC "ticks" ["Faults"]) (eVar 0)) aNil)))) aNil)) (e1 (eAttC "many" ["Faults"]) (eVar 0))) [2, 3]) aNil)))))
def m_are_within : CallF := callD 2 4 b_are_within
theorem sc_are_within : FnScope ["faults", "falls", "place", "tick"] ["faults", "falls"] (defScope s_are_within) := ⟨rfl, rfl, rfl, by decide +kernel, rfl, by decide +kernel, by decide +kernel⟩
theorem fn_are_within (T : Txt K mg) {f : Addr} {fd : FuncData} (F : Fun K "are_within" "are_within" s_are_within f fd) : FnOk P w K mg base (L2.CX P w) 4 f fd ["faults", "falls"] (spG K mg m_are_within) := by
  have nd := (sc_are_within).nd
  refine Fun.den (m := b_are_within) (N := ["faults", "falls", "place", "tick"]) (np := 2) (nl := 4) F sc_are_within rfl rfl fun cdv A outer s H E hr Γ hx => ?_
  have tk := takes_body (P := P) (w := w) (K := K) (mg := mg) (base := base) (N := ["faults", "falls", "place", "tick"]) (qual := "are_within") (sc := defScope s_are_within) (f := f) (cdv := cdv) (A := A) (outer := outer) (s := s) (H := H) (E := E)
  have ow := own_body (P := P) (w := w) (K := K) (mg := mg) (base := base) (N := ["faults", "falls", "place", "tick"]) (qual := "are_within") (sc := defScope s_are_within) (f := f) (cdv := cdv) (A := A) (outer := outer) (s := s) (H := H) (E := E)
  exact (s_cons (s_drop (f_call (ok_check_faults T) (hr.mono (by decide)) tk (g_cons (g_var 0) g_nil)))
    (s_cons (s_drop (f_call (ok_check_falls T) (hr.mono (by decide)) tk (g_cons (g_var 1) g_nil)))
    (s_one (s_ret (g_callB (cr_all rfl) kV_late sem_all T.z_all (by decide +kernel) (r_cons (g_vr (g_ov (g_lc (own := [("place", 2), ("tick", 3)]) rfl nd (i_gc (i_enumU rfl T.z_enumerate (g_cons (g_var 1) g_nil))) (blkOk_by (by kernel_rfl)) (fun _ _ _ _ _ => (b_tup rfl rfl (b_cons (b_name 2 nd) (b_cons (b_name 3 nd) b_nil)))) (fun _ _ _ _ _ => ts_nil) (fun _ _ _ _ _ => (g_cmp op_le sem_le (g_vr (g_callB call_lenU kV_late sem_len T.z_len (by decide +kernel) (r_cons (g_vr (f_call (ok_within T) (hr.mono (by decide)) takesW (g_cons (g_ov (g_cutL rfl (g_vr (g_ov (g_callTy call_list_of kO_late sem_list T.z_list (by decide +kernel) (r_cons (g_peek 1) r_nil)))) o_none (o_some (g_vr (g_bin op_add kV_late sem_addI (g_peek 2) (g_vr g_int)))))) (g_cons (g_var 3) (g_cons (g_att (cs := ["Faults"]) rfl T.a_ticks_Faults (g_var 0)) g_nil))))) r_nil))) (g_vr (g_att (cs := ["Faults"]) rfl T.a_many_Faults (g_var 0))) rfl))))) r_nil))))))
theorem ok_are_within (T : Txt K mg) : OkG P w K mg base 4 "are_within" ["faults", "falls"] m_are_within := okG_of T.g_are_within (fun f fd F => F.binds fun _ _ _ _ _ _ us hl => match us, hl with | [_, _], _ => rfl) fun f fd F => fn_are_within T F
/-! first_beyond -/
def b_first_beyond : SDen :=
  (sSeq (sDrop (eCall m_check_number (aCons (eC (.str "most")) (aCons (eVar 0) (aCons (eC (.int 0)) (aCons (eC (.int 99)) aNil))))))
  (sSeq (sDrop (eCall m_check_number (aCons (eC (.str "ticks")) (aCons (eVar 1) (aCons (eC (.int 1)) (aCons (eC (.int 99)) aNil))))))
  (sSeq (sDrop (eCall m_check_falls (aCons (eVar 2) aNil)))
  (sSeq (sFor (lEnumU (aCons (eVar 2) aNil)) (bTup 2 (bCons (bName 3) (bCons (bName 4) bNil))) (sIf (tB (e2 gGt (eN gLen (aCons (eCall m_within (aCons (eCutL (eN gList (aCons (ePeek 2) aNil)) oNone (oSome (e2 gAddI (ePeek 3) (eC (.int 1))))) (aCons (eVar 4) (aCons (eVar 1) aNil)))) aNil)) (ePeek 0))) (sRet (eVar 3)) sNil))
  (sRet (eC .non))))))
def m_first_beyond : CallF := callD 3 5 b_first_beyond
theorem sc_first_beyond : FnScope ["most", "ticks", "falls", "place", "tick"] ["most", "ticks", "falls"] (defScope s_first_beyond) := ⟨rfl, rfl, rfl, by decide +kernel, rfl, by decide +kernel, by decide +kernel⟩
theorem fn_first_beyond (T : Txt K mg) {f : Addr} {fd : FuncData} (F : Fun K "first_beyond" "first_beyond" s_first_beyond f fd) : FnOk P w K mg base (L2.CX P w) 4 f fd ["most", "ticks", "falls"] (spG K mg m_first_beyond) := by
  have nd := (sc_first_beyond).nd
  refine Fun.den (m := b_first_beyond) (N := ["most", "ticks", "falls", "place", "tick"]) (np := 3) (nl := 5) F sc_first_beyond rfl rfl fun cdv A outer s H E hr Γ hx => ?_
  have tk := takes_body (P := P) (w := w) (K := K) (mg := mg) (base := base) (N := ["most", "ticks", "falls", "place", "tick"]) (qual := "first_beyond") (sc := defScope s_first_beyond) (f := f) (cdv := cdv) (A := A) (outer := outer) (s := s) (H := H) (E := E)
  have ow := own_body (P := P) (w := w) (K := K) (mg := mg) (base := base) (N := ["most", "ticks", "falls", "place", "tick"]) (qual := "first_beyond") (sc := defScope s_first_beyond) (f := f) (cdv := cdv) (A := A) (outer := outer) (s := s) (H := H) (E := E)
  exact (s_cons (s_drop (f_call (ok_check_number T) (hr.mono (by decide)) tk (g_cons g_str (g_cons (g_var 0) (g_cons g_int (g_cons g_int g_nil))))))
    (s_cons (s_drop (f_call (ok_check_number T) (hr.mono (by decide)) tk (g_cons g_str (g_cons (g_var 1) (g_cons g_int (g_cons g_int g_nil))))))
    (s_cons (s_drop (f_call (ok_check_falls T) (hr.mono (by decide)) tk (g_cons (g_var 2) g_nil)))
    (s_cons (s_for ow rfl (i_enumU rfl T.z_enumerate (g_cons (g_var 2) g_nil)) (fun Γ => (b_tup rfl rfl (b_cons (b_name 3 nd) (b_cons (b_name 4 nd) b_nil)))) (fun Γ => (s_one (s_if (g_tcmp op_gt sem_gt (g_vr (g_callB call_lenU kV_late sem_len T.z_len (by decide +kernel) (r_cons (g_vr (f_call (ok_within T) (hr.mono (by decide)) tk (g_cons (g_ov (g_cutL rfl (g_vr (g_ov (g_callTy call_list_of kO_late sem_list T.z_list (by decide +kernel) (r_cons (g_peek 2) r_nil)))) o_none (o_some (g_vr (g_bin op_add kV_late sem_addI (g_peek 3) (g_vr g_int)))))) (g_cons (g_var 4) (g_cons (g_var 1) g_nil))))) r_nil))) (g_peek 0) rfl) (s_one (s_ret (g_var 3))) s_nil))))
    (s_one (s_ret g_non))))))
theorem ok_first_beyond (T : Txt K mg) : OkG P w K mg base 4 "first_beyond" ["most", "ticks", "falls"] m_first_beyond := okG_of T.g_first_beyond (fun f fd F => F.binds fun _ _ _ _ _ _ us hl => match us, hl with | [_, _, _], _ => rfl) fun f fd F => fn_first_beyond T F
/-! Passed.shows -/
def b_Passed_shows : SDen :=
  (sSeq (sDrop (eCall m_check_bound (aCons (eVar 1) (aCons (eVar 2) (aCons (eVar 3) aNil)))))
  (sSeq (sAsg 4 (eC (.int 0)))
  (sSeq (sFor (lSeq (e1 (eAttC "falls" ["Passed"]) (eVar 0))) (bName 5) (sSeq (sIf (tNot (tTr (eCall m_is_number (aCons (eVar 5) (aCons (eVar 4) (aCons (eC (.int 99999)) aNil)))))) (sRet (eC (.bl false))) sNil)
  (sAsg 4 (eVar 5))))
  (sSeq (sIf (tNot (tTr (eCall m_are_within (aCons (eVar 3) (aCons (e1 (eAttC "falls" ["Passed"]) (eVar 0)) aNil))))) (sRet (eC (.bl false))) sNil)
  (sRet (eAnd (e2 gEq (eCall m_first_beyond (aCons (eVar 1) (aCons (eVar 2) (aCons (e1 (eAttC "falls" ["Passed"]) (eVar 0)) aNil)))) (e2 gSub (eN gLen (aCons (e1 (eAttC "falls" ["Passed"]) (eVar 0)) aNil)) (eC (.int 1)))) (e2 gNe (e1 (eAttC "falls" ["Passed"]) (eVar 0)) (eTup aNil))))))))
def m_Passed_shows : CallF := callD 4 6 b_Passed_shows
theorem sc_Passed_shows : FnScope ["self", "most", "ticks", "faults", "last", "tick"] ["self", "most", "ticks", "faults"] (defScope s_Passed_shows) := ⟨rfl, rfl, rfl, by decide +kernel, rfl, by decide +kernel, by decide +kernel⟩
theorem fn_Passed_shows (T : Txt K mg) {f : Addr} {fd : FuncData} (F : Fun K "shows" "Passed.shows" s_Passed_shows f fd) : FnOk P w K mg base (L2.CX P w) 5 f fd ["self", "most", "ticks", "faults"] (spG K mg m_Passed_shows) := by
  have nd := (sc_Passed_shows).nd
  refine Fun.den (m := b_Passed_shows) (N := ["self", "most", "ticks", "faults", "last", "tick"]) (np := 4) (nl := 6) F sc_Passed_shows rfl rfl fun cdv A outer s H E hr Γ hx => ?_
  have tk := takes_body (P := P) (w := w) (K := K) (mg := mg) (base := base) (N := ["self", "most", "ticks", "faults", "last", "tick"]) (qual := "Passed.shows") (sc := defScope s_Passed_shows) (f := f) (cdv := cdv) (A := A) (outer := outer) (s := s) (H := H) (E := E)
  have ow := own_body (P := P) (w := w) (K := K) (mg := mg) (base := base) (N := ["self", "most", "ticks", "faults", "last", "tick"]) (qual := "Passed.shows") (sc := defScope s_Passed_shows) (f := f) (cdv := cdv) (A := A) (outer := outer) (s := s) (H := H) (E := E)
  exact (s_cons (s_drop (f_call (ok_check_bound T) (hr.mono (by decide)) tk (g_cons (g_var 1) (g_cons (g_var 2) (g_cons (g_var 3) g_nil)))))
    (s_cons (s_asg nd g_int)
    (s_cons (s_for ow rfl (i_seq rfl (g_att (cs := ["Passed"]) rfl T.a_falls_Passed (g_var 0))) (fun Γ => (b_name 5 nd)) (fun Γ => (s_cons (s_if (g_not (g_tr rfl (g_vr (f_call (ok_is_number T) (hr.mono (by decide)) tk (g_cons (g_var 5) (g_cons (g_var 4) (g_cons g_int g_nil))))))) (s_one (s_ret g_bl)) s_nil)
    (s_one (s_asg nd (g_var 5))))))
    (s_cons (s_if (g_not (g_tr rfl (g_vr (f_call (ok_are_within T) (hr.mono (by decide)) tk (g_cons (g_var 3) (g_cons (g_att (cs := ["Passed"]) rfl T.a_falls_Passed (g_var 0)) g_nil)))))) (s_one (s_ret g_bl)) s_nil)
    (s_one (s_ret (g_andV rfl (g_cmp (op_eqU hr.units) sem_eq (g_vr (f_call (ok_first_beyond T) (hr.mono (by decide)) tk (g_cons (g_var 1) (g_cons (g_var 2) (g_cons (g_att (cs := ["Passed"]) rfl T.a_falls_Passed (g_var 0)) g_nil))))) (g_vr (g_bin op_sub kV_late sem_sub (g_vr (g_callB call_lenU kV_late sem_len T.z_len (by decide +kernel) (r_cons (g_vr (g_att (cs := ["Passed"]) rfl T.a_falls_Passed (g_var 0))) r_nil))) (g_vr g_int))) rfl) (g_one (g_cmp (op_neU hr.units) sem_ne (g_vr (g_att (cs := ["Passed"]) rfl T.a_falls_Passed (g_var 0))) (g_vr (g_tup g_nil)) rfl)))))))))
theorem ok_Passed_shows (T : Txt K mg) : OkM P w K mg base 5 "Passed" "shows" ["self", "most", "ticks", "faults"] m_Passed_shows := okM_of T.c_Passed T.m_Passed_shows (fun f fd F => F.binds fun _ _ _ _ _ _ us hl => match us, hl with | [_, _, _, _], _ => rfl) fun f fd F => fn_Passed_shows T F
/-! _law_number -/
def b__law_number : SDen :=
  (sSeq (sAsgT (bTup 2 (bCons (bName 2) (bCons (bName 3) bNil))) (eIf (tB (e2 gNe (ePeek 0) (eLst aNil))) (eTup (aCons (e2 gIx (ePeek 0) (e2 gMod (ePeek 1) (eN gLen (aCons (ePeek 0) aNil)))) (aCons (e2 gFdiv (ePeek 1) (eN gLen (aCons (ePeek 0) aNil))) aNil))) (eTup (aCons (eC (.int 12345)) (aCons (eC (.int 0)) aNil)))))
  (sSeq (sAsg 4 (eIf (tB (e2 gLt (ePeek 3) (eC (.int 60)))) (e2 gSub (ePeek 2) (e2 gPow (eC (.int 10)) (eC (.int 18)))) (eC (.int 0))))
  (sSeq (sFor (lRange1 (aCons (e2 gMod (eN gInt (aCons (ePeek 3) aNil)) (eC (.int 60))) aNil)) (bName 5) (sAsg 4 (e2 gFdiv (ePeek 4) (eC (.int 1009)))))
  (sSeq (sIf (tB (e2 gGt (ePeek 4) (eC (.int 0)))) (sRet (e2 gMod (eN gInt (aCons (ePeek 4) aNil)) (eC (.int 1009)))) sNil)
  (sSeq (sAsg 6 (e2 gMod (e2 gAddI (e2 gMul (eN gInt (aCons (e2 gAddI (ePeek 2) (e2 gMul (eC (.int 977)) (ePeek 1))) aNil)) (eC (.int 48271))) (e2 gMul (eC (.int 31)) (eN gLen (aCons (ePeek 0) aNil)))) (eC (.int 2147483647))))
  (sSeq (sAsg 6 (e2 gMod (e2 gAddI (e2 gMul (ePeek 6) (ePeek 6)) (e2 gMul (eC (.int 40503)) (ePeek 1))) (eC (.int 2147483629))))
  (sRet (eN gInt (aCons (e2 gMod (e2 gAddI (e2 gMul (ePeek 6) (eC (.int 69621))) (e2 gFdiv (ePeek 6) (eC (.int 977)))) (eC (.int 2147483587))) aNil)))))))))
def m__law_number : CallF := callD 2 7 b__law_number
theorem sc__law_number : FnScope ["script", "index", "cell", "turn", "rest", "step", "blend"] ["script", "index"] (defScope s__law_number) := ⟨rfl, rfl, rfl, by decide +kernel, rfl, by decide +kernel, by decide +kernel⟩
theorem fn__law_number (T : Txt K mg) {f : Addr} {fd : FuncData} (F : Fun K "_law_number" "_law_number" s__law_number f fd) : FnOk P w K mg base (L2.CX P w) 1 f fd ["script", "index"] (spG K mg m__law_number) := by
  have nd := (sc__law_number).nd
  refine Fun.den (m := b__law_number) (N := ["script", "index", "cell", "turn", "rest", "step", "blend"]) (np := 2) (nl := 7) F sc__law_number rfl rfl fun cdv A outer s H E hr Γ hx => ?_
  have tk := takes_body (P := P) (w := w) (K := K) (mg := mg) (base := base) (N := ["script", "index", "cell", "turn", "rest", "step", "blend"]) (qual := "_law_number") (sc := defScope s__law_number) (f := f) (cdv := cdv) (A := A) (outer := outer) (s := s) (H := H) (E := E)
  have ow := own_body (P := P) (w := w) (K := K) (mg := mg) (base := base) (N := ["script", "index", "cell", "turn", "rest", "step", "blend"]) (qual := "_law_number") (sc := defScope s__law_number) (f := f) (cdv := cdv) (A := A) (outer := outer) (s := s) (H := H) (E := E)
  exact (s_cons (s_asgT (g_if kV_late (g_tcmp (op_neU hr.units) sem_ne (g_peek 0) (g_vr (g_ov (g_lst g_nil))) rfl) (g_tup (g_cons (g_sub rfl (hu_of hr) (g_peek 0) (g_vr (g_bin op_mod kV_late sem_mod (g_peek 1) (g_vr (g_callB call_lenU kV_late sem_len T.z_len (by decide +kernel) (r_cons (g_peek 0) r_nil)))))) (g_cons (g_bin op_fdiv kV_late sem_fdiv (g_peek 1) (g_vr (g_callB call_lenU kV_late sem_len T.z_len (by decide +kernel) (r_cons (g_peek 0) r_nil)))) g_nil))) (g_tup (g_cons g_int (g_cons g_int g_nil)))) (b_tup rfl rfl (b_cons (b_name 2 nd) (b_cons (b_name 3 nd) b_nil))))
    (s_cons (s_asg nd (g_if kV_late (g_tcmp op_lt sem_lt (g_peek 3) (g_vr g_int) rfl) (g_bin op_sub kV_late sem_sub (g_peek 2) (g_vr (g_bin op_pow kV_late sem_pow (g_vr g_int) (g_vr g_int)))) g_int))
    (s_cons (s_for ow rfl (i_range1 T.z_range (g_cons (g_bin op_mod kV_late sem_mod (g_vr (g_callTy call_int1 kV_late sem_int T.z_int (by decide +kernel) (r_cons (g_peek 3) r_nil))) (g_vr g_int)) g_nil)) (fun Γ => (b_name 5 nd)) (fun Γ => (s_one (s_asg nd (g_bin op_fdiv kV_late sem_fdiv (g_peek 4) (g_vr g_int))))))
    (s_cons (s_if (g_tcmp op_gt sem_gt (g_peek 4) (g_vr g_int) rfl) (s_one (s_ret (g_bin op_mod kV_late sem_mod (g_vr (g_callTy call_int1 kV_late sem_int T.z_int (by decide +kernel) (r_cons (g_peek 4) r_nil))) (g_vr g_int)))) s_nil)
    (s_cons (s_asg nd (g_bin op_mod kV_late sem_mod (g_vr (g_bin op_add kV_late sem_addI (g_vr (g_bin op_mul kV_late sem_mul (g_vr (g_callTy call_int1 kV_late sem_int T.z_int (by decide +kernel) (r_cons (g_vr (g_bin op_add kV_late sem_addI (g_peek 2) (g_vr (g_bin op_mul kV_late sem_mul (g_vr g_int) (g_peek 1))))) r_nil))) (g_vr g_int))) (g_vr (g_bin op_mul kV_late sem_mul (g_vr g_int) (g_vr (g_callB call_lenU kV_late sem_len T.z_len (by decide +kernel) (r_cons (g_peek 0) r_nil))))))) (g_vr g_int)))
    (s_cons (s_asg nd (g_bin op_mod kV_late sem_mod (g_vr (g_bin op_add kV_late sem_addI (g_vr (g_bin op_mul kV_late sem_mul (g_peek 6) (g_peek 6))) (g_vr (g_bin op_mul kV_late sem_mul (g_vr g_int) (g_peek 1))))) (g_vr g_int)))
    (s_one (s_ret (g_callTy call_int1 kV_late sem_int T.z_int (by decide +kernel) (r_cons (g_vr (g_bin op_mod kV_late sem_mod (g_vr (g_bin op_add kV_late sem_addI (g_vr (g_bin op_mul kV_late sem_mul (g_peek 6) (g_vr g_int))) (g_vr (g_bin op_fdiv kV_late sem_fdiv (g_peek 6) (g_vr g_int))))) (g_vr g_int))) r_nil))))))))))
theorem ok__law_number (T : Txt K mg) : OkG P w K mg base 1 "_law_number" ["script", "index"] m__law_number := okG_of T.g__law_number (fun f fd F => F.binds fun _ _ _ _ _ _ us hl => match us, hl with | [_, _], _ => rfl) fun f fd F => fn__law_number T F
/-! _law_take -/
def b__law_take : SDen :=
  (sSeq (sAugI (eVar 0) (eC (.int 1)) gAddI (eC (.int 1)))
  (sRet (e2 gMod (eN gInt (aCons (eCall m__law_number (aCons (e2 gIx (ePeek 0) (eC (.int 0))) (aCons (eN gInt (aCons (e2 gIx (ePeek 0) (eC (.int 1))) aNil)) aNil))) aNil)) (ePeek 1))))
def m__law_take : CallF := callD 2 2 b__law_take
theorem sc__law_take : FnScope ["draw", "many"] ["draw", "many"] (defScope s__law_take) := ⟨rfl, rfl, rfl, by decide +kernel, rfl, by decide +kernel, by decide +kernel⟩
theorem fn__law_take (T : Txt K mg) {f : Addr} {fd : FuncData} (F : Fun K "_law_take" "_law_take" s__law_take f fd) : FnOk P w K mg base (L2.CX P w) 2 f fd ["draw", "many"] (spG K mg m__law_take) := by
  have nd := (sc__law_take).nd
  refine Fun.den (m := b__law_take) (N := ["draw", "many"]) (np := 2) (nl := 2) F sc__law_take rfl rfl fun cdv A outer s H E hr Γ hx => ?_
  have tk := takes_body (P := P) (w := w) (K := K) (mg := mg) (base := base) (N := ["draw", "many"]) (qual := "_law_take") (sc := defScope s__law_take) (f := f) (cdv := cdv) (A := A) (outer := outer) (s := s) (H := H) (E := E)
  have ow := own_body (P := P) (w := w) (K := K) (mg := mg) (base := base) (N := ["draw", "many"]) (qual := "_law_take") (sc := defScope s__law_take) (f := f) (cdv := cdv) (A := A) (outer := outer) (s := s) (H := H) (E := E)
  exact (s_cons (s_augI rfl (g_var 0) g_int g_int iop_add sem_addI)
    (s_one (s_ret (g_bin op_mod kV_late sem_mod (g_vr (g_callTy call_int1 kV_late sem_int T.z_int (by decide +kernel) (r_cons (g_vr (f_call (ok__law_number T) (hr.mono (by decide)) tk (g_cons (g_sub rfl (hu_of hr) (g_peek 0) (g_vr g_int)) (g_cons (g_callTy call_int1 kV_late sem_int T.z_int (by decide +kernel) (r_cons (g_vr (g_sub rfl (hu_of hr) (g_peek 0) (g_vr g_int))) r_nil)) g_nil)))) r_nil))) (g_peek 1)))))
theorem ok__law_take (T : Txt K mg) : OkG P w K mg base 2 "_law_take" ["draw", "many"] m__law_take := okG_of T.g__law_take (fun f fd F => F.binds fun _ _ _ _ _ _ us hl => match us, hl with | [_, _], _ => rfl) fun f fd F => fn__law_take T F
/-! greatest_ticks -/
def b_greatest_ticks : SDen :=
  (sSeq (sDrop (eCall m_check_number (aCons (eC (.str "most")) (aCons (eVar 0) (aCons (eC (.int 0)) (aCons (eC (.int 99)) aNil))))))
  (sSeq (sDrop (eCall m_check_faults (aCons (eVar 1) aNil)))
  (sSeq (sVal 2 (sAsgO 2 (eComp (lRange2 (aCons (eC (.int 1)) (aCons (eC (.int 100)) aNil))) (bName 3) (tB (e2 gLe (eCall m_most_within (aCons (eVar 3) (aCons (eVar 1) aNil))) (ePeek 0))) (eVar 3) [3])))
  (sRet (eIf (tB (e2 gNe (ePeek 2) (eLst aNil))) (e2 gIx (ePeek 2) (e1 gNeg (eC (.int 1)))) (eC (.int 0)))))))
def m_greatest_ticks : CallF := callD 2 4 b_greatest_ticks
theorem sc_greatest_ticks : FnScope ["most", "faults", "good", "ticks"] ["most", "faults"] (defScope s_greatest_ticks) := ⟨rfl, rfl, rfl, by decide +kernel, rfl, by decide +kernel, by decide +kernel⟩
theorem fn_greatest_ticks (T : Txt K mg) {f : Addr} {fd : FuncData} (F : Fun K "greatest_ticks" "greatest_ticks" s_greatest_ticks f fd) : FnOk P w K mg base (L2.CX P w) 5 f fd ["most", "faults"] (spG K mg m_greatest_ticks) := by
  have nd := (sc_greatest_ticks).nd
  refine Fun.den (m := b_greatest_ticks) (N := ["most", "faults", "good", "ticks"]) (np := 2) (nl := 4) F sc_greatest_ticks rfl rfl fun cdv A outer s H E hr Γ hx => ?_
  have tk := takes_body (P := P) (w := w) (K := K) (mg := mg) (base := base) (N := ["most", "faults", "good", "ticks"]) (qual := "greatest_ticks") (sc := defScope s_greatest_ticks) (f := f) (cdv := cdv) (A := A) (outer := outer) (s := s) (H := H) (E := E)
  have ow := own_body (P := P) (w := w) (K := K) (mg := mg) (base := base) (N := ["most", "faults", "good", "ticks"]) (qual := "greatest_ticks") (sc := defScope s_greatest_ticks) (f := f) (cdv := cdv) (A := A) (outer := outer) (s := s) (H := H) (E := E)
  exact (s_cons (s_drop (f_call (ok_check_number T) (hr.mono (by decide)) tk (g_cons g_str (g_cons (g_var 0) (g_cons g_int (g_cons g_int g_nil))))))
    (s_cons (s_drop (f_call (ok_check_faults T) (hr.mono (by decide)) tk (g_cons (g_var 1) g_nil)))
    (s_cons (s_val 2 (s_asgLc (own := [("ticks", 3)]) rfl nd (by rfl) (i_gc (i_range2 T.z_range (g_cons g_int (g_cons g_int g_nil)))) (blkOk_by (by kernel_rfl)) (fun _ _ _ _ _ => (b_name 3 nd)) (fun _ _ _ _ _ => (ts_one (g_tcmp op_le sem_le (g_vr (f_call (ok_most_within T) (hr.mono (by decide)) takesW (g_cons (g_var 3) (g_cons (g_var 1) g_nil)))) (g_peek 0) rfl))) (fun _ _ _ _ _ => (g_var 3))))
    (s_one (s_ret (g_if kV_late (g_tcmp (op_neU hr.units) sem_ne (g_peek 2) (g_vr (g_ov (g_lst g_nil))) rfl) (g_sub rfl (hu_of hr) (g_peek 2) (g_vr (g_un un_neg kV_late sem_neg (g_vr g_int)))) g_int))))))
theorem ok_greatest_ticks (T : Txt K mg) : OkG P w K mg base 5 "greatest_ticks" ["most", "faults"] m_greatest_ticks := okG_of T.g_greatest_ticks (fun f fd F => F.binds fun _ _ _ _ _ _ us hl => match us, hl with | [_, _], _ => rfl) fun f fd F => fn_greatest_ticks T F
/-! least_most -/
def b_least_most : SDen :=
  (sRet (eCall m_most_within (aCons (eVar 0) (aCons (eVar 1) aNil))))
def m_least_most : CallF := callD 2 2 b_least_most
theorem sc_least_most : FnScope ["ticks", "faults"] ["ticks", "faults"] (defScope s_least_most) := ⟨rfl, rfl, rfl, by decide +kernel, rfl, by decide +kernel, by decide +kernel⟩
theorem fn_least_most (T : Txt K mg) {f : Addr} {fd : FuncData} (F : Fun K "least_most" "least_most" s_least_most f fd) : FnOk P w K mg base (L2.CX P w) 5 f fd ["ticks", "faults"] (spG K mg m_least_most) := by
  have nd := (sc_least_most).nd
  refine Fun.den (m := b_least_most) (N := ["ticks", "faults"]) (np := 2) (nl := 2) F sc_least_most rfl rfl fun cdv A outer s H E hr Γ hx => ?_
  have tk := takes_body (P := P) (w := w) (K := K) (mg := mg) (base := base) (N := ["ticks", "faults"]) (qual := "least_most") (sc := defScope s_least_most) (f := f) (cdv := cdv) (A := A) (outer := outer) (s := s) (H := H) (E := E)
  have ow := own_body (P := P) (w := w) (K := K) (mg := mg) (base := base) (N := ["ticks", "faults"]) (qual := "least_most") (sc := defScope s_least_most) (f := f) (cdv := cdv) (A := A) (outer := outer) (s := s) (H := H) (E := E)
  exact (s_one (s_ret (f_call (ok_most_within T) (hr.mono (by decide)) tk (g_cons (g_var 0) (g_cons (g_var 1) g_nil)))))
theorem ok_least_most (T : Txt K mg) : OkG P w K mg base 5 "least_most" ["ticks", "faults"] m_least_most := okG_of T.g_least_most (fun f fd F => F.binds fun _ _ _ _ _ _ us hl => match us, hl with | [_, _], _ => rfl) fun f fd F => fn_least_most T F
/-! span_of -/
def b_span_of : SDen :=
  (sSeq (sAsg 2 (eCall m_soonest (aCons (eVar 0) (aCons (eVar 1) aNil))))
  (sRet (eIf (tB (e2 gIs (ePeek 2) (eC .non))) (eC .non) (eIf (tB (e2 gNe (ePeek 2) (eLst aNil))) (e2 gSub (e2 gIx (ePeek 2) (e1 gNeg (eC (.int 1)))) (e2 gIx (ePeek 2) (eC (.int 0)))) (eC (.int 0))))))
def m_span_of : CallF := callD 2 3 b_span_of
theorem sc_span_of : FnScope ["faults", "many", "found"] ["faults", "many"] (defScope s_span_of) := ⟨rfl, rfl, rfl, by decide +kernel, rfl, by decide +kernel, by decide +kernel⟩
theorem fn_span_of (T : Txt K mg) {f : Addr} {fd : FuncData} (F : Fun K "span_of" "span_of" s_span_of f fd) : FnOk P w K mg base (L2.CX P w) 5 f fd ["faults", "many"] (spG K mg m_span_of) := by
  have nd := (sc_span_of).nd
  refine Fun.den (m := b_span_of) (N := ["faults", "many", "found"]) (np := 2) (nl := 3) F sc_span_of rfl rfl fun cdv A outer s H E hr Γ hx => ?_
  have tk := takes_body (P := P) (w := w) (K := K) (mg := mg) (base := base) (N := ["faults", "many", "found"]) (qual := "span_of") (sc := defScope s_span_of) (f := f) (cdv := cdv) (A := A) (outer := outer) (s := s) (H := H) (E := E)
  have ow := own_body (P := P) (w := w) (K := K) (mg := mg) (base := base) (N := ["faults", "many", "found"]) (qual := "span_of") (sc := defScope s_span_of) (f := f) (cdv := cdv) (A := A) (outer := outer) (s := s) (H := H) (E := E)
  exact (s_cons (s_asg nd (f_call (ok_soonest T) (hr.mono (by decide)) tk (g_cons (g_var 0) (g_cons (g_var 1) g_nil))))
    (s_one (s_ret (g_if kV_late (g_tcmp op_isN sem_is (g_peek 2) (g_vr g_non) rfl) g_non (g_if kV_late (g_tcmp (op_neU hr.units) sem_ne (g_peek 2) (g_vr (g_ov (g_lst g_nil))) rfl) (g_bin op_sub kV_late sem_sub (g_vr (g_sub rfl (hu_of hr) (g_peek 2) (g_vr (g_un un_neg kV_late sem_neg (g_vr g_int))))) (g_vr (g_sub rfl (hu_of hr) (g_peek 2) (g_vr g_int)))) g_int)))))
theorem ok_span_of (T : Txt K mg) : OkG P w K mg base 5 "span_of" ["faults", "many"] m_span_of := okG_of T.g_span_of (fun f fd F => F.binds fun _ _ _ _ _ _ us hl => match us, hl with | [_, _], _ => rfl) fun f fd F => fn_span_of T F
/-! law -/
def x_law_0 : SDen :=
  (sAsg 1 (eAlloc (eLst (aCons (eVar 0) (aCons (eC (.int 0)) aNil)))))
def x_law_1 : SDen :=
  (sPar [3, 4, 5] (mVal (eCall m__law_take (aCons (eVar 1) (aCons (eC (.int 5)) aNil))) (mVal (e2 gAddI (eC (.int 1)) (eCall m__law_take (aCons (eVar 1) (aCons (eC (.int 8)) aNil)))) (mVal (e2 gAddI (eC (.int 2)) (eCall m__law_take (aCons (eVar 1) (aCons (eC (.int 4)) aNil)))) mNil))))
def x_law_2 : SDen :=
  (sPar [6, 7] (mVal (eMake "Faults" m_Faults___init__ (aCons (eVar 3) (aCons (eVar 4) aNil))) (mVal (eMake "Faults" m_Faults___init__ (aCons (eVar 3) (aCons (e2 gMul (ePeek 5) (ePeek 4)) aNil))) mNil)))
def x_law_3 : SDen :=
  (sPar [8, 9] (mOwn (eLst aNil) (mVal (eC (.int 0)) mNil)))
def x_law_4 : SDen :=
  (sAsg 9 (e2 gAddI (ePeek 9) (eCall m__law_take (aCons (eVar 1) (aCons (eC (.int 4)) aNil)))))
def x_law_5 : SDen :=
  (sApp 8 (eVar 9))
def x_law_6 : SDen :=
  (sFor (lRange1 (aCons (eCall m__law_take (aCons (eVar 1) (aCons (eC (.int 12)) aNil))) aNil)) (bName 10) (sSeq x_law_4
  x_law_5))
def x_law_7 : SDen :=
  (sAsg 11 (eCall m__law_take (aCons (eVar 1) (aCons (eC (.int 6)) aNil))))
def x_law_8 : SDen :=
  (sFrz [8] (sVal 12 (sAsgO 12 (eComp (lEnumU (aCons (eVar 8) aNil)) (bTup 2 (bCons (bName 21) (bCons (bName 22) bNil))) tYes (eN gLen (aCons (eComp (lSeq (eCutL (ePeek 8) oNone (oSome (e2 gAddI (ePeek 21) (eC (.int 1)))))) (bName 23) (tB (e2 gLt (e2 gSub (ePeek 22) (ePeek 23)) (ePeek 4))) (eVar 23) [23]) aNil)) [21, 22]))))
def x_law_9 : SDen :=
  (sRet (eC (.bl false)))
def x_law_10 : SDen :=
  (sFrz [8] (sIf (tOr (tB (e2 gNe (eCall m_are_within (aCons (eVar 6) (aCons (eVar 8) aNil))) (eN gAll (aCons (eComp (lSeq (eVar 12)) (bName 24) tYes (e2 gLe (ePeek 24) (ePeek 3)) [24]) aNil)))) (tB (e2 gNe (eCall m_first_beyond (aCons (eVar 11) (aCons (eVar 4) (aCons (eVar 8) aNil)))) (e2 gIx (e2 gAdd (eComp (lEnumU (aCons (eVar 12) aNil)) (bTup 2 (bCons (bName 21) (bCons (bName 24) bNil))) (tB (e2 gGt (ePeek 24) (ePeek 11))) (eVar 21) [21, 24]) (eLst (aCons (eC .non) aNil))) (eC (.int 0)))))) x_law_9 sNil))
def x_law_11 : SDen :=
  (sRet (eC (.bl false)))
def x_law_12 : SDen :=
  (sFrz [8] (sIf (tOr (tB (e2 gNe (eCall m_are_within (aCons (eVar 7) (aCons (eComp (lSeq (eVar 8)) (bName 22) tYes (e2 gMul (ePeek 5) (ePeek 22)) [22]) aNil))) (eCall m_are_within (aCons (eVar 6) (aCons (eVar 8) aNil))))) (tOr (tB (e2 gNe (eCall m_are_within (aCons (eVar 6) (aCons (eComp (lSeq (eVar 8)) (bName 22) tYes (e2 gAddI (ePeek 22) (eC (.int 70))) [22]) aNil))) (eCall m_are_within (aCons (eVar 6) (aCons (eVar 8) aNil))))) (tOr (tAnd (tTr (eCall m_are_within (aCons (eVar 6) (aCons (eVar 8) aNil)))) (tNot (tTr (eCall m_are_within (aCons (eVar 6) (aCons (eCutL (ePeek 8) (oSome (eC (.int 1))) oNone) aNil)))))) (tB (e2 gLtB (eCall m_are_within (aCons (eMake "Faults" m_Faults___init__ (aCons (e2 gAddI (ePeek 3) (eC (.int 1))) (aCons (eVar 4) aNil))) (aCons (eVar 8) aNil))) (eCall m_are_within (aCons (eVar 6) (aCons (eVar 8) aNil)))))))) x_law_11 sNil))
def x_law_13 : SDen :=
  (sAsg 13 (eCall m__law_take (aCons (eVar 1) (aCons (eC (.int 12)) aNil))))
def x_law_14 : SDen :=
  (sAsg 14 (eCall m_soonest (aCons (eVar 6) (aCons (eVar 13) aNil))))
def x_law_15 : SDen :=
  (sRet (eC (.bl false)))
def x_law_16 : SDen :=
  (sIf (tOr (tB (e2 gNe (e2 gIs (ePeek 14) (eC .non)) (eAnd (e2 gEq (ePeek 3) (eC (.int 0))) (e2 gGt (ePeek 13) (eC (.int 0)))))) (tAnd (tB (e2 gIsNot (ePeek 14) (eC .non))) (tOr (tB (e2 gNe (eN gLen (aCons (ePeek 14) aNil)) (ePeek 13))) (tOr (tNot (tTr (eCall m_are_within (aCons (eVar 6) (aCons (eN gList (aCons (ePeek 14) aNil)) aNil))))) (tB (e2 gNe (eCall m_span_of (aCons (eVar 6) (aCons (eVar 13) aNil))) (eIf (tB (e2 gGt (ePeek 13) (eC (.int 0)))) (e2 gSub (e2 gIx (ePeek 14) (e1 gNeg (eC (.int 1)))) (e2 gIx (ePeek 14) (eC (.int 0)))) (eC (.int 0))))))))) x_law_15 sNil)
def x_law_17 : SDen :=
  (sRet (eC (.bl false)))
def x_law_18 : SDen :=
  (sIf (tOr (tAnd (tB (e2 gIs (ePeek 14) (eC .non))) (tB (e2 gIsNot (eCall m_span_of (aCons (eVar 6) (aCons (eVar 13) aNil))) (eC .non)))) (tB (e2 gNe (eCall m_soonest (aCons (eVar 7) (aCons (eVar 13) aNil))) (eIf (tB (e2 gIsNot (ePeek 14) (eC .non))) (eComp (lSeq (eVar 14)) (bName 22) tYes (e2 gMul (ePeek 5) (ePeek 22)) [22]) (eC .non))))) x_law_17 sNil)
def x_law_19 : SDen :=
  (sRet (eC (.bl false)))
def x_law_20 : SDen :=
  (sIf (tAnd (tB (e2 gIsNot (ePeek 14) (eC .non))) (tAnd (tB (e2 gGt (ePeek 13) (eC (.int 0)))) (tAnd (tB (e2 gGt (e2 gIx (ePeek 14) (e1 gNeg (eC (.int 1)))) (eC (.int 0)))) (tAnd (tTr (eCall m_are_within (aCons (eVar 6) (aCons (e2 gAdd (eCutL (eN gList (aCons (ePeek 14) aNil)) oNone (oSome (e1 gNeg (eC (.int 1))))) (eLst (aCons (eN gMax2 (aCons (e2 gSub (e2 gIx (ePeek 14) (e1 gNeg (eC (.int 1)))) (eC (.int 1))) (aCons (eIf (tB (e2 gLt (ePeek 13) (eC (.int 2)))) (e2 gIx (e2 gAdd (eCutL (eN gList (aCons (ePeek 14) aNil)) oNone (oSome (e1 gNeg (eC (.int 1))))) (eLst (aCons (eC (.int 0)) aNil))) (e1 gNeg (eC (.int 1)))) (e2 gIx (eN gList (aCons (ePeek 14) aNil)) (e1 gNeg (eC (.int 2))))) aNil))) aNil))) aNil)))) (tOr (tB (e2 gLt (ePeek 13) (eC (.int 2)))) (tB (e2 gLt (e2 gIx (ePeek 14) (e1 gNeg (eC (.int 2)))) (e2 gIx (ePeek 14) (e1 gNeg (eC (.int 1))))))))))) x_law_19 sNil)
def x_law_21 : SDen :=
  (sRet (eC (.bl false)))
def x_law_22 : SDen :=
  (sFrz [8] (sIf (tAnd (tB (e2 gNe (ePeek 8) (eLst aNil))) (tAnd (tTr (eCall m_are_within (aCons (eVar 6) (aCons (eVar 8) aNil)))) (tB (e2 gGt (e2 gIx (eCall m_soonest (aCons (eVar 6) (aCons (eN gLen (aCons (ePeek 8) aNil)) aNil))) (e1 gNeg (eC (.int 1)))) (e2 gSub (e2 gIx (ePeek 8) (e1 gNeg (eC (.int 1)))) (e2 gIx (ePeek 8) (eC (.int 0)))))))) x_law_21 sNil))
def x_law_23 : SDen :=
  (sAsg 15 (e2 gAddI (eC (.int 1)) (eCall m__law_take (aCons (eVar 1) (aCons (eC (.int 40)) aNil)))))
def x_law_24 : SDen :=
  (sAsg 16 (eCall m_most_within (aCons (eVar 15) (aCons (eVar 6) aNil))))
def x_law_25 : SDen :=
  (sAsg 17 (eN gMax (aCons (e2 gAdd (eLst (aCons (eC (.int 0)) aNil)) (eComp (lSeq (eLst (aCons (eC (.int 0)) aNil))) (bName 22) tYes (eN gLen (aCons (eComp (lSeq (eIf (tB (e2 gGt (ePeek 3) (eC (.int 0)))) (eCall m_soonest (aCons (eVar 6) (aCons (eC (.int 60)) aNil))) (eLst aNil))) (bName 23) (tB (eChain gLe gLt (ePeek 22) (ePeek 23) (e2 gAddI (ePeek 22) (ePeek 15)))) (eC (.int 0)) [23]) aNil)) [22])) aNil)))
def x_law_26 : SDen :=
  (sRet (eC (.bl false)))
def x_law_27 : SDen :=
  (sIf (tOr (tAnd (tB (e2 gNe (ePeek 16) (ePeek 17))) (tB (e2 gLt (e2 gMul (ePeek 3) (ePeek 15)) (eC (.int 50))))) (tOr (tB (e2 gNe (eCall m_least_most (aCons (eVar 15) (aCons (eVar 6) aNil))) (ePeek 16))) (tOr (tB (e2 gNe (eCall m_most_within (aCons (e2 gMul (ePeek 5) (ePeek 15)) (aCons (eVar 7) aNil))) (ePeek 16))) (tB (e2 gLt (ePeek 16) (eCall m_most_within (aCons (eN gMax2 (aCons (eC (.int 1)) (aCons (e2 gSub (ePeek 15) (eC (.int 1))) aNil))) (aCons (eVar 6) aNil)))))))) x_law_26 sNil)
def x_law_28 : SDen :=
  (sAsg 18 (e2 gAddI (eC (.int 1)) (eCall m__law_take (aCons (eVar 1) (aCons (eC (.int 90)) aNil)))))
def x_law_29 : SDen :=
  (sAsg 19 (eCall m_judge_bound (aCons (eVar 11) (aCons (eVar 18) (aCons (eVar 6) aNil)))))
def x_law_30 : SDen :=
  (sRet (eC (.bl false)))
def x_law_31 : SDen :=
  (sIf (tOr (tB (e2 gNe (eOwn (fun c => List.lookup c [("Bears", m_Bears___bool__), ("Passed", m_Passed___bool__)]) (eVar 19)) (e2 gLe (eCall m_most_within (aCons (eVar 18) (aCons (eVar 6) aNil))) (ePeek 11)))) (tOr (tAnd (tOwn (fun c => List.lookup c [("Bears", m_Bears___bool__), ("Passed", m_Passed___bool__)]) (eVar 19)) (tB (e2 gNe (e1 (eAttC "many" ["Bears"]) (eVar 19)) (eCall m_most_within (aCons (eVar 18) (aCons (eVar 6) aNil)))))) (tNot (tTr (eMethU [("Bears", m_Bears_shows), ("Passed", m_Passed_shows)] "shows" (eVar 19) (aCons (eVar 11) (aCons (eVar 18) (aCons (eVar 6) aNil)))))))) x_law_30 sNil)
def x_law_32 : SDen :=
  (sRet (eC (.bl false)))
def x_law_33 : SDen :=
  (sIf (tAnd (tNot (tOwn (fun c => List.lookup c [("Bears", m_Bears___bool__), ("Passed", m_Passed___bool__)]) (eVar 19))) (tOr (tB (e2 gNe (eN gLen (aCons (e1 (eAttC "falls" ["Passed"]) (eVar 19)) aNil)) (e2 gAddI (ePeek 11) (eC (.int 1))))) (tOr (tNot (tTr (eCall m_are_within (aCons (eVar 6) (aCons (eN gList (aCons (e1 (eAttC "falls" ["Passed"]) (eVar 19)) aNil)) aNil))))) (tB (e2 gNe (eCall m_first_beyond (aCons (eVar 11) (aCons (eVar 18) (aCons (eN gList (aCons (e1 (eAttC "falls" ["Passed"]) (eVar 19)) aNil)) aNil)))) (ePeek 11)))))) x_law_32 sNil)
def x_law_34 : SDen :=
  (sAsg 20 (eCall m_greatest_ticks (aCons (eVar 11) (aCons (eVar 6) aNil))))
def x_law_35 : SDen :=
  (sRet (eC (.bl false)))
def x_law_36 : SDen :=
  (sIf (tOr (tAnd (tB (e2 gGt (ePeek 20) (eC (.int 0)))) (tNot (tOwn (fun c => List.lookup c [("Bears", m_Bears___bool__), ("Passed", m_Passed___bool__)]) (eCall m_judge_bound (aCons (eVar 11) (aCons (eVar 20) (aCons (eVar 6) aNil))))))) (tAnd (tB (e2 gLt (ePeek 20) (eC (.int 99)))) (tOwn (fun c => List.lookup c [("Bears", m_Bears___bool__), ("Passed", m_Passed___bool__)]) (eCall m_judge_bound (aCons (eVar 11) (aCons (e2 gAddI (ePeek 20) (eC (.int 1))) (aCons (eVar 6) aNil))))))) x_law_35 sNil)
def x_law_37 : SDen :=
  (sFor (lRange1 (aCons (eC (.int 8)) aNil)) (bName 2) (sSeq x_law_1
  (sSeq x_law_2
  (sSeq x_law_3
  (sSeq x_law_6
  (sSeq x_law_7
  (sSeq x_law_8
  (sSeq x_law_10
  (sSeq x_law_12
  (sSeq x_law_13
  (sSeq x_law_14
  (sSeq x_law_16
  (sSeq x_law_18
  (sSeq x_law_20
  (sSeq x_law_22
  (sSeq x_law_23
  (sSeq x_law_24
  (sSeq x_law_25
  (sSeq x_law_27
  (sSeq x_law_28
  (sSeq x_law_29
  (sSeq x_law_31
  (sSeq x_law_33
  (sSeq x_law_34
  x_law_36))))))))))))))))))))))))
def x_law_38 : SDen :=
  (sRet (eC (.bl true)))
def b_law : SDen :=
  (sSeq x_law_0
  (sSeq x_law_37
  x_law_38))
def m_law : CallF := callD 1 25 b_law
theorem sc_law : FnScope ["script", "draw", "turn", "many", "ticks", "by", "faults", "wide", "falls", "tick", "again", "most", "rows", "size", "first", "span", "top", "due", "bound", "found", "great", "place", "one", "late", "row"] ["script"] (defScope s_law) := ⟨rfl, rfl, rfl, by decide +kernel, rfl, by decide +kernel, by decide +kernel⟩
theorem fn_law (T : Txt K mg) {f : Addr} {fd : FuncData} (F : Fun K "law" "law" s_law f fd) : FnOk P w K mg base (L2.CX P w) 7 f fd ["script"] (spG K mg m_law) := by
  have nd := (sc_law).nd
  refine Fun.den (m := b_law) (N := ["script", "draw", "turn", "many", "ticks", "by", "faults", "wide", "falls", "tick", "again", "most", "rows", "size", "first", "span", "top", "due", "bound", "found", "great", "place", "one", "late", "row"]) (np := 1) (nl := 25) F sc_law rfl rfl fun cdv A outer s H E hr Γ hx => ?_
  have tk := takes_body (P := P) (w := w) (K := K) (mg := mg) (base := base) (N := ["script", "draw", "turn", "many", "ticks", "by", "faults", "wide", "falls", "tick", "again", "most", "rows", "size", "first", "span", "top", "due", "bound", "found", "great", "place", "one", "late", "row"]) (qual := "law") (sc := defScope s_law) (f := f) (cdv := cdv) (A := A) (outer := outer) (s := s) (H := H) (E := E)
  have ow := own_body (P := P) (w := w) (K := K) (mg := mg) (base := base) (N := ["script", "draw", "turn", "many", "ticks", "by", "faults", "wide", "falls", "tick", "again", "most", "rows", "size", "first", "span", "top", "due", "bound", "found", "great", "place", "one", "late", "row"]) (qual := "law") (sc := defScope s_law) (f := f) (cdv := cdv) (A := A) (outer := outer) (s := s) (H := H) (E := E)
  exact (s_cons (s_asg nd (g_alloc (g_lst (g_cons (g_var 0) (g_cons g_int g_nil)))))
    (s_cons (s_for ow rfl (i_range1 T.z_range (g_cons g_int g_nil)) (fun Γ => (b_name 2 nd)) (fun Γ => (s_cons (s_parN rfl rfl (m_val (f_call (ok__law_take T) (hr.mono (by decide)) tk (g_cons (g_var 1) (g_cons g_int g_nil))) (m_val (g_bin op_add kV_late sem_addI (g_vr g_int) (g_vr (f_call (ok__law_take T) (hr.mono (by decide)) tk (g_cons (g_var 1) (g_cons g_int g_nil))))) (m_val (g_bin op_add kV_late sem_addI (g_vr g_int) (g_vr (f_call (ok__law_take T) (hr.mono (by decide)) tk (g_cons (g_var 1) (g_cons g_int g_nil))))) m_nil))) (n_cons 3 nd (n_cons 4 nd (n_cons 5 nd n_nil))) (by decide))
    (s_cons (s_parN rfl rfl (m_val (f_make (okC_of T.c_Faults (ok_Faults___init__ T)) (hr.mono (by decide)) tk (g_cons (g_var 3) (g_cons (g_var 4) g_nil))) (m_val (f_make (okC_of T.c_Faults (ok_Faults___init__ T)) (hr.mono (by decide)) tk (g_cons (g_var 3) (g_cons (g_bin op_mul kV_late sem_mul (g_peek 5) (g_peek 4)) g_nil))) m_nil)) (n_cons 6 nd (n_cons 7 nd n_nil)) (by decide))
    (s_cons (s_parN rfl rfl (m_own (g_lst g_nil) (m_val g_int m_nil)) (n_cons 8 nd (n_cons 9 nd n_nil)) (by decide))
    (s_cons (s_for ow rfl (i_range1 T.z_range (g_cons (f_call (ok__law_take T) (hr.mono (by decide)) tk (g_cons (g_var 1) (g_cons g_int g_nil))) g_nil)) (fun Γ => (b_name 10 nd)) (fun Γ => (s_cons (s_asg nd (g_bin op_add kV_late sem_addI (g_peek 9) (g_vr (f_call (ok__law_take T) (hr.mono (by decide)) tk (g_cons (g_var 1) (g_cons g_int g_nil))))))
    (s_one (s_app 8 rfl (g_var 9))))))
    (s_cons (s_asg nd (f_call (ok__law_take T) (hr.mono (by decide)) tk (g_cons (g_var 1) (g_cons g_int g_nil))))
    (s_cons (s_frz [8] (s_val 12 (s_asgLc (own := [("place", 21), ("one", 22)]) rfl nd (by rfl) (i_gc (i_enumU rfl T.z_enumerate (g_cons (g_var 8) g_nil))) (blkOk_by (by kernel_rfl)) (fun _ _ _ _ _ => (b_tup rfl rfl (b_cons (b_name 21 nd) (b_cons (b_name 22 nd) b_nil)))) (fun _ _ _ _ _ => ts_nil) (fun _ _ _ _ _ => (g_callB call_lenU kV_late sem_len T.z_len (by decide +kernel) (r_cons (g_vr (g_ov (g_lc (own := [("late", 23)]) rfl nd (i_gc (i_seq rfl (g_ov (g_cutL rfl (g_peek 8) o_none (o_some (g_vr (g_bin op_add kV_late sem_addI (g_peek 21) (g_vr g_int)))))))) (blkOk_by (by kernel_rfl)) (fun _ _ _ _ _ => (b_name 23 nd)) (fun _ _ _ _ _ => (ts_one (g_tcmp op_lt sem_lt (g_vr (g_bin op_sub kV_late sem_sub (g_peek 22) (g_peek 23))) (g_peek 4) rfl))) (fun _ _ _ _ _ => (g_var 23))))) r_nil))))))
    (s_cons (s_frz [8] (s_if (PW.pt (g_or (g_tcmp (op_neU hr.units) sem_ne (g_vr (f_call (ok_are_within T) (hr.mono (by decide)) tk (g_cons (g_var 6) (g_cons (g_var 8) g_nil)))) (g_vr (g_callB (cr_all rfl) kV_late sem_all T.z_all (by decide +kernel) (r_cons (g_vr (g_ov (g_lc (own := [("row", 24)]) rfl nd (i_gc (i_seq rfl (g_var 12))) (blkOk_by (by kernel_rfl)) (fun _ _ _ _ _ => (b_name 24 nd)) (fun _ _ _ _ _ => ts_nil) (fun _ _ _ _ _ => (g_cmp op_le sem_le (g_peek 24) (g_peek 3) rfl))))) r_nil))) rfl) (pw_or1 (g_tcmp (op_neU hr.units) sem_ne (g_vr (f_call (ok_first_beyond T) (hr.mono (by decide)) tk (g_cons (g_var 11) (g_cons (g_var 4) (g_cons (g_var 8) g_nil))))) (g_vr (g_sub rfl (hu_of hr) (g_vr (g_bin op_addU kV_late sem_add (g_vr (g_ov (g_lc (own := [("place", 21), ("row", 24)]) rfl nd (i_gc (i_enumU rfl T.z_enumerate (g_cons (g_var 12) g_nil))) (blkOk_by (by kernel_rfl)) (fun _ _ _ _ _ => (b_tup rfl rfl (b_cons (b_name 21 nd) (b_cons (b_name 24 nd) b_nil)))) (fun _ _ _ _ _ => (ts_one (g_tcmp op_gt sem_gt (g_peek 24) (g_peek 11) rfl))) (fun _ _ _ _ _ => (g_var 21))))) (g_vr (g_ov (g_lst (g_cons g_non g_nil)))))) (g_vr g_int))) rfl)))) (s_one (s_ret g_bl)) s_nil))
    (s_cons (s_frz [8] (s_if (PW.pt (g_or (g_tcmp (op_neU hr.units) sem_ne (g_vr (f_call (ok_are_within T) (hr.mono (by decide)) tk (g_cons (g_var 7) (g_cons (g_ov (g_lc (own := [("one", 22)]) rfl nd (i_gc (i_seq rfl (g_var 8))) (blkOk_by (by kernel_rfl)) (fun _ _ _ _ _ => (b_name 22 nd)) (fun _ _ _ _ _ => ts_nil) (fun _ _ _ _ _ => (g_bin op_mul kV_late sem_mul (g_peek 5) (g_peek 22))))) g_nil)))) (g_vr (f_call (ok_are_within T) (hr.mono (by decide)) tk (g_cons (g_var 6) (g_cons (g_var 8) g_nil)))) rfl) (g_or (g_tcmp (op_neU hr.units) sem_ne (g_vr (f_call (ok_are_within T) (hr.mono (by decide)) tk (g_cons (g_var 6) (g_cons (g_ov (g_lc (own := [("one", 22)]) rfl nd (i_gc (i_seq rfl (g_var 8))) (blkOk_by (by kernel_rfl)) (fun _ _ _ _ _ => (b_name 22 nd)) (fun _ _ _ _ _ => ts_nil) (fun _ _ _ _ _ => (g_bin op_add kV_late sem_addI (g_peek 22) (g_vr g_int))))) g_nil)))) (g_vr (f_call (ok_are_within T) (hr.mono (by decide)) tk (g_cons (g_var 6) (g_cons (g_var 8) g_nil)))) rfl) (g_or (PW.pt (g_and (g_tr rfl (g_vr (f_call (ok_are_within T) (hr.mono (by decide)) tk (g_cons (g_var 6) (g_cons (g_var 8) g_nil))))) (pw_and1 (g_not (g_tr rfl (g_vr (f_call (ok_are_within T) (hr.mono (by decide)) tk (g_cons (g_var 6) (g_cons (g_ov (g_cutL rfl (g_peek 8) (o_some (g_vr g_int)) o_none)) g_nil))))))))) (pw_or1 (g_tcmp op_ltB sem_ltB (g_vr (f_call (ok_are_within T) (hr.mono (by decide)) tk (g_cons (f_make (okC_of T.c_Faults (ok_Faults___init__ T)) (hr.mono (by decide)) tk (g_cons (g_bin op_add kV_late sem_addI (g_peek 3) (g_vr g_int)) (g_cons (g_var 4) g_nil))) (g_cons (g_var 8) g_nil)))) (g_vr (f_call (ok_are_within T) (hr.mono (by decide)) tk (g_cons (g_var 6) (g_cons (g_var 8) g_nil)))) rfl)))))) (s_one (s_ret g_bl)) s_nil))
    (s_cons (s_asg nd (f_call (ok__law_take T) (hr.mono (by decide)) tk (g_cons (g_var 1) (g_cons g_int g_nil))))
    (s_cons (s_asg nd (f_call (ok_soonest T) (hr.mono (by decide)) tk (g_cons (g_var 6) (g_cons (g_var 13) g_nil))))
    (s_cons (s_if (PW.pt (g_or (g_tcmp (op_neU hr.units) sem_ne (g_vr (g_cmp op_isN sem_is (g_peek 14) (g_vr g_non) rfl)) (g_vr (g_andV rfl (g_cmp (op_eqU hr.units) sem_eq (g_peek 3) (g_vr g_int) rfl) (g_one (g_cmp op_gt sem_gt (g_peek 13) (g_vr g_int) rfl)))) rfl) (pw_or1 (PW.pt (g_and (g_tcmp op_notN sem_isNot (g_peek 14) (g_vr g_non) rfl) (pw_and1 (PW.pt (g_or (g_tcmp (op_neU hr.units) sem_ne (g_vr (g_callB call_lenU kV_late sem_len T.z_len (by decide +kernel) (r_cons (g_peek 14) r_nil))) (g_peek 13) rfl) (g_or (g_not (g_tr rfl (g_vr (f_call (ok_are_within T) (hr.mono (by decide)) tk (g_cons (g_var 6) (g_cons (g_ov (g_callTy call_list_of kO_late sem_list T.z_list (by decide +kernel) (r_cons (g_peek 14) r_nil))) g_nil)))))) (pw_or1 (g_tcmp (op_neU hr.units) sem_ne (g_vr (f_call (ok_span_of T) (hr.mono (by decide)) tk (g_cons (g_var 6) (g_cons (g_var 13) g_nil)))) (g_vr (g_if kV_late (g_tcmp op_gt sem_gt (g_peek 13) (g_vr g_int) rfl) (g_bin op_sub kV_late sem_sub (g_vr (g_sub rfl (hu_of hr) (g_peek 14) (g_vr (g_un un_neg kV_late sem_neg (g_vr g_int))))) (g_vr (g_sub rfl (hu_of hr) (g_peek 14) (g_vr g_int)))) g_int)) rfl))))))))))) (s_one (s_ret g_bl)) s_nil)
    (s_cons (s_if (PW.pt (g_or (PW.pt (g_and (g_tcmp op_isN sem_is (g_peek 14) (g_vr g_non) rfl) (pw_and1 (g_tcmp op_notN sem_isNot (g_vr (f_call (ok_span_of T) (hr.mono (by decide)) tk (g_cons (g_var 6) (g_cons (g_var 13) g_nil)))) (g_vr g_non) rfl)))) (pw_or1 (g_tcmp (op_neU hr.units) sem_ne (g_vr (f_call (ok_soonest T) (hr.mono (by decide)) tk (g_cons (g_var 7) (g_cons (g_var 13) g_nil)))) (g_vr (g_if kV_late (g_tcmp op_notN sem_isNot (g_peek 14) (g_vr g_non) rfl) (g_ov (g_lc (own := [("one", 22)]) rfl nd (i_gc (i_seq rfl (g_var 14))) (blkOk_by (by kernel_rfl)) (fun _ _ _ _ _ => (b_name 22 nd)) (fun _ _ _ _ _ => ts_nil) (fun _ _ _ _ _ => (g_bin op_mul kV_late sem_mul (g_peek 5) (g_peek 22))))) g_non)) rfl)))) (s_one (s_ret g_bl)) s_nil)
    (s_cons (s_if (PW.pt (g_and (g_tcmp op_notN sem_isNot (g_peek 14) (g_vr g_non) rfl) (g_and (g_tcmp op_gt sem_gt (g_peek 13) (g_vr g_int) rfl) (g_and (g_tcmp op_gt sem_gt (g_vr (g_sub rfl (hu_of hr) (g_peek 14) (g_vr (g_un un_neg kV_late sem_neg (g_vr g_int))))) (g_vr g_int) rfl) (g_and (g_tr rfl (g_vr (f_call (ok_are_within T) (hr.mono (by decide)) tk (g_cons (g_var 6) (g_cons (g_bin op_addU kV_late sem_add (g_vr (g_ov (g_cutL rfl (g_vr (g_ov (g_callTy call_list_of kO_late sem_list T.z_list (by decide +kernel) (r_cons (g_peek 14) r_nil)))) o_none (o_some (g_vr (g_un un_neg kV_late sem_neg (g_vr g_int))))))) (g_vr (g_ov (g_lst (g_cons (g_callB (call_max2 rfl) kV_late sem_max2 T.z_max (by decide +kernel) (r_cons (g_vr (g_bin op_sub kV_late sem_sub (g_vr (g_sub rfl (hu_of hr) (g_peek 14) (g_vr (g_un un_neg kV_late sem_neg (g_vr g_int))))) (g_vr g_int))) (r_cons (g_vr (g_if kV_late (g_tcmp op_lt sem_lt (g_peek 13) (g_vr g_int) rfl) (g_sub rfl (hu_of hr) (g_vr (g_bin op_addU kV_late sem_add (g_vr (g_ov (g_cutL rfl (g_vr (g_ov (g_callTy call_list_of kO_late sem_list T.z_list (by decide +kernel) (r_cons (g_peek 14) r_nil)))) o_none (o_some (g_vr (g_un un_neg kV_late sem_neg (g_vr g_int))))))) (g_vr (g_ov (g_lst (g_cons g_int g_nil)))))) (g_vr (g_un un_neg kV_late sem_neg (g_vr g_int)))) (g_sub rfl (hu_of hr) (g_vr (g_ov (g_callTy call_list_of kO_late sem_list T.z_list (by decide +kernel) (r_cons (g_peek 14) r_nil)))) (g_vr (g_un un_neg kV_late sem_neg (g_vr g_int)))))) r_nil))) g_nil))))) g_nil))))) (pw_and1 (PW.pt (g_or (g_tcmp op_lt sem_lt (g_peek 13) (g_vr g_int) rfl) (pw_or1 (g_tcmp op_lt sem_lt (g_vr (g_sub rfl (hu_of hr) (g_peek 14) (g_vr (g_un un_neg kV_late sem_neg (g_vr g_int))))) (g_vr (g_sub rfl (hu_of hr) (g_peek 14) (g_vr (g_un un_neg kV_late sem_neg (g_vr g_int))))) rfl)))))))))) (s_one (s_ret g_bl)) s_nil)
    (s_cons (s_frz [8] (s_if (PW.pt (g_and (g_tcmp (op_neU hr.units) sem_ne (g_peek 8) (g_vr (g_ov (g_lst g_nil))) rfl) (g_and (g_tr rfl (g_vr (f_call (ok_are_within T) (hr.mono (by decide)) tk (g_cons (g_var 6) (g_cons (g_var 8) g_nil))))) (pw_and1 (g_tcmp op_gt sem_gt (g_vr (g_sub rfl (hu_of hr) (g_vr (f_call (ok_soonest T) (hr.mono (by decide)) tk (g_cons (g_var 6) (g_cons (g_callB call_lenU kV_late sem_len T.z_len (by decide +kernel) (r_cons (g_peek 8) r_nil)) g_nil)))) (g_vr (g_un un_neg kV_late sem_neg (g_vr g_int))))) (g_vr (g_bin op_sub kV_late sem_sub (g_vr (g_sub rfl (hu_of hr) (g_peek 8) (g_vr (g_un un_neg kV_late sem_neg (g_vr g_int))))) (g_vr (g_sub rfl (hu_of hr) (g_peek 8) (g_vr g_int))))) rfl))))) (s_one (s_ret g_bl)) s_nil))
    (s_cons (s_asg nd (g_bin op_add kV_late sem_addI (g_vr g_int) (g_vr (f_call (ok__law_take T) (hr.mono (by decide)) tk (g_cons (g_var 1) (g_cons g_int g_nil))))))
    (s_cons (s_asg nd (f_call (ok_most_within T) (hr.mono (by decide)) tk (g_cons (g_var 15) (g_cons (g_var 6) g_nil))))
    (s_cons (s_asg nd (g_callB (cr_max rfl) kV_late sem_max T.z_max (by decide +kernel) (r_cons (g_vr (g_bin op_addU kV_late sem_add (g_vr (g_ov (g_lst (g_cons g_int g_nil)))) (g_vr (g_ov (g_lc (own := [("one", 22)]) rfl nd (i_gc (i_seq rfl (g_ov (g_lst (g_cons g_int g_nil))))) (blkOk_by (by kernel_rfl)) (fun _ _ _ _ _ => (b_name 22 nd)) (fun _ _ _ _ _ => ts_nil) (fun _ _ _ _ _ => (g_callB call_lenU kV_late sem_len T.z_len (by decide +kernel) (r_cons (g_vr (g_ov (g_lc (own := [("late", 23)]) rfl nd (i_gc (i_seq rfl (g_if kV_late (g_tcmp op_gt sem_gt (g_peek 3) (g_vr g_int) rfl) (f_call (ok_soonest T) (hr.mono (by decide)) takesW (g_cons (g_var 6) (g_cons g_int g_nil))) (g_ov (g_lst g_nil))))) (blkOk_by (by kernel_rfl)) (fun _ _ _ _ _ => (b_name 23 nd)) (fun _ _ _ _ _ => (ts_one (g_tchain op_le op_lt sem_le sem_lt (g_peek 22) (g_peek 23) (g_vr (g_bin op_add kV_late sem_addI (g_peek 22) (g_peek 15)))))) (fun _ _ _ _ _ => g_int)))) r_nil)))))))) r_nil)))
    (s_cons (s_if (PW.pt (g_or (PW.pt (g_and (g_tcmp (op_neU hr.units) sem_ne (g_peek 16) (g_peek 17) rfl) (pw_and1 (g_tcmp op_lt sem_lt (g_vr (g_bin op_mul kV_late sem_mul (g_peek 3) (g_peek 15))) (g_vr g_int) rfl)))) (g_or (g_tcmp (op_neU hr.units) sem_ne (g_vr (f_call (ok_least_most T) (hr.mono (by decide)) tk (g_cons (g_var 15) (g_cons (g_var 6) g_nil)))) (g_peek 16) rfl) (g_or (g_tcmp (op_neU hr.units) sem_ne (g_vr (f_call (ok_most_within T) (hr.mono (by decide)) tk (g_cons (g_bin op_mul kV_late sem_mul (g_peek 5) (g_peek 15)) (g_cons (g_var 7) g_nil)))) (g_peek 16) rfl) (pw_or1 (g_tcmp op_lt sem_lt (g_peek 16) (g_vr (f_call (ok_most_within T) (hr.mono (by decide)) tk (g_cons (g_callB (call_max2 rfl) kV_late sem_max2 T.z_max (by decide +kernel) (r_cons (g_vr g_int) (r_cons (g_vr (g_bin op_sub kV_late sem_sub (g_peek 15) (g_vr g_int))) r_nil))) (g_cons (g_var 6) g_nil)))) rfl)))))) (s_one (s_ret g_bl)) s_nil)
    (s_cons (s_asg nd (g_bin op_add kV_late sem_addI (g_vr g_int) (g_vr (f_call (ok__law_take T) (hr.mono (by decide)) tk (g_cons (g_var 1) (g_cons g_int g_nil))))))
    (s_cons (s_asg nd (f_call (ok_judge_bound T) (hr.mono (by decide)) tk (g_cons (g_var 11) (g_cons (g_var 18) (g_cons (g_var 6) g_nil)))))
    (s_cons (s_if (PW.pt (g_or (g_tcmp (op_neU hr.units) sem_ne (g_vr (f_boolOwn (l := [("Bears", m_Bears___bool__), ("Passed", m_Passed___bool__)]) (.cons ((ok_Bears___bool__ T).mono (k := 1) (by decide)) (.cons ((ok_Passed___bool__ T).mono (k := 1) (by decide)) .nil)) (hr.mono (by decide)) T.z_bool (g_var 19))) (g_vr (g_cmp op_le sem_le (g_vr (f_call (ok_most_within T) (hr.mono (by decide)) tk (g_cons (g_var 18) (g_cons (g_var 6) g_nil)))) (g_peek 11) rfl)) rfl) (g_or (PW.pt (g_and (f_trOwn (l := [("Bears", m_Bears___bool__), ("Passed", m_Passed___bool__)]) (.cons ((ok_Bears___bool__ T).mono (k := 1) (by decide)) (.cons ((ok_Passed___bool__ T).mono (k := 1) (by decide)) .nil)) (hr.mono (by decide)) (g_var 19)) (pw_and1 (g_tcmp (op_neU hr.units) sem_ne (g_vr (g_att (cs := ["Bears"]) rfl T.a_many_Bears (g_var 19))) (g_vr (f_call (ok_most_within T) (hr.mono (by decide)) tk (g_cons (g_var 18) (g_cons (g_var 6) g_nil)))) rfl)))) (pw_or1 (g_not (g_tr rfl (g_vr (f_meth (l := [("Bears", m_Bears_shows), ("Passed", m_Passed_shows)]) (.cons ((ok_Bears_shows T).mono (k := 6) (by decide)) (.cons ((ok_Passed_shows T).mono (k := 6) (by decide)) .nil)) (hr.mono (by decide)) tk (g_var 19) (g_cons (g_var 11) (g_cons (g_var 18) (g_cons (g_var 6) g_nil))))))))))) (s_one (s_ret g_bl)) s_nil)
    (s_cons (s_if (PW.pt (g_and (g_not (f_trOwn (l := [("Bears", m_Bears___bool__), ("Passed", m_Passed___bool__)]) (.cons ((ok_Bears___bool__ T).mono (k := 1) (by decide)) (.cons ((ok_Passed___bool__ T).mono (k := 1) (by decide)) .nil)) (hr.mono (by decide)) (g_var 19))) (pw_and1 (PW.pt (g_or (g_tcmp (op_neU hr.units) sem_ne (g_vr (g_callB call_lenU kV_late sem_len T.z_len (by decide +kernel) (r_cons (g_vr (g_att (cs := ["Passed"]) rfl T.a_falls_Passed (g_var 19))) r_nil))) (g_vr (g_bin op_add kV_late sem_addI (g_peek 11) (g_vr g_int))) rfl) (g_or (g_not (g_tr rfl (g_vr (f_call (ok_are_within T) (hr.mono (by decide)) tk (g_cons (g_var 6) (g_cons (g_ov (g_callTy call_list_of kO_late sem_list T.z_list (by decide +kernel) (r_cons (g_vr (g_att (cs := ["Passed"]) rfl T.a_falls_Passed (g_var 19))) r_nil))) g_nil)))))) (pw_or1 (g_tcmp (op_neU hr.units) sem_ne (g_vr (f_call (ok_first_beyond T) (hr.mono (by decide)) tk (g_cons (g_var 11) (g_cons (g_var 18) (g_cons (g_ov (g_callTy call_list_of kO_late sem_list T.z_list (by decide +kernel) (r_cons (g_vr (g_att (cs := ["Passed"]) rfl T.a_falls_Passed (g_var 19))) r_nil))) g_nil))))) (g_peek 11) rfl)))))))) (s_one (s_ret g_bl)) s_nil)
    (s_cons (s_asg nd (f_call (ok_greatest_ticks T) (hr.mono (by decide)) tk (g_cons (g_var 11) (g_cons (g_var 6) g_nil))))
    (s_one (s_if (PW.pt (g_or (PW.pt (g_and (g_tcmp op_gt sem_gt (g_peek 20) (g_vr g_int) rfl) (pw_and1 (g_not (f_trOwn (l := [("Bears", m_Bears___bool__), ("Passed", m_Passed___bool__)]) (.cons ((ok_Bears___bool__ T).mono (k := 1) (by decide)) (.cons ((ok_Passed___bool__ T).mono (k := 1) (by decide)) .nil)) (hr.mono (by decide)) (f_call (ok_judge_bound T) (hr.mono (by decide)) tk (g_cons (g_var 11) (g_cons (g_var 20) (g_cons (g_var 6) g_nil))))))))) (pw_or1 (PW.pt (g_and (g_tcmp op_lt sem_lt (g_peek 20) (g_vr g_int) rfl) (pw_and1 (f_trOwn (l := [("Bears", m_Bears___bool__), ("Passed", m_Passed___bool__)]) (.cons ((ok_Bears___bool__ T).mono (k := 1) (by decide)) (.cons ((ok_Passed___bool__ T).mono (k := 1) (by decide)) .nil)) (hr.mono (by decide)) (f_call (ok_judge_bound T) (hr.mono (by decide)) tk (g_cons (g_var 11) (g_cons (g_bin op_add kV_late sem_addI (g_peek 20) (g_vr g_int)) (g_cons (g_var 6) g_nil))))))))))) (s_one (s_ret g_bl)) s_nil)))))))))))))))))))))))))))
    (s_one (s_ret g_bl))))
theorem ok_law (T : Txt K mg) : OkG P w K mg base 7 "law" ["script"] m_law := okG_of T.g_law (fun f fd F => F.binds fun _ _ _ _ _ _ us hl => match us, hl with | [_], _ => rfl) fun f fd F => fn_law T F
end
end Lw
namespace Lw
open Gh L2 PyProof.Rows PySem.Spec PySem
def I (ns : List Int) : List D := ns.map D.int
@[simp] theorem I_len (ns : List Int) : (I ns).length = ns.length := List.length_map ..
@[simp] theorem I_nil : I [] = [] := rfl
theorem I_cons (n : Int) (ns : List Int) : I (n :: ns) = .int n :: I ns := rfl
theorem okI (ns : List Int) (k : Nat) : (I ns).all (okD k) = true := by
  induction ns with
  | nil => rfl
  | cons n r ih =>
    show (okD k (.int n) && (I r).all (okD k)) = true
    rw [ih]
    cases k <;> rfl
theorem upto_map (lo : Int) (n : Nat) : upto lo n = (List.range n).map fun (i : Nat) => D.int (lo + (i : Int)) := rfl
theorem atI_I (ns : List Int) (k : Int) (h0 : 0 ≤ k) (h1 : k < ns.length) : atI (I ns) k = some (.int (ns.getD k.toNat 0)) := by
  unfold atI ixN
  rw [if_pos h0, I_len, if_pos h1, Option.bind_some]
  unfold I
  rw [List.getElem?_map]
  have : k.toNat < ns.length := by omega
  simp [List.getElem?_eq_getElem this, List.getD]
/-! ### the law's own numbers -/
theorem ne_scr (ns : List Int) : eqD (.scr (I ns)) (.lst []) = some (decide (ns = [])) := by
  have h : okD 20 (.scr (I ns)) = true := okI ns 19
  have h2 : okD 20 (.lst []) = true := rfl
  show (if okD 20 (.scr (I ns)) = true ∧ okD 20 (.lst []) = true then some (D.eqv (.scr (I ns)) (.lst [])) else none) = _
  rw [if_pos ⟨h, h2⟩]
  cases ns with
  | nil => rfl
  | cons n r => rfl
theorem number_ok (ns : List Int) (k : Int) (h : 0 ≤ k) (hm : ns.length ≤ 63) (st : Store) : ∃ v, m__law_number [.scr (I ns), .int k] st = .ok (.int v) st := by
  have e0 : ∃ c t : Int, 0 ≤ t ∧ (sAsgT (bTup 2 (bCons (bName 2) (bCons (bName 3) bNil))) (eIf (tB (e2 gNe (ePeek 0) (eLst aNil))) (eTup (aCons (e2 gIx (ePeek 0) (e2 gMod (ePeek 1) (eN gLen (aCons (ePeek 0) aNil)))) (aCons (e2 gFdiv (ePeek 1) (eN gLen (aCons (ePeek 0) aNil))) aNil))) (eTup (aCons (eC (.int 12345)) (aCons (eC (.int 0)) aNil))))) [.val (.scr (I ns)), .val (.int k), .un, .un, .un, .un, .un] st = .nx [.val (.scr (I ns)), .val (.int k), .val (.int c), .val (.int t), .un, .un, .un] st := by
    by_cases hn : ns = []
    · subst hn
      refine ⟨12345, 0, by decide, ?_⟩
      simp [gNe, ne_scr [], flatL, isLoc]
      rfl
    · have hl : 0 < ns.length := List.length_pos_iff.mpr hn
      refine ⟨ns.getD (k % (ns.length : Int)).toNat 0, k / (ns.length : Int), Int.ediv_nonneg h (by omega), ?_⟩
      have e1 := atI_I ns (k % (ns.length : Int)) (Int.emod_nonneg _ (by omega)) (Int.emod_lt_of_pos _ (by omega))
      have e2' : gIx (.scr (I ns)) (.int (k % (ns.length : Int))) st = RC.ok (D.int (ns.getD (k % (ns.length : Int)).toNat 0)) st := by
        show (match itemsOf (.scr (I ns)) with | some ds => (match atI ds (k % (ns.length : Int)) with | some d => RC.ok d st | none => .bad) | none => .bad) = _
        show (match atI (I ns) (k % (ns.length : Int)) with | some d => RC.ok d st | none => .bad) = _
        rw [e1]
      have e3 : ∀ st', gLen [.scr (I ns)] st' = RC.ok (D.int (ns.length : Int)) st' := fun st' => by
        show RC.ok (D.int (((I ns).length : Nat) : Int)) st' = _
        rw [I_len]
      have hk : decide (0 < (ns.length : Int) ∧ (ns.length : Int) < 1073741824) = true := by simp; omega
      have hk2 : decide (0 < (ns.length : Int)) = true := by simp; omega
      have h4 : (ns.length : Int) < 1073741824 := by omega
      simp [gNe, ne_scr ns, hn, flatL, isLoc, e2', e3, hl, h4]
  obtain ⟨c, t, ht, e0⟩ := e0
  suffices q : ∃ v, b__law_number [.val (.scr (I ns)), .val (.int k), .un, .un, .un, .un, .un] st = SR.rt (D.int v) st by
    obtain ⟨v, q⟩ := q
    exact ⟨v, callD_rt0 rfl q rfl⟩
  let P : SR → Prop := fun r => ∃ v, r = SR.rt (D.int v) st
  show P (b__law_number _ st)
  unfold b__law_number
  refine seq_P P e0 ?_
  have e1 : ∃ r0 : Int, (sAsg 4 (eIf (tB (e2 gLt (ePeek 3) (eC (.int 60)))) (e2 gSub (ePeek 2) (e2 gPow (eC (.int 10)) (eC (.int 18)))) (eC (.int 0)))) [.val (.scr (I ns)), .val (.int k), .val (.int c), .val (.int t), .un, .un, .un] st = .nx [.val (.scr (I ns)), .val (.int k), .val (.int c), .val (.int t), .val (.int r0), .un, .un] st := by
    by_cases h60 : t < 60
    · refine ⟨c - 10 ^ 18, ?_⟩
      simp [h60]
      rfl
    · exact ⟨0, by simp [h60]⟩
  obtain ⟨r0, e1⟩ := e1
  refine seq_P P e1 ?_
  have z2 : ∃ (r : Int) (x : Sl), (sFor (lRange1 (aCons (e2 gMod (eN gInt (aCons (ePeek 3) aNil)) (eC (.int 60))) aNil)) (bName 5) (sAsg 4 (e2 gFdiv (ePeek 4) (eC (.int 1009))))) [.val (.scr (I ns)), .val (.int k), .val (.int c), .val (.int t), .val (.int r0), .un, .un] st = .nx [.val (.scr (I ns)), .val (.int k), .val (.int c), .val (.int t), .val (.int r), x, .un] st := by
    have hi : (lRange1 (aCons (e2 gMod (eN gInt (aCons (ePeek 3) aNil)) (eC (.int 60))) aNil)) [.val (.scr (I ns)), .val (.int k), .val (.int c), .val (.int t), .val (.int r0), .un, .un] st = .ok ((List.range (t % 60).toNat).map fun (i : Nat) => D.int (0 + (i : Int))) st := by
      have h1 := Int.emod_nonneg t (show (60 : Int) ≠ 0 by decide)
      have h2 := Int.emod_lt_of_pos t (show (0 : Int) < 60 by decide)
      have h3 : -1000000000 ≤ t % 60 ∧ t % 60 ≤ 1000000000 := by omega
      simp [gInt, h3.1, h3.2, upto_map]
    obtain ⟨ρ2, st2, e, r, x, rfl, rfl⟩ := forGo_inv (bd := bName 5) (b := sAsg 4 (e2 gFdiv (ePeek 4) (eC (.int 1009)))) (fun (i : Nat) => D.int (0 + (i : Int))) (fun ρ s => ∃ (r : Int) (x : Sl), ρ = [.val (.scr (I ns)), .val (.int k), .val (.int c), .val (.int t), .val (.int r), x, .un] ∧ s = st) (List.range (t % 60).toNat)
      (by
        rintro i _ ρ s ⟨r, x, rfl, rfl⟩
        exact ⟨_, rfl, _, _, by simp; exact ⟨rfl, rfl⟩, _, _, rfl, rfl⟩) [.val (.scr (I ns)), .val (.int k), .val (.int c), .val (.int t), .val (.int r0), .un, .un] st ⟨r0, .un, rfl, rfl⟩
    refine ⟨r, x, ?_⟩
    rw [r_for, hi]
    exact e
  obtain ⟨r, x, z2⟩ := z2
  refine seq_P P z2 ?_
  by_cases hr : 0 < r
  · refine ⟨r % 1009, ?_⟩
    simp [gInt, hr]
  · have e3 : (sIf (tB (e2 gGt (ePeek 4) (eC (.int 0)))) (sRet (e2 gMod (eN gInt (aCons (ePeek 4) aNil)) (eC (.int 1009)))) sNil) [.val (.scr (I ns)), .val (.int k), .val (.int c), .val (.int t), .val (.int r), x, .un] st = .nx [.val (.scr (I ns)), .val (.int k), .val (.int c), .val (.int t), .val (.int r), x, .un] st := by simp [hr]
    refine seq_P P e3 ?_
    have e4 : ∀ s' : Store, gLen [.scr (I ns)] s' = RC.ok (D.int (ns.length : Int)) s' := fun s' => by
      show RC.ok (D.int (((I ns).length : Nat) : Int)) s' = _
      rw [I_len]
    have sm : ∀ z : Int, -(2 ^ 64) < z → z < 2 ^ 64 → Gh.small64 z = true := fun z h1 h2 => by unfold Gh.small64; simp; omega
    have s1 := sm 977 (by decide) (by decide)
    have s2 := sm 48271 (by decide) (by decide)
    have s3 := sm 31 (by decide) (by decide)
    have s4 := sm 40503 (by decide) (by decide)
    have s5 := sm 69621 (by decide) (by decide)
    obtain ⟨b1, hb1⟩ : ∃ b1, b1 = ((c + 977 * k) * 48271 + 31 * (ns.length : Int)) % 2147483647 := ⟨_, rfl⟩
    have g1 : 0 ≤ b1 := by rw [hb1]; exact Int.emod_nonneg _ (by decide)
    have g2 : b1 < 2147483647 := by rw [hb1]; exact Int.emod_lt_of_pos _ (by decide)
    have s6 := sm b1 (by omega) (by omega)
    have e5 : (sAsg 6 (e2 gMod (e2 gAddI (e2 gMul (eN gInt (aCons (e2 gAddI (ePeek 2) (e2 gMul (eC (.int 977)) (ePeek 1))) aNil)) (eC (.int 48271))) (e2 gMul (eC (.int 31)) (eN gLen (aCons (ePeek 0) aNil)))) (eC (.int 2147483647)))) [.val (.scr (I ns)), .val (.int k), .val (.int c), .val (.int t), .val (.int r), x, .un] st = .nx [.val (.scr (I ns)), .val (.int k), .val (.int c), .val (.int t), .val (.int r), x, .val (.int b1)] st := by
      rw [hb1]
      simp [gInt, e4, s1, s2, s3]
    refine seq_P P e5 ?_
    exact ⟨_, by simp [gInt, s4, s5, s6]; rfl⟩
/-- the law's store: the script, how many were drawn -/
abbrev dr (ns : List Int) (k : Int) : Store := [.lst [.scr (I ns), .int k]]
theorem take_ok (ns : List Int) (k m : Int) (h : 0 ≤ k) (hm : 0 < m) (hl : ns.length ≤ 63) : ∃ v : Int, 0 ≤ v ∧ v < m ∧ m__law_take [.loc 0, .int m] (dr ns k) = .ok (.int v) (dr ns (k + 1)) := by
  obtain ⟨v, hv⟩ := number_ok ns (k + 1) (by omega) hl (dr ns (k + 1))
  refine ⟨v % m, Int.emod_nonneg _ (by omega), Int.emod_lt_of_pos _ hm, ?_⟩
  refine callD_rt (st' := dr ns (k + 1)) rfl ?_ rfl
  show b__law_take [.val (.loc 0), .val (.int m)] (dr ns k) = _
  unfold b__law_take
  have e1 : (sAugI (eVar 0) (eC (.int 1)) gAddI (eC (.int 1))) [.val (.loc 0), .val (.int m)] (dr ns k) = .nx [.val (.loc 0), .val (.int m)] (dr ns (k + 1)) := rfl
  rw [seq_nx e1]
  have g0 : gIx (.loc 0) (.int 0) (dr ns (k + 1)) = .ok (.scr (I ns)) (dr ns (k + 1)) := rfl
  have g1 : gIx (.loc 0) (.int 1) (dr ns (k + 1)) = .ok (.int (k + 1)) (dr ns (k + 1)) := rfl
  simp [g0, g1, gInt, hv, hm]
end Lw
namespace Lw
open Gh L2 PyProof.Rows PySem.Spec PySem
/-! ### faults, numbers -/
abbrev FA (m t : Int) : D := .ins "Faults" [("many", .int m), ("ticks", .int t)]
@[simp] theorem att_many (m t : Int) (st : Store) : eAttC "many" ["Faults"] (FA m t) st = .ok (.int m) st := by kernel_rfl
@[simp] theorem att_ticks (m t : Int) (st : Store) : eAttC "ticks" ["Faults"] (FA m t) st = .ok (.int t) st := by kernel_rfl
@[simp] theorem isi_FA (m t : Int) (st : Store) : gIsi [] ["Faults"] [] (FA m t) st = .ok (.bl true) st := by kernel_rfl
@[simp] theorem isi_int (z : Int) (st : Store) : gIsi ["int"] [] [] (.int z) st = .ok (.bl true) st := by kernel_rfl
@[simp] theorem isi_bool (z : Int) (st : Store) : gIsi ["bool"] [] [] (.int z) st = .ok (.bl false) st := by kernel_rfl
@[simp] theorem isi_rowL (ds : List D) (st : Store) : gIsi ["list", "tuple"] [] [] (.lst ds) st = .ok (.bl true) st := by kernel_rfl
@[simp] theorem isi_rowT (ds : List D) (st : Store) : gIsi ["list", "tuple"] [] [] (.tup ds) st = .ok (.bl true) st := by kernel_rfl
@[simp] theorem check_faults_ok (m t : Int) (st : Store) : m_check_faults [FA m t] st = .ok .non st := by
  refine callD_nx0 (ρ' := [.val (FA m t)]) rfl ?_
  show b_check_faults [.val (FA m t)] st = _
  simp [b_check_faults]
@[simp] theorem is_integer_ok (z : Int) (st : Store) : m_is_integer [.int z] st = .ok (.bl true) st := by
  refine callD_rt0 rfl ?_ rfl
  show b_is_integer [.val (.int z)] st = _
  simp [b_is_integer]
@[simp] theorem is_number_ok (z a b : Int) (st : Store) : m_is_number [.int z, .int a, .int b] st = .ok (.bl (decide (a ≤ z) && decide (z ≤ b))) st := by
  refine callD_rt0 rfl ?_ rfl
  show b_is_number [.val (.int z), .val (.int a), .val (.int b)] st = _
  by_cases h : a ≤ z <;> simp [b_is_number, h]
theorem check_number_ok (s : Str) (z a b : Int) (st : Store) (h : a ≤ z ∧ z ≤ b) : m_check_number [.str s, .int z, .int a, .int b] st = .ok .non st := by
  refine callD_nx0 (ρ' := [.val (.str s), .val (.int z), .val (.int a), .val (.int b)]) rfl ?_
  show b_check_number [.val (.str s), .val (.int z), .val (.int a), .val (.int b)] st = _
  simp [b_check_number, h.1, h.2]
@[simp] theorem is_rowL_ok (ds : List D) (st : Store) : m_is_row [.lst ds] st = .ok (.bl true) st := by
  refine callD_rt0 rfl ?_ rfl
  show b_is_row [.val (.lst ds)] st = _
  simp [b_is_row]
@[simp] theorem is_rowT_ok (ds : List D) (st : Store) : m_is_row [.tup ds] st = .ok (.bl true) st := by
  refine callD_rt0 rfl ?_ rfl
  show b_is_row [.val (.tup ds)] st = _
  simp [b_is_row]
theorem set_last (st : Store) (x y : D) : (st ++ [x]).set st.length y = st ++ [y] := by
  induction st with
  | nil => rfl
  | cons a r ih => simp [ih]
theorem make_ok (m t : Int) (st : Store) (hm : 0 ≤ m ∧ m ≤ 999) (ht : 1 ≤ t ∧ t ≤ 99) : stillD st.length (initD "Faults" m_Faults___init__ [.int m, .int t] st) = .ok (FA m t) st := by
  have e : m_Faults___init__ [.loc st.length, .int m, .int t] (st ++ [.ins "Faults" []]) = .ok .non (st ++ [FA m t]) := by
    have q : b_Faults___init__ [.val (.loc st.length), .val (.int m), .val (.int t)] (st ++ [.ins "Faults" []]) = .nx [.val (.loc st.length), .val (.int m), .val (.int t)] (st ++ [FA m t]) := by
      have p1 : putFD "many" (.int m) [] = [(("many" : Str), D.int m)] := rfl
      have p2 : putFD "ticks" (.int t) [(("many" : Str), D.int m)] = [(("many" : Str), D.int m), (("ticks" : Str), .int t)] := by kernel_rfl
      simp [b_Faults___init__, check_number_ok _ m 0 999 _ hm, check_number_ok _ t 1 99 _ ht, sAtt, set_last, p1, p2, isLoc]
    have h := callD_nx (np := 3) (nl := 3) (ds := [.loc st.length, .int m, .int t]) rfl q
    rw [show (st ++ [FA m t]).take (st ++ [D.ins "Faults" []]).length = st ++ [FA m t] from List.take_of_length_le (by simp)] at h
    exact h
  unfold initD
  rw [e]
  simp [stillD]
end Lw
namespace Lw
open Gh L2 PyProof.Rows PySem.Spec PySem
/-! ### windows -/
def win (t now : Int) (l : List Int) : List Int := l.filter fun x => decide (now - t < x)
abbrev cnt (t now : Int) (l : List Int) : Nat := (win t now l).length
theorem within_ok (l : List Int) (now t : Int) (st : Store) (hl : l.length < 100000) : m_within [.lst (I l), .int now, .int t] st = .ok (.tup (I (win t now l))) st := by
  refine callD_rt0 rfl ?_ rfl
  show b_within [.val (.lst (I l)), .val (.int now), .val (.int t), .un] st = _
  have e : eComp (lSeq (eVar 0)) (bName 3) (tB (e2 gGt (ePeek 3) (e2 gSub (ePeek 1) (ePeek 2)))) (eVar 3) [3] [.val (.lst (I l)), .val (.int now), .val (.int t), .un] st = .ok (.lst (I (win t now l))) st := by
    refine eComp_map D.int D.int (fun x => decide (now - t < x)) l (by simp; rfl) hl fun a ha => ⟨_, rfl, ?_, fun _ => ⟨?_, rfl⟩⟩
    · simp [wipeR]
    · simp [wipeR]
  simp [b_within, e, gTuple, itemsOf]
def at0 (l : List Int) (i : Nat) : Int := l.getD i 0
theorem num_I (l : List Int) : Gh.numbered (I l) = (List.range l.length).map fun (i : Nat) => D.tup [.int (i : Int), .int (at0 l i)] := by
  unfold Gh.numbered
  rw [I_len]
  refine List.map_congr_left fun i hi => ?_
  have hi : i < l.length := List.mem_range.mp hi
  simp [I, at0, List.getD, List.getElem?_map, List.getElem?_eq_getElem hi]
theorem cut_to (l : List Int) (i : Nat) (hi : i < l.length) : Gh.cutD (I l) none (some ((i : Int) + 1)) = I (l.take (i + 1)) := by
  unfold Gh.cutD
  rw [show ((i : Int) + 1) = ((i + 1 : Nat) : Int) by omega, HT.sIx_none, HT.sIx_nat, I_len]
  rw [show min (i + 1) l.length - 0 = i + 1 by omega, List.drop_zero]
  unfold I
  rw [← List.map_take]
theorem cut_from1 (l : List Int) : Gh.cutD (I l) (some 1) none = I (l.drop 1) := by
  unfold Gh.cutD
  rw [show (1 : Int) = ((1 : Nat) : Int) from rfl, HT.sIx_none, HT.sIx_nat, I_len]
  cases l with
  | nil => rfl
  | cons a r =>
    rw [show min 1 (a :: r).length = 1 by simp]
    rw [List.take_of_length_le (by simp)]
    rfl
/-! ### rows of falls -/
def okF : Int → List Int → Prop
  | _, [] => True
  | p, x :: r => p ≤ x ∧ x ≤ 99999 ∧ okF x r
theorem falls_loop (x : D) (st : Store) : ∀ (l : List Int) (k : Nat) (p : Int) (a b : Sl), okF p l → ∃ (q : Int) (c d : Sl), forGo (bTup 2 (bCons (bName 2) (bCons (bName 3) bNil))) (sSeq (sIf (tNot (tTr (eCall m_is_number (aCons (eVar 3) (aCons (eVar 1) (aCons (eC (.int 99999)) aNil)))))) sBad sNil)
  (sAsg 1 (eVar 3))) (numF k (I l)) [.val x, .val (.int p), a, b] st = .nx [.val x, .val (.int q), c, d] st
  | [], k, p, a, b, _ => ⟨p, a, b, rfl⟩
  | y :: r, k, p, a, b, h => by
    obtain ⟨q, c, d, e⟩ := falls_loop x st r (k + 1) y (.val (.int k)) (.val (.int y)) h.2.2
    refine ⟨q, c, d, ?_⟩
    rw [← e]
    show forGo _ _ (.tup [.int k, .int y] :: numF (k + 1) (I r)) _ st = _
    conv => lhs; unfold forGo
    simp [h.1, h.2.1]
theorem check_falls_ok (l : List Int) (x : D) (hx : x = .lst (I l) ∨ x = .tup (I l)) (h : okF 0 l) (st : Store) : m_check_falls [x] st = .ok .non st := by
  obtain ⟨q, c, d, e⟩ := falls_loop x st l 0 0 .un .un h
  refine callD_nx0 (ρ' := [.val x, .val (.int q), c, d]) rfl ?_
  show b_check_falls [.val x, .un, .un, .un] st = _
  rw [← numbered_F] at e
  rcases hx with rfl | rfl <;> simp [b_check_falls, e, r_enum]
def row (t : Int) (l : List Int) (i : Nat) : Nat := cnt t (at0 l i) (l.take (i + 1))
def aw (m t : Int) (l : List Int) : Bool := (List.range l.length).all fun i => decide ((row t l i : Int) ≤ m)
theorem bools_map {α : Type} (f : α → Bool) : ∀ l : List α, asBools (l.map fun i => D.bl (f i)) = some (l.map f)
  | [] => rfl
  | a :: r => by
    show (asBools (r.map fun i => D.bl (f i))).map (f a :: ·) = _
    rw [bools_map f r]
    rfl
theorem ints_map {α : Type} (f : α → Int) : ∀ l : List α, asInts (l.map fun i => D.int (f i)) = some (l.map f)
  | [] => rfl
  | a :: r => by
    show (asInts (r.map fun i => D.int (f i))).map (f a :: ·) = _
    rw [ints_map f r]
    rfl
theorem len_tup (l : List Int) (st : Store) : gLen [.tup (I l)] st = .ok (.int (l.length : Int)) st := by
  show RC.ok (D.int (((I l).length : Nat) : Int)) st = _
  rw [I_len]
theorem len_lst (l : List Int) (st : Store) : gLen [.lst (I l)] st = .ok (.int (l.length : Int)) st := by
  show RC.ok (D.int (((I l).length : Nat) : Int)) st = _
  rw [I_len]
theorem are_within_ok (m t : Int) (l : List Int) (x : D) (hx : x = .lst (I l) ∨ x = .tup (I l)) (h : okF 0 l) (hl : l.length < 100000) (st : Store) : m_are_within [FA m t, x] st = .ok (.bl (aw m t l)) st := by
  refine callD_rt0 rfl ?_ rfl
  show b_are_within [.val (FA m t), .val x, .un, .un] st = _
  have hc := check_falls_ok l x hx h st
  have he : (lEnumU (aCons (eVar 1) aNil)) [.val (FA m t), .val x, .un, .un] st = .ok ((List.range l.length).map fun (i : Nat) => D.tup [.int (i : Int), .int (at0 l i)]) st := by
    rcases hx with rfl | rfl <;> simp [num_I, r_enum]
  have hg : gList [x] st = .ok (.lst (I l)) st := by
    rcases hx with rfl | rfl <;> rfl
  have e : eComp (lEnumU (aCons (eVar 1) aNil)) (bTup 2 (bCons (bName 2) (bCons (bName 3) bNil))) tYes (e2 gLe (eN gLen (aCons (eCall m_within (aCons (eCutL (eN gList (aCons (ePeek 1) aNil)) oNone (oSome (e2 gAddI (ePeek 2) (eC (.int 1))))) (aCons (eVar 3) (aCons (e1 (eAttC "ticks" ["Faults"]) (eVar 0)) aNil)))) aNil)) (e1 (eAttC "many" ["Faults"]) (eVar 0))) [2, 3] [.val (FA m t), .val x, .un, .un] st
      = .ok (.lst ((List.range l.length).map fun i => D.bl (decide ((row t l i : Int) ≤ m)))) st := by
    have z := eComp_map (α := Nat) (mi := lEnumU (aCons (eVar 1) aNil)) (bd := bTup 2 (bCons (bName 2) (bCons (bName 3) bNil))) (t := tYes) (me := e2 gLe (eN gLen (aCons (eCall m_within (aCons (eCutL (eN gList (aCons (ePeek 1) aNil)) oNone (oSome (e2 gAddI (ePeek 2) (eC (.int 1))))) (aCons (eVar 3) (aCons (e1 (eAttC "ticks" ["Faults"]) (eVar 0)) aNil)))) aNil)) (e1 (eAttC "many" ["Faults"]) (eVar 0))) (vs := [2, 3])
      (fun (i : Nat) => D.tup [.int (i : Int), .int (at0 l i)]) (fun i => D.bl (decide ((row t l i : Int) ≤ m))) (fun _ => true) (List.range l.length) he (by simpa using hl) fun i hi => ⟨_, rfl, rfl, fun _ => ⟨?_, rfl⟩⟩
    · rw [List.filter_eq_self.mpr (fun _ _ => rfl)] at z
      exact z
    · have hi : i < l.length := List.mem_range.mp hi
      have hw := within_ok (l.take (i + 1)) (at0 l i) t st (by rw [List.length_take]; omega)
      simp [wipeR, hg, gCutL, cut_to l i hi, hw, len_tup, row, cnt]
      rfl
  have hb := bools_map (fun i => decide ((row t l i : Int) ≤ m)) (List.range l.length)
  simp [b_are_within, hc, e, gAll, hb, aw]
end Lw
namespace Lw
open Gh L2 PyProof.Rows PySem.Spec PySem
theorem eqv_I : ∀ a b : List Int, eqvL (I a) (I b) = decide (a = b)
  | [], [] => rfl
  | [], _ :: _ => rfl
  | _ :: _, [] => rfl
  | x :: a, y :: b => by
    show (D.eqv (.int x) (.int y) && eqvL (I a) (I b)) = _
    rw [eqv_I a b]
    show ((x == y) && decide (a = b)) = _
    by_cases h : x = y <;> by_cases h2 : a = b <;> simp [h, h2]
theorem ok_lst (a : List Int) : okD 20 (.lst (I a)) = true := okI a 19
theorem ok_tup (a : List Int) : okD 20 (.tup (I a)) = true := okI a 19
@[simp] theorem eq_ii (a b : Int) (st : Store) : gEq (.int a) (.int b) st = .ok (.bl (decide (a = b))) st := rfl
@[simp] theorem ne_ii (a b : Int) (st : Store) : gNe (.int a) (.int b) st = .ok (.bl (!decide (a = b))) st := rfl
@[simp] theorem ne_bb (a b : Bool) (st : Store) : gNe (.bl a) (.bl b) st = .ok (.bl (!decide (a = b))) st := rfl
@[simp] theorem ne_in (a : Int) (st : Store) : gNe (.int a) .non st = .ok (.bl true) st := rfl
@[simp] theorem ne_ni (a : Int) (st : Store) : gNe .non (.int a) st = .ok (.bl true) st := rfl
@[simp] theorem ne_nn (st : Store) : gNe .non .non st = .ok (.bl false) st := rfl
@[simp] theorem eq_ni (a : Int) (st : Store) : gEq .non (.int a) st = .ok (.bl false) st := rfl
theorem eqD_ll (a b : List Int) : eqD (.lst (I a)) (.lst (I b)) = some (decide (a = b)) := by
  show (if okD 20 (.lst (I a)) = true ∧ okD 20 (.lst (I b)) = true then some (D.eqv (.lst (I a)) (.lst (I b))) else none) = _
  rw [if_pos ⟨ok_lst a, ok_lst b⟩]
  exact congrArg some (eqv_I a b)
theorem eqD_tt (a b : List Int) : eqD (.tup (I a)) (.tup (I b)) = some (decide (a = b)) := by
  show (if okD 20 (.tup (I a)) = true ∧ okD 20 (.tup (I b)) = true then some (D.eqv (.tup (I a)) (.tup (I b))) else none) = _
  rw [if_pos ⟨ok_tup a, ok_tup b⟩]
  exact congrArg some (eqv_I a b)
theorem eqD_nl (a : List Int) : eqD .non (.lst (I a)) = some false := by
  show (if okD 20 .non = true ∧ okD 20 (.lst (I a)) = true then some (D.eqv .non (.lst (I a))) else none) = _
  rw [if_pos ⟨rfl, ok_lst a⟩]
  rfl
theorem eqD_ln (a : List Int) : eqD (.lst (I a)) .non = some false := by
  show (if okD 20 (.lst (I a)) = true ∧ okD 20 .non = true then some (D.eqv (.lst (I a)) .non) else none) = _
  rw [if_pos ⟨ok_lst a, rfl⟩]
  rfl
@[simp] theorem ne_ll (a b : List Int) (st : Store) : gNe (.lst (I a)) (.lst (I b)) st = .ok (.bl (!decide (a = b))) st := by unfold gNe; rw [eqD_ll]
@[simp] theorem ne_l0 (a : List Int) (st : Store) : gNe (.lst (I a)) (.lst []) st = .ok (.bl (!decide (a = []))) st := ne_ll a [] st
@[simp] theorem ne_t0 (a : List Int) (st : Store) : gNe (.tup (I a)) (.tup []) st = .ok (.bl (!decide (a = []))) st := by
  show (match eqD (.tup (I a)) (.tup (I [])) with | some b => RC.ok (D.bl (!b)) st | none => .bad) = _
  rw [eqD_tt]
@[simp] theorem ne_nl (a : List Int) (st : Store) : gNe .non (.lst (I a)) st = .ok (.bl true) st := by unfold gNe; rw [eqD_nl]; rfl
@[simp] theorem ne_ln (a : List Int) (st : Store) : gNe (.lst (I a)) .non st = .ok (.bl true) st := by unfold gNe; rw [eqD_ln]; rfl
theorem ix_pos (l : List Int) (k : Int) (h0 : 0 ≤ k) (h1 : k < l.length) (st : Store) : gIx (.lst (I l)) (.int k) st = .ok (.int (l.getD k.toNat 0)) st := by
  show (match atI (I l) k with | some d => RC.ok d st | none => .bad) = _
  rw [atI_I l k h0 h1]
theorem ix_neg (l : List Int) (j : Nat) (h0 : 1 ≤ j) (h1 : j ≤ l.length) (st : Store) : gIx (.lst (I l)) (.int (-(j : Int))) st = .ok (.int (l.getD (l.length - j) 0)) st := by
  show (match atI (I l) (-(j : Int)) with | some d => RC.ok d st | none => .bad) = _
  have e : atI (I l) (-(j : Int)) = some (.int (l.getD (l.length - j) 0)) := by
    unfold atI ixN
    rw [if_neg (by omega), I_len, if_pos (by omega), Option.bind_some, show (-(j : Int) + (l.length : Int)).toNat = l.length - j by omega]
    unfold I
    rw [List.getElem?_map]
    have : l.length - j < l.length := by omega
    simp [List.getElem?_eq_getElem this, List.getD]
  rw [e]
/-! ### first beyond -/
def fb (most t : Int) (l : List Int) : Option Nat := (List.range l.length).find? fun i => decide (most < (row t l i : Int))
def optD : Option Nat → D
  | none => .non
  | some i => .int (i : Int)
theorem first_beyond_ok (most t : Int) (l : List Int) (x : D) (hx : x = .lst (I l) ∨ x = .tup (I l)) (h : okF 0 l) (hl : l.length < 100000) (h1 : 0 ≤ most ∧ most ≤ 99) (h2 : 1 ≤ t ∧ t ≤ 99) (st : Store) : m_first_beyond [.int most, .int t, x] st = .ok (optD (fb most t l)) st := by
  have hc := check_falls_ok l x hx h st
  have hg : gList [x] st = .ok (.lst (I l)) st := by
    rcases hx with rfl | rfl <;> rfl
  have c1 := check_number_ok "most" most 0 99 st h1
  have c2 := check_number_ok "ticks" t 1 99 st h2
  have he : ∀ a b, (lEnumU (aCons (eVar 2) aNil)) [.val (.int most), .val (.int t), .val x, a, b] st = .ok ((List.range l.length).map fun (i : Nat) => D.tup [.int (i : Int), .int (at0 l i)]) st := fun a b => by
    rcases hx with rfl | rfl <;> simp [num_I, r_enum]
  have lp := forGo_find (bd := bTup 2 (bCons (bName 3) (bCons (bName 4) bNil))) (b := sIf (tB (e2 gGt (eN gLen (aCons (eCall m_within (aCons (eCutL (eN gList (aCons (ePeek 2) aNil)) oNone (oSome (e2 gAddI (ePeek 3) (eC (.int 1))))) (aCons (eVar 4) (aCons (eVar 1) aNil)))) aNil)) (ePeek 0))) (sRet (eVar 3)) sNil) (st := st)
    (fun (i : Nat) => D.tup [.int (i : Int), .int (at0 l i)]) (fun i => D.int (i : Int)) (fun i => decide (most < (row t l i : Int))) (fun ρ => ∃ a b, ρ = [.val (.int most), .val (.int t), .val x, a, b]) (List.range l.length)
    (by
      rintro i hi ρ ⟨a, b, rfl⟩
      have hi : i < l.length := List.mem_range.mp hi
      have hw := within_ok (l.take (i + 1)) (at0 l i) t st (by rw [List.length_take]; omega)
      refine ⟨_, rfl, fun hp => ?_, fun hp => ?_⟩
      · have hp : most < (row t l i : Int) := by simpa using hp
        unfold row cnt at hp
        simp [hg, gCutL, cut_to l i hi, hw, len_tup, hp]
      · have hp : ¬ most < (row t l i : Int) := by simpa using hp
        unfold row cnt at hp
        refine ⟨[.val (.int most), .val (.int t), .val x, .val (.int (i : Int)), .val (.int (at0 l i))], by simp [hg, gCutL, cut_to l i hi, hw, len_tup, hp], _, _, rfl⟩) [.val (.int most), .val (.int t), .val x, .un, .un] ⟨_, _, rfl⟩
  rcases lp with ⟨i, e1, e2⟩ | ⟨e1, ρ2, e2, a, b, rfl⟩
  · refine callD_rt0 rfl ?_ (by unfold fb; rw [e1]; rfl)
    show b_first_beyond [.val (.int most), .val (.int t), .val x, .un, .un] st = _
    have : fb most t l = some i := e1
    simp [b_first_beyond, c1, c2, hc, he, e2, this, optD]
  · refine callD_rt0 rfl ?_ (by unfold fb; rw [e1]; rfl)
    show b_first_beyond [.val (.int most), .val (.int t), .val x, .un, .un] st = _
    have : fb most t l = none := e1
    simp [b_first_beyond, c1, c2, hc, he, e2, this, optD]
/-! ### soonest -/
theorem sm (z : Int) (h1 : -(2 ^ 64) < z) (h2 : z < 2 ^ 64) : Gh.small64 z = true := by unfold Gh.small64; simp; omega
def son (m t : Int) (n : Nat) : List Int := (List.range n).map fun (i : Nat) => (i : Int) / m * t
def sonD (m t n : Int) : D := if m = 0 then (if n = 0 then .lst (I []) else .non) else .lst (I (son m t n.toNat))
theorem soonest_ok (m t n : Int) (hm : 0 ≤ m ∧ m ≤ 999) (ht : 1 ≤ t ∧ t ≤ 999) (hn : 0 ≤ n ∧ n ≤ 999) (st : Store) : m_soonest [FA m t, .int n] st = .ok (sonD m t n) st := by
  have c1 := check_number_ok "many" n 0 999 st hn
  refine callD_rt0 rfl ?_ (by unfold sonD; split <;> (try split) <;> rfl)
  show b_soonest [.val (FA m t), .val (.int n), .un] st = _
  by_cases h : m = 0
  · subst h
    by_cases h2 : n = 0
    · subst h2
      simp [b_soonest, c1, sonD, flatL]
    · simp [b_soonest, c1, sonD, h2]
  · have e : eComp (lRange1 (aCons (eVar 1) aNil)) (bName 2) tYes (e2 gMul (e2 gFdiv (ePeek 2) (e1 (eAttC "many" ["Faults"]) (eVar 0))) (e1 (eAttC "ticks" ["Faults"]) (eVar 0))) [2] [.val (FA m t), .val (.int n), .un] st = .ok (.lst (I (son m t n.toNat))) st := by
      have hr : (lRange1 (aCons (eVar 1) aNil)) [.val (FA m t), .val (.int n), .un] st = .ok ((List.range n.toNat).map fun (i : Nat) => D.int (0 + (i : Int))) st := by
        have h3 : -1000000000 ≤ n ∧ n ≤ 1000000000 := by omega
        simp [h3.1, h3.2, upto_map]
      have z := eComp_map (α := Nat) (bd := bName 2) (t := tYes) (me := e2 gMul (e2 gFdiv (ePeek 2) (e1 (eAttC "many" ["Faults"]) (eVar 0))) (e1 (eAttC "ticks" ["Faults"]) (eVar 0))) (vs := [2]) (fun (i : Nat) => D.int (0 + (i : Int))) (fun (i : Nat) => D.int ((i : Int) / m * t)) (fun _ => true) (List.range n.toNat) hr (by rw [List.length_range]; omega) fun i hi => ⟨_, rfl, rfl, fun _ => ⟨?_, rfl⟩⟩
      · rw [List.filter_eq_self.mpr (fun _ _ => rfl)] at z
        rw [z]
        unfold son I
        rw [List.map_map]
        rfl
      · have h4 : 0 < m ∧ m < 1073741824 := by omega
        simp [wipeR, h4.1, h4.2, sm t (by omega) (by omega)]
    simp [b_soonest, c1, sonD, h, e]
/-! ### the most within -/
def mw (m t k : Int) : Int := (k + t - 1) / t * m
theorem most_within_ok (m t k : Int) (hm : 0 ≤ m ∧ m ≤ 999) (ht : 1 ≤ t ∧ t ≤ 999) (hk : 1 ≤ k ∧ k ≤ 999) (st : Store) : m_most_within [.int k, FA m t] st = .ok (.int (mw m t k)) st := by
  have c1 := check_number_ok "ticks" k 1 999 st hk
  refine callD_rt0 rfl ?_ rfl
  show b_most_within [.val (.int k), .val (FA m t)] st = _
  have h4 : 0 < t ∧ t < 1073741824 := by omega
  simp [b_most_within, c1, h4.1, h4.2, sm m (by omega) (by omega), mw]
theorem least_most_ok (m t k : Int) (hm : 0 ≤ m ∧ m ≤ 999) (ht : 1 ≤ t ∧ t ≤ 999) (hk : 1 ≤ k ∧ k ≤ 999) (st : Store) : m_least_most [.int k, FA m t] st = .ok (.int (mw m t k)) st := by
  refine callD_rt0 rfl ?_ rfl
  show b_least_most [.val (.int k), .val (FA m t)] st = _
  simp [b_least_most, most_within_ok m t k hm ht hk]
end Lw
namespace Lw
open Gh L2 PyProof.Rows PySem.Spec PySem
theorem ix_last (l : List Int) (h : l ≠ []) (st : Store) : gIx (.lst (I l)) (.int (-1)) st = .ok (.int (at0 l (l.length - 1))) st :=
  ix_neg l 1 (by decide) (List.length_pos_iff.mpr h) st
theorem ix_first (l : List Int) (h : l ≠ []) (st : Store) : gIx (.lst (I l)) (.int 0) st = .ok (.int (at0 l 0)) st := by
  have := List.length_pos_iff.mpr h
  exact ix_pos l 0 (by decide) (by omega) st
def spD (l : List Int) : Int := if l = [] then 0 else at0 l (l.length - 1) - at0 l 0
theorem span_none (m t n : Int) (hm : 0 ≤ m ∧ m ≤ 999) (ht : 1 ≤ t ∧ t ≤ 999) (hn : 0 ≤ n ∧ n ≤ 999) (st : Store) (h : sonD m t n = .non) : m_span_of [FA m t, .int n] st = .ok .non st := by
  refine callD_rt0 rfl ?_ rfl
  show b_span_of [.val (FA m t), .val (.int n), .un] st = _
  simp [b_span_of, soonest_ok m t n hm ht hn, h, Gh.isNon]
theorem span_some (m t n : Int) (l : List Int) (hm : 0 ≤ m ∧ m ≤ 999) (ht : 1 ≤ t ∧ t ≤ 999) (hn : 0 ≤ n ∧ n ≤ 999) (st : Store) (h : sonD m t n = .lst (I l)) : m_span_of [FA m t, .int n] st = .ok (.int (spD l)) st := by
  refine callD_rt0 rfl ?_ rfl
  show b_span_of [.val (FA m t), .val (.int n), .un] st = _
  by_cases hl : l = []
  · subst hl
    have := ne_ll [] [] st
    simp at this
    simp [b_span_of, soonest_ok m t n hm ht hn, h, Gh.isNon, flatL, spD, this]
  · simp [b_span_of, soonest_ok m t n hm ht hn, h, Gh.isNon, flatL, spD, hl, ix_last l hl, ix_first l hl]
/-! ### bounds -/
abbrev BE (v : Int) : D := .ins "Bears" [("many", .int v)]
abbrev PA (l : List Int) : D := .ins "Passed" [("falls", .tup (I l))]
@[simp] theorem att_be (v : Int) (st : Store) : eAttC "many" ["Bears"] (BE v) st = .ok (.int v) st := by kernel_rfl
@[simp] theorem att_pa (l : List Int) (st : Store) : eAttC "falls" ["Passed"] (PA l) st = .ok (.tup (I l)) st := by kernel_rfl
@[simp] theorem r_make (c : Str) (f : CallF) (ms : ADen) (ρ : REnv) (st : Store) : eMake c f ms ρ st = (ms ρ st).bind fun ds st1 => stillD st1.length (initD c f ds st1) := rfl
theorem make_be (v : Int) (st : Store) : stillD st.length (initD "Bears" m_Bears___init__ [.int v] st) = .ok (BE v) st := by
  have e : m_Bears___init__ [.loc st.length, .int v] (st ++ [.ins "Bears" []]) = .ok .non (st ++ [BE v]) := by
    have q : b_Bears___init__ [.val (.loc st.length), .val (.int v)] (st ++ [.ins "Bears" []]) = .nx [.val (.loc st.length), .val (.int v)] (st ++ [BE v]) := by
      have p1 : putFD "many" (.int v) [] = [(("many" : Str), D.int v)] := rfl
      simp [b_Bears___init__, sAtt, set_last, p1, isLoc]
    have h := callD_nx (np := 2) (nl := 2) (ds := [.loc st.length, .int v]) rfl q
    rw [show (st ++ [BE v]).take (st ++ [D.ins "Bears" []]).length = st ++ [BE v] from List.take_of_length_le (by simp)] at h
    exact h
  unfold initD
  rw [e]
  simp [stillD]
theorem make_pa (l : List Int) (st : Store) : stillD st.length (initD "Passed" m_Passed___init__ [.lst (I l)] st) = .ok (PA l) st := by
  have e : m_Passed___init__ [.loc st.length, .lst (I l)] (st ++ [.ins "Passed" []]) = .ok .non (st ++ [PA l]) := by
    have q : b_Passed___init__ [.val (.loc st.length), .val (.lst (I l))] (st ++ [.ins "Passed" []]) = .nx [.val (.loc st.length), .val (.lst (I l))] (st ++ [PA l]) := by
      have p1 : putFD "falls" (.tup (I l)) [] = [(("falls" : Str), D.tup (I l))] := rfl
      simp [b_Passed___init__, sAtt, set_last, p1, isLoc, gTuple, itemsOf]
    have h := callD_nx (np := 2) (nl := 2) (ds := [.loc st.length, .lst (I l)]) rfl q
    rw [show (st ++ [PA l]).take (st ++ [D.ins "Passed" []]).length = st ++ [PA l] from List.take_of_length_le (by simp)] at h
    exact h
  unfold initD
  rw [e]
  simp [stillD]
structure Bnd (most b m t : Int) : Prop where
  h1 : 0 ≤ most ∧ most ≤ 99
  h2 : 1 ≤ b ∧ b ≤ 99
  hm : 0 ≤ m ∧ m ≤ 999
  ht : 1 ≤ t ∧ t ≤ 99
theorem check_bound_ok {most b m t : Int} (B : Bnd most b m t) (st : Store) : m_check_bound [.int most, .int b, FA m t] st = .ok .non st := by
  refine callD_nx0 (ρ' := [.val (.int most), .val (.int b), .val (FA m t)]) rfl ?_
  show b_check_bound [.val (.int most), .val (.int b), .val (FA m t)] st = _
  simp [b_check_bound, check_number_ok _ most 0 99 st B.h1, check_number_ok _ b 1 99 st B.h2]
def jd (most b m t : Int) : D := if mw m t b ≤ most then BE (mw m t b) else PA (son m t (most + 1).toNat)
theorem judge_ok {most b m t : Int} (B : Bnd most b m t) (st : Store) : m_judge_bound [.int most, .int b, FA m t] st = .ok (jd most b m t) st := by
  have e1 := most_within_ok m t b B.hm ⟨B.ht.1, by have := B.ht.2; omega⟩ ⟨B.h2.1, by have := B.h2.2; omega⟩ st
  refine callD_rt0 rfl ?_ (by unfold jd; split <;> rfl)
  show b_judge_bound [.val (.int most), .val (.int b), .val (FA m t), .un] st = _
  by_cases h : mw m t b ≤ most
  · simp [b_judge_bound, check_bound_ok B, e1, h, make_be, jd]
  · have hm0 : m ≠ 0 := fun z => h (by subst z; unfold mw; rw [Int.mul_zero]; exact B.h1.1)
    have e2 := soonest_ok m t (most + 1) B.hm ⟨B.ht.1, by have := B.ht.2; omega⟩ ⟨by have := B.h1.1; omega, by have := B.h1.2; omega⟩ st
    have e3 : sonD m t (most + 1) = .lst (I (son m t (most + 1).toNat)) := by unfold sonD; rw [if_neg hm0]
    simp [b_judge_bound, check_bound_ok B, e1, h, e2, e3, make_pa, jd]
theorem look_b (a b : CallF) : List.lookup ("Bears" : Str) [(("Bears" : Str), a), (("Passed" : Str), b)] = some a := by kernel_rfl
theorem look_p (a b : CallF) : List.lookup ("Passed" : Str) [(("Bears" : Str), a), (("Passed" : Str), b)] = some b := by kernel_rfl
theorem bool_b (v : Int) (st : Store) : askB (fun c => List.lookup c [("Bears", m_Bears___bool__), ("Passed", m_Passed___bool__)]) [] (BE v) st = .ok true st := by
  have e : m_Bears___bool__ [BE v] st = .ok (.bl true) st := callD_rt0 rfl rfl rfl
  simp [askB, instOf, look_b, e, noX]
theorem bool_p (l : List Int) (st : Store) : askB (fun c => List.lookup c [("Bears", m_Bears___bool__), ("Passed", m_Passed___bool__)]) [] (PA l) st = .ok false st := by
  have e : m_Passed___bool__ [PA l] st = .ok (.bl false) st := callD_rt0 rfl rfl rfl
  simp [askB, instOf, look_p, e, noX]
theorem shows_b {most b m t : Int} (B : Bnd most b m t) (st : Store) (h : mw m t b ≤ most) : m_Bears_shows [BE (mw m t b), .int most, .int b, FA m t] st = .ok (.bl true) st := by
  refine callD_rt0 rfl ?_ rfl
  show b_Bears_shows [.val (BE (mw m t b)), .val (.int most), .val (.int b), .val (FA m t)] st = _
  have ej : jd most b m t = BE (mw m t b) := by unfold jd; rw [if_pos h]
  have e : m_Bears___eq__ [BE (mw m t b), BE (mw m t b)] st = .ok (.bl true) st := by
    refine callD_rt0 rfl ?_ rfl
    show b_Bears___eq__ [.val (BE (mw m t b)), .val (BE (mw m t b))] st = _
    have i1 : gIsi [] ["Bears"] [] (BE (mw m t b)) st = .ok (.bl true) st := by kernel_rfl
    simp [b_Bears___eq__, i1]
  have e2 : gEqI (fun c => List.lookup c [("Bears", m_Bears___eq__), ("Passed", m_Passed___eq__)]) ["Bears"] (BE (mw m t b)) (BE (mw m t b)) st = .ok (.bl true) st := by
    have i2 : insIn ["Bears"] st (BE (mw m t b)) = true := by kernel_rfl
    unfold gEqI
    rw [if_pos i2]
    simp [gOwnEq, askB, instOf, look_b, e, noX]
  simp [b_Bears_shows, judge_ok B, ej, e2]
theorem shows_loop (x a b c : D) (st : Store) : ∀ (l : List Int) (p : Int) (y : Sl), okF p l → ∃ (q : Int) (z : Sl), forGo (bName 5) (sSeq (sIf (tNot (tTr (eCall m_is_number (aCons (eVar 5) (aCons (eVar 4) (aCons (eC (.int 99999)) aNil)))))) (sRet (eC (.bl false))) sNil)
  (sAsg 4 (eVar 5))) (I l) [.val x, .val a, .val b, .val c, .val (.int p), y] st = .nx [.val x, .val a, .val b, .val c, .val (.int q), z] st
  | [], p, y, _ => ⟨p, y, rfl⟩
  | n :: r, p, y, h => by
    obtain ⟨q, z, e⟩ := shows_loop x a b c st r n (.val (.int n)) h.2.2
    refine ⟨q, z, ?_⟩
    rw [← e, I_cons]
    conv => lhs; unfold forGo
    simp [h.1, h.2.1]
theorem shows_p {most b m t : Int} (B : Bnd most b m t) (l : List Int) (st : Store) (h : okF 0 l) (hl : l.length < 100000) (ha : aw m t l = true) (hf : fb most b l = some (l.length - 1)) (hn : l ≠ []) : m_Passed_shows [PA l, .int most, .int b, FA m t] st = .ok (.bl true) st := by
  refine callD_rt0 rfl ?_ rfl
  show b_Passed_shows [.val (PA l), .val (.int most), .val (.int b), .val (FA m t), .un, .un] st = _
  obtain ⟨q, z, e⟩ := shows_loop (PA l) (.int most) (.int b) (FA m t) st l 0 .un h
  have e1 := are_within_ok m t l (.tup (I l)) (.inr rfl) h hl st
  have e2 := first_beyond_ok most b l (.tup (I l)) (.inr rfl) h hl B.h1 B.h2 st
  have hp := List.length_pos_iff.mpr hn
  have e3 : ((l.length - 1 : Nat) : Int) = (l.length : Int) - 1 := by omega
  simp [b_Passed_shows, check_bound_ok B, e, e1, e2, ha, hf, optD, len_tup, e3, hn, flatL]
/-! ### the greatest ticks -/
def good (m t most : Int) : List Nat := (List.range 99).filter fun i => decide (mw m t (1 + (i : Int)) ≤ most)
def gtD (m t most : Int) : Int := if good m t most = [] then 0 else 1 + (((good m t most).getD ((good m t most).length - 1) 0 : Nat) : Int)
theorem greatest_ok (m t most : Int) (hm : 0 ≤ m ∧ m ≤ 999) (ht : 1 ≤ t ∧ t ≤ 99) (h1 : 0 ≤ most ∧ most ≤ 99) (st : Store) : m_greatest_ticks [.int most, FA m t] st = .ok (.int (gtD m t most)) st := by
  refine callD_rt0 rfl ?_ rfl
  show b_greatest_ticks [.val (.int most), .val (FA m t), .un, .un] st = _
  have e : eComp (lRange2 (aCons (eC (.int 1)) (aCons (eC (.int 100)) aNil))) (bName 3) (tB (e2 gLe (eCall m_most_within (aCons (eVar 3) (aCons (eVar 1) aNil))) (ePeek 0))) (eVar 3) [3] [.val (.int most), .val (FA m t), .un, .un] st = .ok (.lst (I ((good m t most).map fun (i : Nat) => 1 + (i : Int)))) st := by
    have z := eComp_map (α := Nat) (mi := lRange2 (aCons (eC (.int 1)) (aCons (eC (.int 100)) aNil))) (ρ := [.val (.int most), .val (FA m t), .un, .un]) (st := st) (bd := bName 3) (t := tB (e2 gLe (eCall m_most_within (aCons (eVar 3) (aCons (eVar 1) aNil))) (ePeek 0))) (me := eVar 3) (vs := [3]) (fun (i : Nat) => D.int (1 + (i : Int))) (fun (i : Nat) => D.int (1 + (i : Int))) (fun i => decide (mw m t (1 + (i : Int)) ≤ most)) (List.range 99) (by rfl) (by rw [List.length_range]; decide) fun i hi => ⟨_, rfl, ?_, fun _ => ⟨?_, rfl⟩⟩
    · rw [z]
      unfold good I
      rw [List.map_map]
      rfl
    · have hi : i < 99 := List.mem_range.mp hi
      have e1 := most_within_ok m t (1 + (i : Int)) hm ⟨ht.1, by have := ht.2; omega⟩ ⟨by omega, by omega⟩ st
      simp [wipeR, e1]
    · simp [wipeR]
  have hc := check_number_ok "most" most 0 99 st h1
  by_cases hg : good m t most = []
  · rw [hg] at e
    have e0 : gNe (.lst []) (.lst []) st = .ok (.bl false) st := rfl
    have e : eComp (lRange2 (aCons (eC (.int 1)) (aCons (eC (.int 100)) aNil))) (bName 3) (tB (e2 gLe (eCall m_most_within (aCons (eVar 3) (aCons (eVar 1) aNil))) (ePeek 0))) (eVar 3) [3] [.val (.int most), .val (FA m t), .un, .un] st = .ok (.lst []) st := e
    simp [b_greatest_ticks, hc, e, e0, flatL, gtD, hg]
  · have hg2 : ((good m t most).map fun (i : Nat) => 1 + (i : Int)) ≠ [] := by simpa using hg
    have e4 := ix_last _ hg2 st
    have e5 := ne_l0 ((good m t most).map fun (i : Nat) => 1 + (i : Int)) st
    rw [decide_eq_false hg2] at e5
    have e6 : at0 ((good m t most).map fun (i : Nat) => 1 + (i : Int)) (((good m t most).map fun (i : Nat) => 1 + (i : Int)).length - 1) = gtD m t most := by
      unfold gtD at0
      rw [if_neg hg, List.length_map]
      have hp := List.length_pos_iff.mpr hg
      have hlt : (good m t most).length - 1 < (good m t most).length := by omega
      simp [List.getD, List.getElem?_eq_getElem hlt]
    rw [e6] at e4
    generalize ((good m t most).map fun (i : Nat) => 1 + (i : Int)) = gl at e e4 e5
    simp [b_greatest_ticks, hc, e, e4, e5, flatL]
end Lw
namespace Lw
open Gh L2 PyProof.Rows PySem.Spec PySem
/-! ### counting -/
theorem at0_map (f : Int → Int) (l : List Int) (i : Nat) (h : i < l.length) : at0 (l.map f) i = f (at0 l i) := by
  unfold at0
  simp [List.getD, List.getElem?_eq_getElem h]
theorem take_at (l : List Int) (n : Nat) (h : n ≤ l.length) : l.take n = (List.range n).map (at0 l) := by
  apply List.ext_getElem?
  intro i
  by_cases hi : i < n
  · have : i < l.length := by omega
    rw [List.getElem?_take_of_lt hi, List.getElem?_map]
    simp [hi, at0, List.getD, List.getElem?_eq_getElem this]
  · rw [List.getElem?_take_eq_none (by omega), List.getElem?_eq_none (by simp; omega)]
/-- how many j < n have p -/
abbrev num (n : Nat) (p : Nat → Bool) : Nat := ((List.range n).filter p).length
theorem row_num (t : Int) (l : List Int) (i : Nat) (h : i < l.length) : row t l i = num (i + 1) fun j => decide (at0 l i - t < at0 l j) := by
  unfold row cnt win
  rw [take_at l (i + 1) (by omega), List.filter_map, List.length_map]
  rfl
theorem num_mono {n : Nat} {p q : Nat → Bool} (h : ∀ j, j < n → p j = true → q j = true) : num n p ≤ num n q := by
  unfold num
  rw [← List.countP_eq_length_filter, ← List.countP_eq_length_filter]
  exact List.countP_mono_left fun j hj => h j (List.mem_range.mp hj)
theorem num_congr {n : Nat} {p q : Nat → Bool} (h : ∀ j, j < n → p j = q j) : num n p = num n q := by
  unfold num
  rw [List.filter_congr fun j hj => h j (List.mem_range.mp hj)]
theorem num_succ (n : Nat) (p : Nat → Bool) : num (n + 1) p = num n p + if p n = true then 1 else 0 := by
  unfold num
  rw [List.range_succ, List.filter_append, List.length_append]
  cases h : p n <;> simp [h]
theorem num_ge (c : Nat) : ∀ n : Nat, num n (fun j => decide (c ≤ j)) = n - c
  | 0 => by simp
  | n + 1 => by
    rw [num_succ, num_ge c n]
    by_cases h : c ≤ n <;> simp [h] <;> omega
theorem num_lt (c : Nat) : ∀ n : Nat, num n (fun j => decide (j < c)) = min n c
  | 0 => by simp
  | n + 1 => by
    rw [num_succ, num_lt c n]
    by_cases h : n < c <;> simp [h] <;> omega
theorem num_all (n : Nat) (p : Nat → Bool) (h : ∀ j, j < n → p j = true) : num n p = n := by
  unfold num
  rw [List.filter_eq_self.mpr fun j hj => h j (List.mem_range.mp hj), List.length_range]
theorem num_shift (p : Nat → Bool) : ∀ n : Nat, num n (fun j => p (j + 1)) ≤ num (n + 1) p
  | 0 => Nat.zero_le _
  | n + 1 => by
    rw [num_succ, num_succ (n + 1)]
    have := num_shift p n
    omega
theorem num_le (n : Nat) (p : Nat → Bool) : num n p ≤ n := by
  unfold num
  exact Nat.le_trans (List.length_filter_le _ _) (by rw [List.length_range]; exact Nat.le_refl _)
theorem aw_iff (m t : Int) (l : List Int) : aw m t l = true ↔ ∀ i, i < l.length → (row t l i : Int) ≤ m := by
  unfold aw
  rw [List.all_eq_true]
  constructor
  · intro h i hi
    simpa using h i (List.mem_range.mpr hi)
  · intro h i hi
    simpa using h i (List.mem_range.mp hi)
theorem aw_congr {m t m' t' : Int} {l l' : List Int} (hl : l.length = l'.length) (h : ∀ i, i < l.length → ((row t l i : Int) ≤ m ↔ (row t' l' i : Int) ≤ m')) : aw m t l = aw m' t' l' := by
  rw [Bool.eq_iff_iff, aw_iff, aw_iff]
  constructor
  · intro z i hi
    exact (h i (by omega)).mp (z i (by omega))
  · intro z i hi
    exact (h i hi).mpr (z i (by omega))
theorem aw_scale (m t b : Int) (l : List Int) (hb : 0 < b) : aw m (b * t) (l.map fun x => b * x) = aw m t l := by
  refine aw_congr (by simp) fun i hi => ?_
  rw [List.length_map] at hi
  rw [row_num _ _ i (by simpa using hi), row_num _ _ i hi]
  rw [num_congr (q := fun j => decide (at0 l i - t < at0 l j)) fun j hj => ?_]
  rw [at0_map _ _ _ hi, at0_map _ _ _ (by omega), ← Int.mul_sub, decide_eq_decide]
  exact ⟨fun h => Int.lt_of_mul_lt_mul_left h (by omega), fun h => Int.mul_lt_mul_of_pos_left h hb⟩
theorem aw_shift (m t b : Int) (l : List Int) : aw m t (l.map fun x => x + b) = aw m t l := by
  refine aw_congr (by simp) fun i hi => ?_
  rw [List.length_map] at hi
  rw [row_num _ _ i (by simpa using hi), row_num _ _ i hi]
  rw [num_congr (q := fun j => decide (at0 l i - t < at0 l j)) fun j hj => ?_]
  rw [at0_map _ _ _ hi, at0_map _ _ _ (by omega), decide_eq_decide]
  omega
theorem at0_drop (l : List Int) (i : Nat) : at0 (l.drop 1) i = at0 l (i + 1) := by
  unfold at0
  simp [List.getD, List.getElem?_drop, Nat.add_comm]
theorem aw_drop (m t : Int) (l : List Int) (h : aw m t l = true) : aw m t (l.drop 1) = true := by
  rw [aw_iff] at h ⊢
  intro i hi
  rw [List.length_drop] at hi
  have z := h (i + 1) (by omega)
  rw [row_num _ _ _ (by omega)] at z
  rw [row_num _ _ _ (by rw [List.length_drop]; omega)]
  have y := num_shift (fun j => decide (at0 l (i + 1) - t < at0 l j)) (i + 1)
  rw [num_congr (q := fun j => decide (at0 l (i + 1) - t < at0 l (j + 1))) fun j hj => by rw [at0_drop, at0_drop]]
  omega
theorem aw_more (m t : Int) (l : List Int) (h : aw m t l = true) : aw (m + 1) t l = true := by
  rw [aw_iff] at h ⊢
  intro i hi
  have := h i hi
  omega
theorem row_pos (t : Int) (l : List Int) (i : Nat) (h : i < l.length) (ht : 1 ≤ t) : 1 ≤ row t l i := by
  rw [row_num _ _ _ h, num_succ, if_pos (by simp; omega)]
  omega
/-! ### sorted -/
theorem okF_le {p : Int} : ∀ {l : List Int}, okF p l → ∀ i, i < l.length → p ≤ at0 l i
  | [], h, i, hi => by simp at hi
  | x :: r, h, 0, hi => h.1
  | x :: r, h, i + 1, hi => Int.le_trans h.1 (okF_le h.2.2 i (by simpa using hi))
theorem okF_mono {p : Int} : ∀ {l : List Int}, okF p l → ∀ i j, i ≤ j → j < l.length → at0 l i ≤ at0 l j
  | [], h, i, j, _, hj => by simp at hj
  | x :: r, h, 0, 0, _, _ => Int.le_refl _
  | x :: r, h, 0, j + 1, _, hj => okF_le h.2.2 j (by simpa using hj)
  | x :: r, h, i + 1, 0, hi, _ => by omega
  | x :: r, h, i + 1, j + 1, hi, hj => okF_mono h.2.2 i j (by omega) (by simpa using hj)
theorem okF_of {p : Int} : ∀ {l : List Int}, (∀ i, i < l.length → p ≤ at0 l i ∧ at0 l i ≤ 99999) → (∀ i, i + 1 < l.length → at0 l i ≤ at0 l (i + 1)) → okF p l
  | [], _, _ => True.intro
  | x :: r, h, h2 => by
    refine ⟨(h 0 (by simp)).1, (h 0 (by simp)).2, okF_of (fun i hi => ⟨?_, (h (i + 1) (by simpa using hi)).2⟩) fun i hi => h2 (i + 1) (by simpa using hi)⟩
    induction i with
    | zero => exact h2 0 (by simpa using hi)
    | succ k ih => exact Int.le_trans (ih (by omega)) (h2 (k + 1) (by simpa using hi))
theorem okF_top {p : Int} : ∀ {l : List Int}, okF p l → ∀ i, i < l.length → at0 l i ≤ 99999
  | [], h, i, hi => by simp at hi
  | x :: r, h, 0, hi => h.2.1
  | x :: r, h, i + 1, hi => okF_top h.2.2 i (by simpa using hi)
end Lw
namespace Lw
open Gh L2 PyProof.Rows PySem.Spec PySem
/-! ### the soonest falls -/
@[simp] theorem son_len (m t : Int) (n : Nat) : (son m t n).length = n := by simp [son]
theorem son_at (m t : Int) (n i : Nat) (h : i < n) : at0 (son m t n) i = (i : Int) / m * t := by
  unfold at0 son
  simp [List.getD, h]
theorem div_mono {m : Int} (hm : 0 < m) {a b : Int} (h : a ≤ b) : a / m ≤ b / m := Int.ediv_le_ediv hm h
theorem div_nn {m : Int} (hm : 0 < m) (a : Nat) : 0 ≤ (a : Int) / m := Int.ediv_nonneg (by omega) (by omega)
theorem div_le_self {m : Int} (hm : 0 < m) (a : Nat) : (a : Int) / m ≤ (a : Int) := Int.ediv_le_self m (by omega)
theorem son_ok (m t : Int) (n : Nat) (hm : 0 < m) (ht : 1 ≤ t ∧ t ≤ 99) (hn : n ≤ 1000) : okF 0 (son m t n) := by
  refine okF_of (fun i hi => ?_) fun i hi => ?_
  · rw [son_len] at hi
    rw [son_at m t n i hi]
    have h1 := div_nn hm i
    have h2 := div_le_self hm i
    refine ⟨Int.mul_nonneg h1 (by omega), ?_⟩
    have h3 : (i : Int) / m * t ≤ (i : Int) * 99 := Int.mul_le_mul h2 ht.2 (by omega) (by omega)
    omega
  · rw [son_len] at hi
    rw [son_at m t n i (by omega), son_at m t n (i + 1) hi]
    exact Int.mul_le_mul_of_nonneg_right (div_mono hm (by omega)) (by omega)
/-- j is in i's block or behind it, if it is less than t ahead of it -/
theorem block_iff {m t : Int} (hm : 0 < m) (ht : 0 < t) (i j : Nat) : (i : Int) / m * t - t < (j : Int) / m * t ↔ (i : Int) / m ≤ (j : Int) / m := by
  constructor
  · intro h
    have h2 : ((i : Int) / m - 1) * t < (j : Int) / m * t := by rw [Int.sub_mul, Int.one_mul]; exact h
    have := Int.lt_of_mul_lt_mul_right h2 (by omega)
    omega
  · intro h
    have := Int.mul_le_mul_of_nonneg_right h (show 0 ≤ t by omega)
    omega
theorem num_block {m : Int} (hm : 0 < m) (i : Nat) : num (i + 1) (fun j => decide ((i : Int) / m ≤ (j : Int) / m)) = i + 1 - ((i : Int) / m * m).toNat := by
  rw [← num_ge]
  refine num_congr fun j hj => ?_
  rw [decide_eq_decide]
  rw [Int.le_ediv_iff_mul_le hm]
  have := Int.mul_nonneg (div_nn hm i) (show 0 ≤ m by omega)
  omega
theorem son_row {m t : Int} (n i : Nat) (hm : 0 < m) (ht : 0 < t) (h : i < n) : row t (son m t n) i = i + 1 - ((i : Int) / m * m).toNat := by
  rw [row_num _ _ _ (by rw [son_len]; exact h), ← num_block hm]
  refine num_congr fun j hj => ?_
  rw [son_at m t n i h, son_at m t n j (by omega), decide_eq_decide]
  exact block_iff hm ht i j
theorem son_aw (m t : Int) (n : Nat) (hm : 0 < m) (ht : 0 < t) : aw m t (son m t n) = true := by
  rw [aw_iff]
  intro i hi
  rw [son_len] at hi
  rw [son_row n i hm ht hi]
  have h1 := Int.lt_ediv_add_one_mul_self (i : Int) hm
  have h2 := Int.mul_nonneg (div_nn hm i) (show 0 ≤ m by omega)
  rw [Int.add_mul, Int.one_mul] at h1
  omega
theorem son_scale (m t b : Int) (n : Nat) : son m (b * t) n = (son m t n).map fun x => b * x := by
  unfold son
  rw [List.map_map]
  refine List.map_congr_left fun i _ => ?_
  show (i : Int) / m * (b * t) = b * ((i : Int) / m * t)
  rw [← Int.mul_assoc, Int.mul_comm _ b, Int.mul_assoc]
/-! ### one sooner is not within -/
theorem sooner (m t : Int) (n : Nat) (hm : 0 < m) (ht : 1 ≤ t) (hn : 2 ≤ n) (l : List Int) (hl : l.length = n) (hlow : ∀ j, j + 1 < n → at0 l j = (j : Int) / m * t) (z : at0 l (n - 1) = max (((n - 1 : Nat) : Int) / m * t - 1) (((n - 2 : Nat) : Int) / m * t))
    (hlt : ((n - 2 : Nat) : Int) / m * t < ((n - 1 : Nat) : Int) / m * t) : aw m t l = false := by
  have hq : ((n - 2 : Nat) : Int) / m < ((n - 1 : Nat) : Int) / m := Int.lt_of_mul_lt_mul_right hlt (by omega)
  obtain ⟨q, hqd⟩ : ∃ q, q = ((n - 1 : Nat) : Int) / m := ⟨_, rfl⟩
  have h1 : q * m ≤ ((n - 1 : Nat) : Int) := by rw [hqd]; exact Int.ediv_mul_le _ (by omega)
  have h2 : ((n - 2 : Nat) : Int) < q * m := by rw [← hqd] at hq; exact (Int.ediv_lt_iff_lt_mul hm).mp hq
  have h3 : q * m = ((n - 1 : Nat) : Int) := by omega
  have h4 : ((n - 2 : Nat) : Int) / m = q - 1 := by
    have g1 : (q - 1) * m ≤ ((n - 2 : Nat) : Int) := by rw [Int.sub_mul, Int.one_mul]; omega
    have g2 := (Int.le_ediv_iff_mul_le hm).mpr g1
    rw [← hqd] at hq
    omega
  have hq1 : 1 ≤ q := by
    have := div_nn hm (n - 2)
    omega
  rw [h4, ← hqd] at z
  have z2 : at0 l (n - 1) = q * t - 1 := by
    rw [z, Int.sub_mul, Int.one_mul]
    omega
  cases e : aw m t l with
  | false => rfl
  | true =>
    rw [aw_iff] at e
    have e1 := e (n - 1) (by omega)
    rw [row_num _ _ _ (by omega)] at e1
    have e2 : num (n - 1 + 1) (fun j => decide (((q - 1) * m).toNat ≤ j)) ≤ num (n - 1 + 1) (fun j => decide (at0 l (n - 1) - t < at0 l j)) := by
      refine num_mono fun j hj hp => ?_
      have hp : ((q - 1) * m).toNat ≤ j := by simpa using hp
      rw [z2]
      by_cases hj2 : j + 1 < n
      · rw [hlow j hj2]
        have g1 : (q - 1) * m ≤ (j : Int) := by omega
        have g2 := (Int.le_ediv_iff_mul_le hm).mpr g1
        have g3 := Int.mul_le_mul_of_nonneg_right g2 (show 0 ≤ t by omega)
        rw [Int.sub_mul, Int.one_mul] at g3
        simp
        omega
      · have : j = n - 1 := by omega
        subst this
        rw [z2]
        simp
        omega
    rw [num_ge] at e2
    have g4 : (q - 1) * m = q * m - m := by rw [Int.sub_mul, Int.one_mul]
    have g5 : 0 ≤ (q - 1) * m := Int.mul_nonneg (by omega) (by omega)
    omega
/-! ### falls that are within are no sooner -/
theorem apart (m t : Int) (l : List Int) (h : okF 0 l) (ht : 1 ≤ t) (ha : aw m t l = true) (i : Nat) (k : Nat) (hk : (k : Int) = m) (hi : i + k < l.length) : at0 l i + t ≤ at0 l (i + k) := by
  rw [aw_iff] at ha
  have e1 := ha (i + k) hi
  rw [row_num _ _ _ hi] at e1
  refine Classical.byContradiction fun z => ?_
  have e2 : num (i + k + 1) (fun j => decide (i ≤ j)) ≤ num (i + k + 1) (fun j => decide (at0 l (i + k) - t < at0 l j)) := by
    refine num_mono fun j hj hp => ?_
    have hp : i ≤ j := by simpa using hp
    have := okF_mono h i j hp (by omega)
    simp
    omega
  rw [num_ge] at e2
  omega
theorem apart_q (m t : Int) (l : List Int) (h : okF 0 l) (ht : 1 ≤ t) (ha : aw m t l = true) (k : Nat) (hk : (k : Int) = m) : ∀ q : Nat, q * k < l.length → at0 l 0 + (q : Int) * t ≤ at0 l (q * k)
  | 0, _ => by simp
  | q + 1, hq => by
    have e0 : (q + 1) * k = q * k + k := by rw [Nat.add_mul, Nat.one_mul]
    rw [e0] at hq ⊢
    have ih := apart_q m t l h ht ha k hk q (by omega)
    have e := apart m t l h ht ha (q * k) k hk hq
    have e1 : ((q + 1 : Nat) : Int) * t = (q : Int) * t + t := by
      rw [show ((q + 1 : Nat) : Int) = (q : Int) + 1 by omega, Int.add_mul, Int.one_mul]
    omega
theorem no_sooner (m t : Int) (l : List Int) (h : okF 0 l) (hm : 0 ≤ m) (ht : 1 ≤ t) (ha : aw m t l = true) (hn : l ≠ []) : 0 < m ∧ ((l.length - 1 : Nat) : Int) / m * t ≤ at0 l (l.length - 1) - at0 l 0 := by
  have hp := List.length_pos_iff.mpr hn
  have hm1 : 0 < m := by
    have e := (aw_iff m t l).mp ha 0 hp
    have := row_pos t l 0 hp ht
    omega
  refine ⟨hm1, ?_⟩
  obtain ⟨k, hk⟩ : ∃ k : Nat, (k : Int) = m := ⟨m.toNat, by omega⟩
  obtain ⟨q, hq⟩ : ∃ q : Nat, (q : Int) = ((l.length - 1 : Nat) : Int) / m := ⟨(((l.length - 1 : Nat) : Int) / m).toNat, by have := div_nn hm1 (l.length - 1); omega⟩
  have h1 : (q : Int) * m ≤ ((l.length - 1 : Nat) : Int) := by rw [hq]; exact Int.ediv_mul_le _ (by omega)
  have h2 : q * k ≤ l.length - 1 := by
    have : ((q * k : Nat) : Int) = (q : Int) * m := by rw [Int.natCast_mul, hk]
    omega
  have h3 := apart_q m t l h ht ha k hk q (by omega)
  have h4 := okF_mono h (q * k) (l.length - 1) h2 (by omega)
  rw [← hq]
  omega
end Lw
namespace Lw
open Gh L2 PyProof.Rows PySem.Spec PySem
/-! ### what is borne -/
/-- the least number of spans of t that hold x -/
def up (t x : Int) : Int := (x + t - 1) / t
theorem up_lt {t : Int} (ht : 0 < t) (x y : Int) : y < up t x ↔ y * t < x := by
  unfold up
  constructor
  · intro h
    have h2 : y + 1 ≤ (x + t - 1) / t := by omega
    have h3 := (Int.le_ediv_iff_mul_le ht).mp h2
    rw [Int.add_mul, Int.one_mul] at h3
    omega
  · intro h
    have h3 : (y + 1) * t ≤ x + t - 1 := by rw [Int.add_mul, Int.one_mul]; omega
    have := (Int.le_ediv_iff_mul_le ht).mpr h3
    omega
theorem up_mono {t : Int} (ht : 0 < t) {x y : Int} (h : x ≤ y) : up t x ≤ up t y := Int.ediv_le_ediv ht (by omega)
theorem up_nn {t : Int} (ht : 0 < t) {x : Int} (h : 0 ≤ x) : 0 ≤ up t x := Int.ediv_nonneg (by omega) (by omega)
theorem up_le {t : Int} (ht : 0 < t) {x : Int} (h : 0 ≤ x) : up t x ≤ x := by
  refine Classical.byContradiction fun z => ?_
  have := (up_lt ht x x).mp (by omega)
  have h2 : x * 1 ≤ x * t := Int.mul_le_mul_of_nonneg_left (by omega) h
  omega
theorem up_scale {t b : Int} (ht : 0 < t) (hb : 0 < b) (x : Int) : up (b * t) (b * x) = up t x := by
  have hbt : 0 < b * t := Int.mul_pos hb ht
  refine Int.le_antisymm ?_ ?_
  · refine Classical.byContradiction fun z => ?_
    have h1 := (up_lt hbt (b * x) (up t x)).mp (by omega)
    have h2 : b * (up t x * t) < b * x := by
      rw [← Int.mul_assoc, Int.mul_comm b, Int.mul_assoc]
      exact h1
    have h3 := (up_lt ht x (up t x)).mpr (Int.lt_of_mul_lt_mul_left h2 (by omega))
    omega
  · refine Classical.byContradiction fun z => ?_
    have h1 := (up_lt ht x (up (b * t) (b * x))).mp (by omega)
    have h2 : up (b * t) (b * x) * (b * t) < b * x := by
      rw [← Int.mul_assoc, Int.mul_comm _ b, Int.mul_assoc]
      exact Int.mul_lt_mul_of_pos_left h1 hb
    have h3 := (up_lt hbt (b * x) (up (b * t) (b * x))).mpr h2
    omega
theorem mw_up (m t k : Int) : mw m t k = up t k * m := rfl
theorem mw_scale {m t b : Int} (ht : 0 < t) (hb : 0 < b) (x : Int) : mw m (b * t) (b * x) = mw m t x := by rw [mw_up, mw_up, up_scale ht hb]
theorem mw_mono {m t : Int} (hm : 0 ≤ m) (ht : 0 < t) {x y : Int} (h : x ≤ y) : mw m t x ≤ mw m t y := Int.mul_le_mul_of_nonneg_right (up_mono ht h) hm
/-- the soonest falls ahead of x -/
theorem due_is (m t x : Int) (n : Nat) (hm : 0 < m) (ht : 0 < t) (hx : 0 ≤ x) (hb : mw m t x ≤ n) : ((((son m t n).filter fun z => decide (0 ≤ z) && decide (z < 0 + x)).length : Nat) : Int) = mw m t x := by
  have e : ((son m t n).filter fun z => decide (0 ≤ z) && decide (z < 0 + x)).length = num n fun j => decide (j < (mw m t x).toNat) := by
    unfold son
    rw [List.filter_map, List.length_map]
    refine num_congr fun j hj => ?_
    have h1 : 0 ≤ (j : Int) / m * t := Int.mul_nonneg (div_nn hm j) (by omega)
    have h2 : (j : Int) / m * t < x ↔ (j : Int) < mw m t x := by
      rw [← up_lt ht, mw_up]
      exact Int.ediv_lt_iff_lt_mul hm
    show (decide (0 ≤ (j : Int) / m * t) && decide ((j : Int) / m * t < 0 + x)) = _
    rw [decide_eq_true h1, Bool.true_and, Int.zero_add, decide_eq_decide, h2]
    omega
  rw [e, num_lt]
  have : 0 ≤ mw m t x := Int.mul_nonneg (up_nn ht hx) (by omega)
  omega
/-! ### what is passed -/
theorem passed_fb (most b m t : Int) (hm : 0 < m) (ht : 0 < t) (h1 : 0 ≤ most) (h : ¬ mw m t b ≤ most) : fb most b (son m t (most + 1).toNat) = some most.toNat := by
  have hn : most.toNat < (most + 1).toNat := by omega
  have hlt : most / m * t < b := by
    rw [← up_lt ht]
    rw [mw_up] at h
    exact (Int.ediv_lt_iff_lt_mul hm).mpr (by omega)
  have e1 : row b (son m t (most + 1).toNat) most.toNat = most.toNat + 1 := by
    rw [row_num _ _ _ (by rw [son_len]; exact hn)]
    refine num_all _ _ fun j hj => ?_
    rw [son_at _ _ _ _ hn, son_at _ _ _ _ (by omega)]
    have h2 : 0 ≤ (j : Int) / m * t := Int.mul_nonneg (div_nn hm j) (by omega)
    have h3 : ((most.toNat : Nat) : Int) = most := by omega
    rw [h3]
    simp
    omega
  unfold fb
  rw [List.find?_eq_some_iff_getElem]
  refine ⟨by rw [e1]; simp; omega, most.toNat, by simp; omega, by simp, fun j hj => ?_⟩
  have h4 : row b (son m t (most + 1).toNat) j ≤ j + 1 := by
    rw [row_num _ _ _ (by rw [son_len]; omega)]
    exact num_le _ _
  simp
  omega
/-! ### the greatest ticks -/
theorem gt_facts (m t most : Int) (hm : 0 ≤ m) (ht : 0 < t) : 0 ≤ gtD m t most ∧ gtD m t most ≤ 99 ∧ (0 < gtD m t most → mw m t (gtD m t most) ≤ most) ∧ (gtD m t most < 99 → ¬ mw m t (gtD m t most + 1) ≤ most) := by
  have mem : ∀ i, i ∈ good m t most ↔ i < 99 ∧ mw m t (1 + (i : Int)) ≤ most := fun i => by
    unfold good
    simp
  by_cases hg : good m t most = []
  · have e : gtD m t most = 0 := by unfold gtD; rw [if_pos hg]
    rw [e]
    refine ⟨by omega, by omega, fun h => by omega, fun _ h => ?_⟩
    have := (mem 0).mpr ⟨by omega, by simpa using h⟩
    rw [hg] at this
    simp at this
  · have hp := List.length_pos_iff.mpr hg
    have hlt : (good m t most).length - 1 < (good m t most).length := by omega
    obtain ⟨g, hgd⟩ : ∃ g, g = (good m t most)[(good m t most).length - 1] := ⟨_, rfl⟩
    have e : gtD m t most = 1 + (g : Int) := by
      unfold gtD
      rw [if_neg hg, hgd]
      simp [List.getD, List.getElem?_eq_getElem hlt]
    have hmem : g ∈ good m t most := by rw [hgd]; exact List.getElem_mem hlt
    obtain ⟨g1, g2⟩ := (mem g).mp hmem
    rw [e]
    refine ⟨by omega, by omega, fun _ => g2, fun h1 h2 => ?_⟩
    have h3 : g + 1 ∈ good m t most := (mem (g + 1)).mpr ⟨by omega, by rw [show (1 + ((g + 1 : Nat) : Int)) = 1 + (g : Int) + 1 by omega]; exact h2⟩
    have srt : (good m t most).Pairwise (· < ·) := by
      unfold good
      exact List.Pairwise.sublist List.filter_sublist List.pairwise_lt_range
    obtain ⟨i, hi, hie⟩ := List.getElem_of_mem h3
    have : i ≤ (good m t most).length - 1 := by omega
    rcases Nat.lt_or_eq_of_le this with h4 | h4
    · have := List.pairwise_iff_getElem.mp srt i ((good m t most).length - 1) hi hlt h4
      rw [hie, ← hgd] at this
      omega
    · subst h4
      rw [← hgd] at hie
      omega
end Lw
namespace Lw
open Gh L2 PyProof.Rows PySem.Spec PySem
theorem eMake_of {c : Str} {f : CallF} {ms : ADen} {ρ : REnv} {st : Store} {ds : List D} (h : ms ρ st = .ok ds st) : eMake c f ms ρ st = stillD st.length (initD c f ds st) := by
  unfold eMake
  rw [h]
  rfl
structure Mtb (m t b : Int) : Prop where
  m0 : 0 ≤ m
  m1 : m < 5
  t0 : 1 ≤ t
  t1 : t ≤ 8
  b0 : 2 ≤ b
  b1 : b ≤ 5
theorem st1 {a2 a3 a4 a5 a6 a7 a8 a9 a10 a11 a12 a13 a14 a15 a16 a17 a18 a19 a20 a21 a22 a23 a24 : Sl} (ns : List Int) (hl : ns.length ≤ 63) (k : Int) (hk : 0 ≤ k) : ∃ m t b k' : Int, Mtb m t b ∧ 0 ≤ k' ∧ x_law_1 [Sl.val (.scr (I ns)), Sl.val (.loc 0), a2, a3, a4, a5, a6, a7, a8, a9, a10, a11, a12, a13, a14, a15, a16, a17, a18, a19, a20, a21, a22, a23, a24] (dr ns k) = .nx [Sl.val (.scr (I ns)), Sl.val (.loc 0), a2, Sl.val (.int m), Sl.val (.int t), Sl.val (.int b), a6, a7, a8, a9, a10, a11, a12, a13, a14, a15, a16, a17, a18, a19, a20, a21, a22, a23, a24] (dr ns k') := by
  obtain ⟨m, m0, m1, e1⟩ := take_ok ns k 5 hk (by decide) hl
  obtain ⟨t, t0, t1, e2⟩ := take_ok ns (k + 1) 8 (by omega) (by decide) hl
  obtain ⟨b, b0, b1, e3⟩ := take_ok ns (k + 1 + 1) 4 (by omega) (by decide) hl
  refine ⟨m, 1 + t, 2 + b, k + 1 + 1 + 1, ⟨m0, m1, by omega, by omega, by omega, by omega⟩, by omega, ?_⟩
  simp [x_law_1, e1, e2, e3]
theorem st2 {a2 a6 a7 a8 a9 a10 a11 a12 a13 a14 a15 a16 a17 a18 a19 a20 a21 a22 a23 a24 : Sl} (ns : List Int) (k m t b : Int) (B : Mtb m t b) : x_law_2 [Sl.val (.scr (I ns)), Sl.val (.loc 0), a2, Sl.val (.int m), Sl.val (.int t), Sl.val (.int b), a6, a7, a8, a9, a10, a11, a12, a13, a14, a15, a16, a17, a18, a19, a20, a21, a22, a23, a24] (dr ns k) = .nx [Sl.val (.scr (I ns)), Sl.val (.loc 0), a2, Sl.val (.int m), Sl.val (.int t), Sl.val (.int b), Sl.val (FA m t), Sl.val (FA m (b * t)), a8, a9, a10, a11, a12, a13, a14, a15, a16, a17, a18, a19, a20, a21, a22, a23, a24] (dr ns k) := by
  obtain ⟨m0, m1, t0, t1, b0, b1⟩ := B
  have hbt : 1 ≤ b * t ∧ b * t ≤ 99 := by
    have h1 : 1 * 1 ≤ b * t := Int.mul_le_mul (by omega) t0 (by decide) (by omega)
    have h2 : b * t ≤ 5 * 8 := Int.mul_le_mul b1 t1 (by omega) (by decide)
    omega
  have e1 : eMake "Faults" m_Faults___init__ (aCons (eVar 3) (aCons (eVar 4) aNil)) [Sl.val (.scr (I ns)), Sl.val (.loc 0), a2, Sl.val (.int m), Sl.val (.int t), Sl.val (.int b), a6, a7, a8, a9, a10, a11, a12, a13, a14, a15, a16, a17, a18, a19, a20, a21, a22, a23, a24] (dr ns k) = .ok (FA m t) (dr ns k) := by
    rw [eMake_of (ds := [.int m, .int t]) (by simp)]
    exact make_ok m t _ (by omega) (by omega)
  have e2 : eMake "Faults" m_Faults___init__ (aCons (eVar 3) (aCons (e2 gMul (ePeek 5) (ePeek 4)) aNil)) [Sl.val (.scr (I ns)), Sl.val (.loc 0), a2, Sl.val (.int m), Sl.val (.int t), Sl.val (.int b), a6, a7, a8, a9, a10, a11, a12, a13, a14, a15, a16, a17, a18, a19, a20, a21, a22, a23, a24] (dr ns k) = .ok (FA m (b * t)) (dr ns k) := by
    rw [eMake_of (ds := [.int m, .int (b * t)]) (by simp [sm b (by omega) (by omega)])]
    exact make_ok m (b * t) _ (by omega) hbt
  simp [x_law_2, -r_make, e1, e2]

theorem st3 {a2 a8 a9 a10 a11 a12 a13 a14 a15 a16 a17 a18 a19 a20 a21 a22 a23 a24 : Sl} (ns : List Int) (k m t b : Int) : x_law_3 [Sl.val (.scr (I ns)), Sl.val (.loc 0), a2, Sl.val (.int m), Sl.val (.int t), Sl.val (.int b), Sl.val (FA m t), Sl.val (FA m (b * t)), a8, a9, a10, a11, a12, a13, a14, a15, a16, a17, a18, a19, a20, a21, a22, a23, a24] (dr ns k) = .nx [Sl.val (.scr (I ns)), Sl.val (.loc 0), a2, Sl.val (.int m), Sl.val (.int t), Sl.val (.int b), Sl.val (FA m t), Sl.val (FA m (b * t)), Sl.own (.lst (I [])), Sl.val (.int 0), a10, a11, a12, a13, a14, a15, a16, a17, a18, a19, a20, a21, a22, a23, a24] (dr ns k) := by
  simp [x_law_3, flatL]
/-- falls as they are drawn -/
structure Fl (l : List Int) (z : Int) : Prop where
  ok : okF 0 l
  le : ∀ i, i < l.length → at0 l i ≤ z
  z0 : 0 ≤ z
theorem at0_app (l : List Int) (x : Int) (i : Nat) : at0 (l ++ [x]) i = if i < l.length then at0 l i else if i = l.length then x else 0 := by
  unfold at0
  by_cases h : i < l.length
  · rw [if_pos h]
    simp [List.getD, List.getElem?_append_left h]
  · rw [if_neg h]
    by_cases h2 : i = l.length
    · subst h2
      simp [List.getD]
    · rw [if_neg h2]
      simp [List.getD, List.getElem?_eq_none (show (l ++ [x]).length ≤ i by simp; omega)]
theorem Fl.add {l : List Int} {z d : Int} (F : Fl l z) (h0 : 0 ≤ d) (h1 : z + d ≤ 99999) : Fl (l ++ [z + d]) (z + d) := by
  refine ⟨okF_of (fun i hi => ?_) fun i hi => ?_, fun i hi => ?_, by have := F.z0; omega⟩
  · rw [at0_app]
    rw [List.length_append] at hi
    simp at hi
    by_cases h : i < l.length
    · rw [if_pos h]
      exact ⟨okF_le F.ok i h, okF_top F.ok i h⟩
    · rw [if_neg h, if_pos (by omega)]
      have := F.z0
      exact ⟨by omega, h1⟩
  · rw [List.length_append] at hi
    simp at hi
    rw [at0_app, at0_app, if_pos (by omega)]
    by_cases h : i + 1 < l.length
    · rw [if_pos h]
      exact okF_mono F.ok i (i + 1) (by omega) h
    · rw [if_neg h, if_pos (by omega)]
      have := F.le i (by omega)
      omega
  · rw [List.length_append] at hi
    simp at hi
    rw [at0_app]
    by_cases h : i < l.length
    · rw [if_pos h]
      have := F.le i h
      omega
    · rw [if_neg h, if_pos (by omega)]
      exact Int.le_refl _
theorem st6_go {a2 a11 a12 a13 a14 a15 a16 a17 a18 a19 a20 a21 a22 a23 a24 : Sl} (ns : List Int) (hl : ns.length ≤ 63) (m t b : Int) : ∀ (ds : List Nat) (l : List Int) (z k : Int) (a10 : Sl), 0 ≤ k → Fl l z → z + 3 * (ds.length : Int) ≤ 99999 → l.length + ds.length ≤ 1000 →
    ∃ (l' : List Int) (z' k' : Int) (c10 : Sl), 0 ≤ k' ∧ Fl l' z' ∧ z' ≤ z + 3 * (ds.length : Int) ∧ l'.length ≤ l.length + ds.length ∧ forGo (bName 10) (sSeq x_law_4 x_law_5) (ds.map fun (i : Nat) => D.int (0 + (i : Int))) [Sl.val (.scr (I ns)), Sl.val (.loc 0), a2, Sl.val (.int m), Sl.val (.int t), Sl.val (.int b), Sl.val (FA m t), Sl.val (FA m (b * t)), Sl.own (.lst (I l)), Sl.val (.int z), a10, a11, a12, a13, a14, a15, a16, a17, a18, a19, a20, a21, a22, a23, a24] (dr ns k) = .nx [Sl.val (.scr (I ns)), Sl.val (.loc 0), a2, Sl.val (.int m), Sl.val (.int t), Sl.val (.int b), Sl.val (FA m t), Sl.val (FA m (b * t)), Sl.own (.lst (I l')), Sl.val (.int z'), c10, a11, a12, a13, a14, a15, a16, a17, a18, a19, a20, a21, a22, a23, a24] (dr ns k')
  | [], l, z, k, a10, hk, F, _, _ => ⟨l, z, k, a10, hk, F, by simp, by simp, rfl⟩
  | i :: ds, l, z, k, a10, hk, F, hz, hn => by
    obtain ⟨d, d0, d1, e1⟩ := take_ok ns k 4 hk (by decide) hl
    rw [List.length_cons] at hz hn
    obtain ⟨l', z', k', c10, h1, h2, h3, h4, h5⟩ := st6_go ns hl m t b ds (l ++ [z + d]) (z + d) (k + 1) (.val (.int (0 + (i : Int)))) (by omega) (F.add d0 (by omega)) (by omega) (by rw [List.length_append]; simp; omega)
    refine ⟨l', z', k', c10, h1, h2, by rw [List.length_cons]; omega, by rw [List.length_cons]; rw [List.length_append] at h4; simp at h4; omega, ?_⟩
    rw [List.map_cons]
    have hlt : l.length < 100000 := by omega
    have eI : I l ++ [D.int (z + d)] = I (l ++ [z + d]) := by unfold I; rw [List.map_append]; rfl
    conv => lhs; unfold forGo
    simp only [r_bName, List.set_cons_succ, List.set_cons_zero]
    have e2 : (sSeq x_law_4 x_law_5) [Sl.val (.scr (I ns)), Sl.val (.loc 0), a2, Sl.val (.int m), Sl.val (.int t), Sl.val (.int b), Sl.val (FA m t), Sl.val (FA m (b * t)), Sl.own (.lst (I l)), Sl.val (.int z), Sl.val (.int (0 + (i : Int))), a11, a12, a13, a14, a15, a16, a17, a18, a19, a20, a21, a22, a23, a24] (dr ns k) = .nx [Sl.val (.scr (I ns)), Sl.val (.loc 0), a2, Sl.val (.int m), Sl.val (.int t), Sl.val (.int b), Sl.val (FA m t), Sl.val (FA m (b * t)), Sl.own (.lst (I (l ++ [z + d]))), Sl.val (.int (z + d)), Sl.val (.int (0 + (i : Int))), a11, a12, a13, a14, a15, a16, a17, a18, a19, a20, a21, a22, a23, a24] (dr ns (k + 1)) := by
      simp [x_law_4, x_law_5, e1, hlt, isLoc, eI]
    rw [e2]
    exact h5
theorem st6 {a2 a10 a11 a12 a13 a14 a15 a16 a17 a18 a19 a20 a21 a22 a23 a24 : Sl} (ns : List Int) (hl : ns.length ≤ 63) (k m t b : Int) (hk : 0 ≤ k) : ∃ (l : List Int) (z k' : Int) (c10 : Sl), 0 ≤ k' ∧ Fl l z ∧ z ≤ 33 ∧ l.length ≤ 11 ∧ x_law_6 [Sl.val (.scr (I ns)), Sl.val (.loc 0), a2, Sl.val (.int m), Sl.val (.int t), Sl.val (.int b), Sl.val (FA m t), Sl.val (FA m (b * t)), Sl.own (.lst (I [])), Sl.val (.int 0), a10, a11, a12, a13, a14, a15, a16, a17, a18, a19, a20, a21, a22, a23, a24] (dr ns k) = .nx [Sl.val (.scr (I ns)), Sl.val (.loc 0), a2, Sl.val (.int m), Sl.val (.int t), Sl.val (.int b), Sl.val (FA m t), Sl.val (FA m (b * t)), Sl.own (.lst (I l)), Sl.val (.int z), c10, a11, a12, a13, a14, a15, a16, a17, a18, a19, a20, a21, a22, a23, a24] (dr ns k') := by
  obtain ⟨n, n0, n1, e1⟩ := take_ok ns k 12 hk (by decide) hl
  obtain ⟨l, z, k', c10, h1, h2, h3, h4, h5⟩ := st6_go (a2 := a2) (a11 := a11) (a12 := a12) (a13 := a13) (a14 := a14) (a15 := a15) (a16 := a16) (a17 := a17) (a18 := a18) (a19 := a19) (a20 := a20) (a21 := a21) (a22 := a22) (a23 := a23) (a24 := a24) ns hl m t b (List.range n.toNat) [] 0 (k + 1) a10 (by omega) ⟨True.intro, fun i hi => by simp at hi, by decide⟩ (by rw [List.length_range]; omega) (by rw [List.length_range]; simp; omega)
  rw [List.length_range] at h3 h4
  refine ⟨l, z, k', c10, h1, h2, by omega, by simp at h4; omega, ?_⟩
  have hr : lRange1 (aCons (eCall m__law_take (aCons (eVar 1) (aCons (eC (.int 12)) aNil))) aNil) [Sl.val (.scr (I ns)), Sl.val (.loc 0), a2, Sl.val (.int m), Sl.val (.int t), Sl.val (.int b), Sl.val (FA m t), Sl.val (FA m (b * t)), Sl.own (.lst (I [])), Sl.val (.int 0), a10, a11, a12, a13, a14, a15, a16, a17, a18, a19, a20, a21, a22, a23, a24] (dr ns k) = .ok ((List.range n.toNat).map fun (i : Nat) => D.int (0 + (i : Int))) (dr ns (k + 1)) := by
    have h6 : -1000000000 ≤ n ∧ n ≤ 1000000000 := by omega
    simp [e1, h6.1, h6.2, upto_map]
  unfold x_law_6
  rw [r_for, hr]
  exact h5

end Lw
namespace Lw
open Gh L2 PyProof.Rows PySem.Spec PySem
def rws (t : Int) (l : List Int) : List Int := (List.range l.length).map fun i => (row t l i : Int)
@[simp] theorem rws_len (t : Int) (l : List Int) : (rws t l).length = l.length := by simp [rws]
theorem rws_at (t : Int) (l : List Int) (i : Nat) (h : i < l.length) : at0 (rws t l) i = (row t l i : Int) := by
  unfold at0 rws
  simp [List.getD, h]
theorem compI {mi : LDen} {bd : BDen} {t : TDen} {me : EDen} {vs : List Nat} {ρ : REnv} {st : Store} (l : List Int) (f : Int → D) (q : Int → Bool) (hi : mi ρ st = .ok (I l) st) (hl : l.length < 100000)
    (h : ∀ a ∈ l, ∃ ρ1, bd (.int a) (wipeR ρ vs) = some ρ1 ∧ t ρ1 st = .ok (q a) st ∧ (q a = true → me ρ1 st = .ok (f a) st ∧ isLoc (f a) = false)) : eComp mi bd t me vs ρ st = .ok (.lst ((l.filter q).map f)) st := eComp_map D.int f q l hi hl h
theorem compI1 {mi : LDen} {bd : BDen} {me : EDen} {vs : List Nat} {ρ : REnv} {st : Store} (l : List Int) (f : Int → D) (hi : mi ρ st = .ok (I l) st) (hl : l.length < 100000)
    (h : ∀ a ∈ l, ∃ ρ1, bd (.int a) (wipeR ρ vs) = some ρ1 ∧ me ρ1 st = .ok (f a) st ∧ isLoc (f a) = false) : eComp mi bd tYes me vs ρ st = .ok (.lst (l.map f)) st := by
  have z := compI (t := tYes) l f (fun _ => true) hi hl fun a ha => by
    obtain ⟨ρ1, h1, h2, h3⟩ := h a ha
    exact ⟨ρ1, h1, rfl, fun _ => ⟨h2, h3⟩⟩
  rw [List.filter_eq_self.mpr fun _ _ => rfl] at z
  exact z

theorem st7 {a2 a10 a11 a12 a13 a14 a15 a16 a17 a18 a19 a20 a21 a22 a23 a24 : Sl} (ns : List Int) (hl : ns.length ≤ 63) (k m t b z : Int) (l : List Int) (hk : 0 ≤ k) : ∃ q k' : Int, 0 ≤ q ∧ q < 6 ∧ 0 ≤ k' ∧ x_law_7 [Sl.val (.scr (I ns)), Sl.val (.loc 0), a2, Sl.val (.int m), Sl.val (.int t), Sl.val (.int b), Sl.val (FA m t), Sl.val (FA m (b * t)), Sl.own (.lst (I l)), Sl.val (.int z), a10, a11, a12, a13, a14, a15, a16, a17, a18, a19, a20, a21, a22, a23, a24] (dr ns k) = .nx [Sl.val (.scr (I ns)), Sl.val (.loc 0), a2, Sl.val (.int m), Sl.val (.int t), Sl.val (.int b), Sl.val (FA m t), Sl.val (FA m (b * t)), Sl.own (.lst (I l)), Sl.val (.int z), a10, Sl.val (.int q), a12, a13, a14, a15, a16, a17, a18, a19, a20, a21, a22, a23, a24] (dr ns k') := by
  obtain ⟨q, q0, q1, e1⟩ := take_ok ns k 6 hk (by decide) hl
  refine ⟨q, k + 1, q0, q1, by omega, ?_⟩
  simp [x_law_7, e1]

theorem st8 {a2 a10 a12 a13 a14 a15 a16 a17 a18 a19 a20 a21 a22 a23 a24 : Sl} (ns : List Int) (k m t b z q : Int) (l : List Int) (hn : l.length ≤ 11) : x_law_8 [Sl.val (.scr (I ns)), Sl.val (.loc 0), a2, Sl.val (.int m), Sl.val (.int t), Sl.val (.int b), Sl.val (FA m t), Sl.val (FA m (b * t)), Sl.own (.lst (I l)), Sl.val (.int z), a10, Sl.val (.int q), a12, a13, a14, a15, a16, a17, a18, a19, a20, a21, a22, a23, a24] (dr ns k) = .nx [Sl.val (.scr (I ns)), Sl.val (.loc 0), a2, Sl.val (.int m), Sl.val (.int t), Sl.val (.int b), Sl.val (FA m t), Sl.val (FA m (b * t)), Sl.val (.lst (I l)), Sl.val (.int z), a10, Sl.val (.int q), Sl.val (.lst (I (rws t l))), a13, a14, a15, a16, a17, a18, a19, a20, a21, a22, a23, a24] (dr ns k) := by
  have hi : (lEnumU (aCons (eVar 8) aNil)) [Sl.val (.scr (I ns)), Sl.val (.loc 0), a2, Sl.val (.int m), Sl.val (.int t), Sl.val (.int b), Sl.val (FA m t), Sl.val (FA m (b * t)), Sl.val (.lst (I l)), Sl.val (.int z), a10, Sl.val (.int q), a12, a13, a14, a15, a16, a17, a18, a19, a20, a21, a22, a23, a24] (dr ns k) = .ok ((List.range l.length).map fun (i : Nat) => D.tup [.int (i : Int), .int (at0 l i)]) (dr ns k) := by
    simp [num_I, r_enum]
  have e : (eComp (lEnumU (aCons (eVar 8) aNil)) (bTup 2 (bCons (bName 21) (bCons (bName 22) bNil))) tYes (eN gLen (aCons (eComp (lSeq (eCutL (ePeek 8) oNone (oSome (e2 gAddI (ePeek 21) (eC (.int 1)))))) (bName 23) (tB (e2 gLt (e2 gSub (ePeek 22) (ePeek 23)) (ePeek 4))) (eVar 23) [23]) aNil)) [21, 22]) [Sl.val (.scr (I ns)), Sl.val (.loc 0), a2, Sl.val (.int m), Sl.val (.int t), Sl.val (.int b), Sl.val (FA m t), Sl.val (FA m (b * t)), Sl.val (.lst (I l)), Sl.val (.int z), a10, Sl.val (.int q), a12, a13, a14, a15, a16, a17, a18, a19, a20, a21, a22, a23, a24] (dr ns k) = .ok (.lst (I (rws t l))) (dr ns k) := by
    have y := eComp_map (α := Nat) (bd := (bTup 2 (bCons (bName 21) (bCons (bName 22) bNil)))) (t := tYes) (me := (eN gLen (aCons (eComp (lSeq (eCutL (ePeek 8) oNone (oSome (e2 gAddI (ePeek 21) (eC (.int 1)))))) (bName 23) (tB (e2 gLt (e2 gSub (ePeek 22) (ePeek 23)) (ePeek 4))) (eVar 23) [23]) aNil))) (vs := [21, 22]) (fun (i : Nat) => D.tup [.int (i : Int), .int (at0 l i)]) (fun i => D.int (row t l i : Int)) (fun _ => true) (List.range l.length) hi (by rw [List.length_range]; omega) fun i hi => ⟨_, rfl, rfl, fun _ => ⟨?_, rfl⟩⟩
    · rw [List.filter_eq_self.mpr (fun _ _ => rfl)] at y
      rw [y]
      unfold rws I
      rw [List.map_map]
      rfl
    · have hi : i < l.length := List.mem_range.mp hi
      have y : (eComp (lSeq (eCutL (ePeek 8) oNone (oSome (e2 gAddI (ePeek 21) (eC (.int 1)))))) (bName 23) (tB (e2 gLt (e2 gSub (ePeek 22) (ePeek 23)) (ePeek 4))) (eVar 23) [23]) [Sl.val (.scr (I ns)), Sl.val (.loc 0), a2, Sl.val (.int m), Sl.val (.int t), Sl.val (.int b), Sl.val (FA m t), Sl.val (FA m (b * t)), Sl.val (.lst (I l)), Sl.val (.int z), a10, Sl.val (.int q), a12, a13, a14, a15, a16, a17, a18, a19, a20, Sl.val (.int (i : Int)), Sl.val (.int (at0 l i)), a23, a24] (dr ns k) = .ok (.lst (I (win t (at0 l i) (l.take (i + 1))))) (dr ns k) := by
        have y := compI (bd := (bName 23)) (t := (tB (e2 gLt (e2 gSub (ePeek 22) (ePeek 23)) (ePeek 4)))) (me := (eVar 23)) (vs := [23]) (mi := (lSeq (eCutL (ePeek 8) oNone (oSome (e2 gAddI (ePeek 21) (eC (.int 1))))))) (ρ := [Sl.val (.scr (I ns)), Sl.val (.loc 0), a2, Sl.val (.int m), Sl.val (.int t), Sl.val (.int b), Sl.val (FA m t), Sl.val (FA m (b * t)), Sl.val (.lst (I l)), Sl.val (.int z), a10, Sl.val (.int q), a12, a13, a14, a15, a16, a17, a18, a19, a20, Sl.val (.int (i : Int)), Sl.val (.int (at0 l i)), a23, a24]) (st := dr ns k) (l.take (i + 1)) D.int (fun x => decide (at0 l i - x < t)) (by simp [gCutL, cut_to l i hi]) (by rw [List.length_take]; omega) fun a ha => ⟨_, rfl, by simp [wipeR], fun _ => ⟨by simp [wipeR], rfl⟩⟩
        rw [y]
        unfold win I
        congr 4
        funext x
        rw [decide_eq_decide]
        omega
      have y2 : ((eN gLen (aCons (eComp (lSeq (eCutL (ePeek 8) oNone (oSome (e2 gAddI (ePeek 21) (eC (.int 1)))))) (bName 23) (tB (e2 gLt (e2 gSub (ePeek 22) (ePeek 23)) (ePeek 4))) (eVar 23) [23]) aNil))) [Sl.val (.scr (I ns)), Sl.val (.loc 0), a2, Sl.val (.int m), Sl.val (.int t), Sl.val (.int b), Sl.val (FA m t), Sl.val (FA m (b * t)), Sl.val (.lst (I l)), Sl.val (.int z), a10, Sl.val (.int q), a12, a13, a14, a15, a16, a17, a18, a19, a20, Sl.val (.int (i : Int)), Sl.val (.int (at0 l i)), a23, a24] (dr ns k) = .ok (.int (row t l i : Int)) (dr ns k) := by
        simp [y, len_lst, row, cnt]
      exact y2
  simp [x_law_8, e]

theorem all_rws (m t : Int) (l : List Int) : ((rws t l).map fun r => decide (r ≤ m)).all id = aw m t l := by
  unfold rws aw
  rw [List.map_map, List.all_map]
  rfl
theorem st10 {a2 a10 a13 a14 a15 a16 a17 a18 a19 a20 a21 a22 a23 a24 : Sl} (ns : List Int) (k m t b z q : Int) (l : List Int) (hn : l.length ≤ 11) (B : Mtb m t b) (F : Fl l z) (hq : 0 ≤ q ∧ q < 6) : x_law_10 [Sl.val (.scr (I ns)), Sl.val (.loc 0), a2, Sl.val (.int m), Sl.val (.int t), Sl.val (.int b), Sl.val (FA m t), Sl.val (FA m (b * t)), Sl.val (.lst (I l)), Sl.val (.int z), a10, Sl.val (.int q), Sl.val (.lst (I (rws t l))), a13, a14, a15, a16, a17, a18, a19, a20, a21, a22, a23, a24] (dr ns k) = .nx [Sl.val (.scr (I ns)), Sl.val (.loc 0), a2, Sl.val (.int m), Sl.val (.int t), Sl.val (.int b), Sl.val (FA m t), Sl.val (FA m (b * t)), Sl.val (.lst (I l)), Sl.val (.int z), a10, Sl.val (.int q), Sl.val (.lst (I (rws t l))), a13, a14, a15, a16, a17, a18, a19, a20, a21, a22, a23, a24] (dr ns k) := by
  have w1 := are_within_ok m t l (.lst (I l)) (.inl rfl) F.ok (by omega) (dr ns k)
  have w2 := first_beyond_ok q t l (.lst (I l)) (.inl rfl) F.ok (by omega) ⟨hq.1, by have := hq.2; omega⟩ ⟨B.t0, by have := B.t1; omega⟩ (dr ns k)
  have w3 : (eComp (lSeq (eVar 12)) (bName 24) tYes (e2 gLe (ePeek 24) (ePeek 3)) [24]) [Sl.val (.scr (I ns)), Sl.val (.loc 0), a2, Sl.val (.int m), Sl.val (.int t), Sl.val (.int b), Sl.val (FA m t), Sl.val (FA m (b * t)), Sl.val (.lst (I l)), Sl.val (.int z), a10, Sl.val (.int q), Sl.val (.lst (I (rws t l))), a13, a14, a15, a16, a17, a18, a19, a20, a21, a22, a23, a24] (dr ns k) = .ok (.lst ((rws t l).map fun r => .bl (decide (r ≤ m)))) (dr ns k) := by
    refine compI1 (rws t l) (fun r => .bl (decide (r ≤ m))) (by simp) (by rw [rws_len]; omega) fun a ha => ⟨_, rfl, by simp [wipeR], rfl⟩
  have hi : (lEnumU (aCons (eVar 12) aNil)) [Sl.val (.scr (I ns)), Sl.val (.loc 0), a2, Sl.val (.int m), Sl.val (.int t), Sl.val (.int b), Sl.val (FA m t), Sl.val (FA m (b * t)), Sl.val (.lst (I l)), Sl.val (.int z), a10, Sl.val (.int q), Sl.val (.lst (I (rws t l))), a13, a14, a15, a16, a17, a18, a19, a20, a21, a22, a23, a24] (dr ns k) = .ok ((List.range l.length).map fun (i : Nat) => D.tup [.int (i : Int), .int (at0 (rws t l) i)]) (dr ns k) := by
    have := num_I (rws t l)
    rw [rws_len] at this
    simp [this, r_enum]
  have w4 : (eComp (lEnumU (aCons (eVar 12) aNil)) (bTup 2 (bCons (bName 21) (bCons (bName 24) bNil))) (tB (e2 gGt (ePeek 24) (ePeek 11))) (eVar 21) [21, 24]) [Sl.val (.scr (I ns)), Sl.val (.loc 0), a2, Sl.val (.int m), Sl.val (.int t), Sl.val (.int b), Sl.val (FA m t), Sl.val (FA m (b * t)), Sl.val (.lst (I l)), Sl.val (.int z), a10, Sl.val (.int q), Sl.val (.lst (I (rws t l))), a13, a14, a15, a16, a17, a18, a19, a20, a21, a22, a23, a24] (dr ns k) = .ok (.lst (((List.range l.length).filter fun i => decide (q < (row t l i : Int))).map fun (i : Nat) => D.int (i : Int))) (dr ns k) := by
    refine eComp_map (α := Nat) (fun (i : Nat) => D.tup [.int (i : Int), .int (at0 (rws t l) i)]) (fun i => D.int (i : Int)) (fun i => decide (q < (row t l i : Int))) (List.range l.length) hi (by rw [List.length_range]; omega) fun i hi => ⟨_, rfl, ?_, fun _ => ⟨by simp [wipeR], rfl⟩⟩
    simp [wipeR, rws_at t l i (List.mem_range.mp hi)]
  have w5 : gAdd (.lst (((List.range l.length).filter fun i => decide (q < (row t l i : Int))).map fun (i : Nat) => D.int (i : Int))) (.lst [.non]) (dr ns k) = .ok (.lst ((((List.range l.length).filter fun i => decide (q < (row t l i : Int))).map fun (i : Nat) => D.int (i : Int)) ++ [.non])) (dr ns k) := by
    show (if (((List.range l.length).filter fun i => decide (q < (row t l i : Int))).map fun (i : Nat) => D.int (i : Int)).length + 1 < 100000 then _ else _) = _
    have := num_le l.length fun i => decide (q < (row t l i : Int))
    rw [List.length_map, if_pos (by unfold num at this; omega)]
  have w6 : gIx (.lst ((((List.range l.length).filter fun i => decide (q < (row t l i : Int))).map fun (i : Nat) => D.int (i : Int)) ++ [.non])) (.int 0) (dr ns k) = .ok (optD (fb q t l)) (dr ns k) := by
    have hf : fb q t l = ((List.range l.length).filter fun i => decide (q < (row t l i : Int))).head? := by
      unfold fb
      rw [List.head?_filter]
    rw [hf]
    cases ((List.range l.length).filter fun i => decide (q < (row t l i : Int))) with
    | nil => rfl
    | cons a r =>
      show (match atI (D.int (a : Int) :: (r.map (fun (i : Nat) => D.int (i : Int)) ++ [.non])) 0 with | some d => RC.ok d (dr ns k) | none => .bad) = _
      have : atI (D.int (a : Int) :: (r.map (fun (i : Nat) => D.int (i : Int)) ++ [.non])) 0 = some (.int (a : Int)) := by
        unfold atI ixN
        rw [if_pos (by decide), if_pos (by simp; omega)]
        rfl
      rw [this]
      rfl
  have w7 : gNe (optD (fb q t l)) (optD (fb q t l)) (dr ns k) = .ok (.bl false) (dr ns k) := by
    cases fb q t l with
    | none => rfl
    | some i => simp [optD]
  have w8 := bools_map (fun r => decide (r ≤ m)) (rws t l)
  have w9 := all_rws m t l
  simp [x_law_10, w1, w2, w3, w4, w5, w6, w7, gAll, w8, flatL, isLoc]
  rw [show (rws t l).all (fun r => decide (r ≤ m)) = aw m t l from by rw [← all_rws, List.all_map]; rfl]
  simp

end Lw
namespace Lw
open Gh L2 PyProof.Rows PySem.Spec PySem
theorem I_map (g : Int → Int) (l : List Int) : (l.map fun a => D.int (g a)) = I (l.map g) := by
  unfold I
  rw [List.map_map]
  rfl
theorem Mtb.bt {m t b : Int} (B : Mtb m t b) : 1 ≤ b * t ∧ b * t ≤ 40 := by
  obtain ⟨m0, m1, t0, t1, b0, b1⟩ := B
  have h1 : 1 * 1 ≤ b * t := Int.mul_le_mul (by omega) t0 (by decide) (by omega)
  have h2 : b * t ≤ 5 * 8 := Int.mul_le_mul b1 t1 (by omega) (by decide)
  omega
theorem Fl.scale {l : List Int} {z b : Int} (F : Fl l z) (hz : z ≤ 33) (hb : 0 ≤ b ∧ b ≤ 5) : okF 0 (l.map fun x => b * x) := by
  refine okF_of (fun i hi => ?_) fun i hi => ?_
  · rw [List.length_map] at hi
    rw [at0_map _ _ _ hi]
    have h0 := okF_le F.ok i hi
    have h1 := F.le i hi
    have h2 : b * at0 l i ≤ 5 * 33 := Int.mul_le_mul hb.2 (by omega) h0 (by decide)
    exact ⟨Int.mul_nonneg hb.1 h0, by omega⟩
  · rw [List.length_map] at hi
    rw [at0_map _ _ _ (by omega), at0_map _ _ _ hi]
    exact Int.mul_le_mul_of_nonneg_left (okF_mono F.ok i (i + 1) (by omega) hi) hb.1
theorem Fl.shift {l : List Int} {z : Int} (F : Fl l z) (hz : z ≤ 33) : okF 0 (l.map fun x => x + 70) := by
  refine okF_of (fun i hi => ?_) fun i hi => ?_
  · rw [List.length_map] at hi
    rw [at0_map _ _ _ hi]
    have h0 := okF_le F.ok i hi
    have h1 := F.le i hi
    omega
  · rw [List.length_map] at hi
    rw [at0_map _ _ _ (by omega), at0_map _ _ _ hi]
    have := okF_mono F.ok i (i + 1) (by omega) hi
    omega
theorem okF_drop {l : List Int} (h : okF 0 l) : okF 0 (l.drop 1) := by
  refine okF_of (fun i hi => ?_) fun i hi => ?_
  · rw [List.length_drop] at hi
    rw [at0_drop]
    exact ⟨okF_le h _ (by omega), okF_top h _ (by omega)⟩
  · rw [List.length_drop] at hi
    rw [at0_drop, at0_drop]
    exact okF_mono h _ _ (by omega) (by omega)

theorem st12 {a2 a10 a13 a14 a15 a16 a17 a18 a19 a20 a21 a22 a23 a24 : Sl} (ns : List Int) (k m t b z q : Int) (l : List Int) (hn : l.length ≤ 11) (B : Mtb m t b) (F : Fl l z) (hz : z ≤ 33) : x_law_12 [Sl.val (.scr (I ns)), Sl.val (.loc 0), a2, Sl.val (.int m), Sl.val (.int t), Sl.val (.int b), Sl.val (FA m t), Sl.val (FA m (b * t)), Sl.val (.lst (I l)), Sl.val (.int z), a10, Sl.val (.int q), Sl.val (.lst (I (rws t l))), a13, a14, a15, a16, a17, a18, a19, a20, a21, a22, a23, a24] (dr ns k) = .nx [Sl.val (.scr (I ns)), Sl.val (.loc 0), a2, Sl.val (.int m), Sl.val (.int t), Sl.val (.int b), Sl.val (FA m t), Sl.val (FA m (b * t)), Sl.val (.lst (I l)), Sl.val (.int z), a10, Sl.val (.int q), Sl.val (.lst (I (rws t l))), a13, a14, a15, a16, a17, a18, a19, a20, a21, a22, a23, a24] (dr ns k) := by
  have hbt := B.bt
  have w1 := are_within_ok m t l (.lst (I l)) (.inl rfl) F.ok (by omega) (dr ns k)
  have w2 := are_within_ok m (b * t) (l.map fun x => b * x) (.lst (I (l.map fun x => b * x))) (.inl rfl) (F.scale hz ⟨by have := B.b0; omega, B.b1⟩) (by rw [List.length_map]; omega) (dr ns k)
  rw [aw_scale m t b l (by have := B.b0; omega)] at w2
  have w3 := are_within_ok m t (l.map fun x => x + 70) (.lst (I (l.map fun x => x + 70))) (.inl rfl) (F.shift hz) (by rw [List.length_map]; omega) (dr ns k)
  rw [aw_shift] at w3
  have w4 := are_within_ok m t (l.drop 1) (.lst (I (l.drop 1))) (.inl rfl) (okF_drop F.ok) (by rw [List.length_drop]; omega) (dr ns k)
  have w5 := are_within_ok (m + 1) t l (.lst (I l)) (.inl rfl) F.ok (by omega) (dr ns k)
  have w6 : (eMake "Faults" m_Faults___init__ (aCons (e2 gAddI (ePeek 3) (eC (.int 1))) (aCons (eVar 4) aNil))) [Sl.val (.scr (I ns)), Sl.val (.loc 0), a2, Sl.val (.int m), Sl.val (.int t), Sl.val (.int b), Sl.val (FA m t), Sl.val (FA m (b * t)), Sl.val (.lst (I l)), Sl.val (.int z), a10, Sl.val (.int q), Sl.val (.lst (I (rws t l))), a13, a14, a15, a16, a17, a18, a19, a20, a21, a22, a23, a24] (dr ns k) = .ok (FA (m + 1) t) (dr ns k) := by
    rw [eMake_of (ds := [.int (m + 1), .int t]) (by simp)]
    exact make_ok (m + 1) t _ ⟨by have := B.m0; omega, by have := B.m1; omega⟩ ⟨B.t0, by have := B.t1; omega⟩
  have w7 : (eComp (lSeq (eVar 8)) (bName 22) tYes (e2 gMul (ePeek 5) (ePeek 22)) [22]) [Sl.val (.scr (I ns)), Sl.val (.loc 0), a2, Sl.val (.int m), Sl.val (.int t), Sl.val (.int b), Sl.val (FA m t), Sl.val (FA m (b * t)), Sl.val (.lst (I l)), Sl.val (.int z), a10, Sl.val (.int q), Sl.val (.lst (I (rws t l))), a13, a14, a15, a16, a17, a18, a19, a20, a21, a22, a23, a24] (dr ns k) = .ok (.lst (I (l.map fun x => b * x))) (dr ns k) := by
    have y := compI1 (bd := (bName 22)) (me := (e2 gMul (ePeek 5) (ePeek 22))) (vs := [22]) (mi := (lSeq (eVar 8))) (ρ := [Sl.val (.scr (I ns)), Sl.val (.loc 0), a2, Sl.val (.int m), Sl.val (.int t), Sl.val (.int b), Sl.val (FA m t), Sl.val (FA m (b * t)), Sl.val (.lst (I l)), Sl.val (.int z), a10, Sl.val (.int q), Sl.val (.lst (I (rws t l))), a13, a14, a15, a16, a17, a18, a19, a20, a21, a22, a23, a24]) (st := dr ns k) l (fun a => .int (b * a)) (by simp) (by omega) fun a ha => ⟨_, rfl, by simp [wipeR, sm b (by have := B.b0; omega) (by have := B.b1; omega)], rfl⟩
    rw [I_map] at y
    exact y
  have w8 : (eComp (lSeq (eVar 8)) (bName 22) tYes (e2 gAddI (ePeek 22) (eC (.int 70))) [22]) [Sl.val (.scr (I ns)), Sl.val (.loc 0), a2, Sl.val (.int m), Sl.val (.int t), Sl.val (.int b), Sl.val (FA m t), Sl.val (FA m (b * t)), Sl.val (.lst (I l)), Sl.val (.int z), a10, Sl.val (.int q), Sl.val (.lst (I (rws t l))), a13, a14, a15, a16, a17, a18, a19, a20, a21, a22, a23, a24] (dr ns k) = .ok (.lst (I (l.map fun x => x + 70))) (dr ns k) := by
    have y := compI1 (bd := (bName 22)) (me := (e2 gAddI (ePeek 22) (eC (.int 70)))) (vs := [22]) (mi := (lSeq (eVar 8))) (ρ := [Sl.val (.scr (I ns)), Sl.val (.loc 0), a2, Sl.val (.int m), Sl.val (.int t), Sl.val (.int b), Sl.val (FA m t), Sl.val (FA m (b * t)), Sl.val (.lst (I l)), Sl.val (.int z), a10, Sl.val (.int q), Sl.val (.lst (I (rws t l))), a13, a14, a15, a16, a17, a18, a19, a20, a21, a22, a23, a24]) (st := dr ns k) l (fun a => .int (a + 70)) (by simp) (by omega) fun a ha => ⟨_, rfl, by simp [wipeR], rfl⟩
    rw [I_map] at y
    exact y
  have hcut := cut_from1 l
  cases ha : aw m t l with
  | true =>
    rw [ha] at w1 w2 w3
    rw [aw_drop m t l ha] at w4
    rw [aw_more m t l ha] at w5
    simp [x_law_12, -r_make, w1, w2, w3, w5, w6, w7, w8, gCutL, hcut, gLtB, -List.drop_one, w4]
  | false =>
    rw [ha] at w1 w2 w3
    simp [x_law_12, -r_make, w1, w2, w3, w5, w6, w7, w8, gLtB]
theorem st13 {a2 a10 a13 a14 a15 a16 a17 a18 a19 a20 a21 a22 a23 a24 : Sl} (ns : List Int) (hl : ns.length ≤ 63) (k m t b z q : Int) (l : List Int) (hk : 0 ≤ k) : ∃ n k' : Int, 0 ≤ n ∧ n < 12 ∧ 0 ≤ k' ∧ x_law_13 [Sl.val (.scr (I ns)), Sl.val (.loc 0), a2, Sl.val (.int m), Sl.val (.int t), Sl.val (.int b), Sl.val (FA m t), Sl.val (FA m (b * t)), Sl.val (.lst (I l)), Sl.val (.int z), a10, Sl.val (.int q), Sl.val (.lst (I (rws t l))), a13, a14, a15, a16, a17, a18, a19, a20, a21, a22, a23, a24] (dr ns k) = .nx [Sl.val (.scr (I ns)), Sl.val (.loc 0), a2, Sl.val (.int m), Sl.val (.int t), Sl.val (.int b), Sl.val (FA m t), Sl.val (FA m (b * t)), Sl.val (.lst (I l)), Sl.val (.int z), a10, Sl.val (.int q), Sl.val (.lst (I (rws t l))), Sl.val (.int n), a14, a15, a16, a17, a18, a19, a20, a21, a22, a23, a24] (dr ns k') := by
  obtain ⟨n, q0, q1, w1⟩ := take_ok ns k 12 hk (by decide) hl
  refine ⟨n, k + 1, q0, q1, by omega, ?_⟩
  simp [x_law_13, w1]
structure So (m t n : Int) (s : List Int) : Prop where
  eq : sonD m t n = .lst (I s)
  len : (s.length : Int) = n
  ok : okF 0 s
  aw : aw m t s = true
  pos : 0 < n → 0 < m ∧ s = son m t n.toNat
  nz : ¬ (m = 0 ∧ 0 < n)
theorem so_or {m t n : Int} (hm : 0 ≤ m) (ht : 1 ≤ t ∧ t ≤ 99) (hn : 0 ≤ n ∧ n ≤ 99) : (m = 0 ∧ 0 < n ∧ ∀ t', sonD m t' n = .non) ∨ ∃ s, So m t n s ∧ ∀ b, sonD m (b * t) n = .lst (I (s.map fun x => b * x)) := by
  by_cases h : m = 0
  · subst h
    by_cases h2 : n = 0
    · subst h2
      exact .inr ⟨[], ⟨rfl, rfl, True.intro, rfl, fun h => by omega, by omega⟩, fun _ => rfl⟩
    · refine .inl ⟨rfl, by omega, fun t' => ?_⟩
      unfold sonD
      rw [if_pos rfl, if_neg h2]
  · have hm1 : 0 < m := by omega
    refine .inr ⟨son m t n.toNat, ⟨?_, by rw [son_len]; omega, son_ok m t _ hm1 ht (by omega), son_aw m t _ hm1 (by omega), fun _ => ⟨hm1, rfl⟩, by omega⟩, fun b => ?_⟩
    · unfold sonD
      rw [if_neg h]
    · unfold sonD
      rw [if_neg h, son_scale]

theorem st14 {a2 a10 a14 a15 a16 a17 a18 a19 a20 a21 a22 a23 a24 : Sl} (ns : List Int) (k m t b z q n : Int) (l : List Int) (B : Mtb m t b) (hn : 0 ≤ n ∧ n < 12) : x_law_14 [Sl.val (.scr (I ns)), Sl.val (.loc 0), a2, Sl.val (.int m), Sl.val (.int t), Sl.val (.int b), Sl.val (FA m t), Sl.val (FA m (b * t)), Sl.val (.lst (I l)), Sl.val (.int z), a10, Sl.val (.int q), Sl.val (.lst (I (rws t l))), Sl.val (.int n), a14, a15, a16, a17, a18, a19, a20, a21, a22, a23, a24] (dr ns k) = .nx [Sl.val (.scr (I ns)), Sl.val (.loc 0), a2, Sl.val (.int m), Sl.val (.int t), Sl.val (.int b), Sl.val (FA m t), Sl.val (FA m (b * t)), Sl.val (.lst (I l)), Sl.val (.int z), a10, Sl.val (.int q), Sl.val (.lst (I (rws t l))), Sl.val (.int n), Sl.val (sonD m t n), a15, a16, a17, a18, a19, a20, a21, a22, a23, a24] (dr ns k) := by
  have w1 := soonest_ok m t n ⟨B.m0, by have := B.m1; omega⟩ ⟨B.t0, by have := B.t1; omega⟩ ⟨hn.1, by omega⟩ (dr ns k)
  simp [x_law_14, w1]
theorem st16 {a2 a10 a15 a16 a17 a18 a19 a20 a21 a22 a23 a24 : Sl} (ns : List Int) (k m t b z q n : Int) (l : List Int) (B : Mtb m t b) (hn : 0 ≤ n ∧ n < 12) : x_law_16 [Sl.val (.scr (I ns)), Sl.val (.loc 0), a2, Sl.val (.int m), Sl.val (.int t), Sl.val (.int b), Sl.val (FA m t), Sl.val (FA m (b * t)), Sl.val (.lst (I l)), Sl.val (.int z), a10, Sl.val (.int q), Sl.val (.lst (I (rws t l))), Sl.val (.int n), Sl.val (sonD m t n), a15, a16, a17, a18, a19, a20, a21, a22, a23, a24] (dr ns k) = .nx [Sl.val (.scr (I ns)), Sl.val (.loc 0), a2, Sl.val (.int m), Sl.val (.int t), Sl.val (.int b), Sl.val (FA m t), Sl.val (FA m (b * t)), Sl.val (.lst (I l)), Sl.val (.int z), a10, Sl.val (.int q), Sl.val (.lst (I (rws t l))), Sl.val (.int n), Sl.val (sonD m t n), a15, a16, a17, a18, a19, a20, a21, a22, a23, a24] (dr ns k) := by
  have hm : 0 ≤ m ∧ m ≤ 999 := ⟨B.m0, by have := B.m1; omega⟩
  have ht : 1 ≤ t ∧ t ≤ 999 := ⟨B.t0, by have := B.t1; omega⟩
  rcases so_or (n := n) B.m0 ⟨B.t0, by have := B.t1; omega⟩ ⟨hn.1, by omega⟩ with ⟨rfl, h2, h3⟩ | ⟨s, S, _⟩
  · rw [h3 t]
    simp [x_law_16, h2, Gh.isNon]
  · rw [S.eq]
    have w1 := are_within_ok m t s (.lst (I s)) (.inl rfl) S.ok (by have := S.len; omega) (dr ns k)
    have w2 := span_some m t n s hm ht ⟨hn.1, by omega⟩ (dr ns k) S.eq
    have w3 : gList [.lst (I s)] (dr ns k) = .ok (.lst (I s)) (dr ns k) := rfl
    have w4 : Gh.isNon (.lst (I s)) = false := rfl
    rw [S.aw] at w1
    have hlen := S.len
    have hnz := S.nz
    by_cases h0 : 0 < n
    · have hs : s ≠ [] := fun h => by rw [h] at hlen; simp at hlen; omega
      have hm0 : m ≠ 0 := by omega
      have w5 := ix_last s hs (dr ns k)
      have w6 := ix_first s hs (dr ns k)
      have w7 : spD s = at0 s (s.length - 1) - at0 s 0 := by unfold spD; rw [if_neg hs]
      simp [x_law_16, w1, w2, w3, w4, w5, w6, w7, len_lst, hlen, h0, hm0]
    · have hs : s = [] := by
        cases s with
        | nil => rfl
        | cons a r => simp at hlen; omega
      have w7 : spD s = 0 := by unfold spD; rw [if_pos hs]
      by_cases hm0 : m = 0
      · simp [x_law_16, w1, w2, w3, w4, w7, len_lst, hlen, h0, hm0]
        subst hm0
        simp [w1, w2, w7]
      · simp [x_law_16, w1, w2, w3, w4, w7, len_lst, hlen, h0, hm0]

theorem st18 {a2 a10 a15 a16 a17 a18 a19 a20 a21 a22 a23 a24 : Sl} (ns : List Int) (k m t b z q n : Int) (l : List Int) (B : Mtb m t b) (hn : 0 ≤ n ∧ n < 12) : x_law_18 [Sl.val (.scr (I ns)), Sl.val (.loc 0), a2, Sl.val (.int m), Sl.val (.int t), Sl.val (.int b), Sl.val (FA m t), Sl.val (FA m (b * t)), Sl.val (.lst (I l)), Sl.val (.int z), a10, Sl.val (.int q), Sl.val (.lst (I (rws t l))), Sl.val (.int n), Sl.val (sonD m t n), a15, a16, a17, a18, a19, a20, a21, a22, a23, a24] (dr ns k) = .nx [Sl.val (.scr (I ns)), Sl.val (.loc 0), a2, Sl.val (.int m), Sl.val (.int t), Sl.val (.int b), Sl.val (FA m t), Sl.val (FA m (b * t)), Sl.val (.lst (I l)), Sl.val (.int z), a10, Sl.val (.int q), Sl.val (.lst (I (rws t l))), Sl.val (.int n), Sl.val (sonD m t n), a15, a16, a17, a18, a19, a20, a21, a22, a23, a24] (dr ns k) := by
  have hm : 0 ≤ m ∧ m ≤ 999 := ⟨B.m0, by have := B.m1; omega⟩
  have ht : 1 ≤ t ∧ t ≤ 999 := ⟨B.t0, by have := B.t1; omega⟩
  have hbt := B.bt
  have w0 := soonest_ok m (b * t) n hm ⟨hbt.1, by omega⟩ ⟨hn.1, by omega⟩ (dr ns k)
  rcases so_or (n := n) B.m0 ⟨B.t0, by have := B.t1; omega⟩ ⟨hn.1, by omega⟩ with ⟨rfl, h2, h3⟩ | ⟨s, S, hb⟩
  · have w1 := span_none 0 t n hm ht ⟨hn.1, by omega⟩ (dr ns k) (h3 t)
    rw [h3] at w0
    rw [h3 t]
    simp [x_law_18, w0, w1, Gh.isNon]
  · rw [hb b] at w0
    rw [S.eq]
    have w4 : Gh.isNon (.lst (I s)) = false := rfl
    have w7 : (eComp (lSeq (eVar 14)) (bName 22) tYes (e2 gMul (ePeek 5) (ePeek 22)) [22]) [Sl.val (.scr (I ns)), Sl.val (.loc 0), a2, Sl.val (.int m), Sl.val (.int t), Sl.val (.int b), Sl.val (FA m t), Sl.val (FA m (b * t)), Sl.val (.lst (I l)), Sl.val (.int z), a10, Sl.val (.int q), Sl.val (.lst (I (rws t l))), Sl.val (.int n), Sl.val (.lst (I s)), a15, a16, a17, a18, a19, a20, a21, a22, a23, a24] (dr ns k) = .ok (.lst (I (s.map fun x => b * x))) (dr ns k) := by
      have y := compI1 (bd := (bName 22)) (me := (e2 gMul (ePeek 5) (ePeek 22))) (vs := [22]) (mi := (lSeq (eVar 14))) (ρ := [Sl.val (.scr (I ns)), Sl.val (.loc 0), a2, Sl.val (.int m), Sl.val (.int t), Sl.val (.int b), Sl.val (FA m t), Sl.val (FA m (b * t)), Sl.val (.lst (I l)), Sl.val (.int z), a10, Sl.val (.int q), Sl.val (.lst (I (rws t l))), Sl.val (.int n), Sl.val (.lst (I s)), a15, a16, a17, a18, a19, a20, a21, a22, a23, a24]) (st := dr ns k) s (fun a => .int (b * a)) (by simp) (by have := S.len; omega) fun a ha => ⟨_, rfl, by simp [wipeR, sm b (by have := B.b0; omega) (by have := B.b1; omega)], rfl⟩
      rw [I_map] at y
      exact y
    simp [x_law_18, w0, w4, w7]

end Lw
namespace Lw
open Gh L2 PyProof.Rows PySem.Spec PySem
theorem cut_last (l : List Int) : Gh.cutD (I l) none (some (-1)) = I (l.take (l.length - 1)) := by
  unfold Gh.cutD
  rw [HT.sIx_none, I_len, List.drop_zero]
  have : HT.sIx l.length l.length (some (-1)) = l.length - 1 := by
    show (if (-1 : Int) < 0 then ((-1 : Int) + (l.length : Int)).toNat else min (-1 : Int).toNat l.length) = _
    rw [if_pos (by decide)]
    omega
  rw [this, Nat.sub_zero]
  unfold I
  rw [List.map_take]
theorem I_app (a b : List Int) : I a ++ I b = I (a ++ b) := by
  unfold I
  rw [List.map_append]
theorem I_one (a : Int) : I [a] = [.int a] := rfl
theorem add_one (a : List Int) (w : Int) (h : a.length < 90000) (st : Store) : gAdd (.lst (I a)) (.lst [.int w]) st = .ok (.lst (I (a ++ [w]))) st := by
  show (if (I a).length + 1 < 100000 then RC.ok (D.lst (I a ++ I [w])) st else .bad) = _
  rw [I_len, if_pos (by omega), I_app]
theorem at0_take (l : List Int) (n i : Nat) (h : i < n) : at0 (l.take n) i = at0 l i := by
  unfold at0
  simp [List.getD, h]
/-- the falls with the last one sooner -/
def alt (m t : Int) (n : Nat) (w : Int) : List Int := (son m t n).take (n - 1) ++ [w]
theorem alt_len (m t : Int) (n : Nat) (w : Int) (h : 1 ≤ n) : (alt m t n w).length = n := by
  unfold alt
  rw [List.length_append, List.length_take, son_len]
  simp
  omega
theorem alt_low (m t : Int) (n : Nat) (w : Int) (j : Nat) (h : j + 1 < n) : at0 (alt m t n w) j = (j : Int) / m * t := by
  unfold alt
  have hl : ((son m t n).take (n - 1)).length = n - 1 := by rw [List.length_take, son_len]; omega
  rw [at0_app, hl, if_pos (by omega), at0_take _ _ _ (by omega), son_at _ _ _ _ (by omega)]
theorem alt_top (m t : Int) (n : Nat) (w : Int) (h : 1 ≤ n) : at0 (alt m t n w) (n - 1) = w := by
  unfold alt
  have hl : ((son m t n).take (n - 1)).length = n - 1 := by rw [List.length_take, son_len]; omega
  rw [at0_app, hl, if_neg (by omega), if_pos rfl]
theorem alt_ok (m t : Int) (n : Nat) (w : Int) (hm : 0 < m) (ht : 1 ≤ t ∧ t ≤ 99) (hn : 2 ≤ n ∧ n ≤ 1000) (h1 : ((n - 2 : Nat) : Int) / m * t ≤ w) (h2 : w ≤ ((n - 1 : Nat) : Int) / m * t) : okF 0 (alt m t n w) := by
  have S := son_ok m t n hm ht hn.2
  have top := okF_top S (n - 1) (by rw [son_len]; omega)
  rw [son_at _ _ _ _ (by omega)] at top
  have low := okF_le S (n - 2) (by rw [son_len]; omega)
  rw [son_at _ _ _ _ (by omega)] at low
  refine okF_of (fun i hi => ?_) fun i hi => ?_
  · rw [alt_len _ _ _ _ (by omega)] at hi
    by_cases h : i + 1 < n
    · rw [alt_low _ _ _ _ _ h]
      have a := okF_le S i (by rw [son_len]; omega)
      have b := okF_top S i (by rw [son_len]; omega)
      rw [son_at _ _ _ _ (by omega)] at a b
      exact ⟨a, b⟩
    · rw [show i = n - 1 by omega, alt_top _ _ _ _ (by omega)]
      omega
  · rw [alt_len _ _ _ _ (by omega)] at hi
    rw [alt_low _ _ _ _ _ hi]
    by_cases h : i + 1 + 1 < n
    · rw [alt_low _ _ _ _ _ h]
      exact Int.mul_le_mul_of_nonneg_right (div_mono hm (by omega)) (by omega)
    · rw [show i + 1 = n - 1 by omega, alt_top _ _ _ _ (by omega), show i = n - 2 by omega]
      exact h1

theorem st20 {a2 a10 a15 a16 a17 a18 a19 a20 a21 a22 a23 a24 : Sl} (ns : List Int) (k m t b z q n : Int) (l : List Int) (B : Mtb m t b) (hn : 0 ≤ n ∧ n < 12) : x_law_20 [Sl.val (.scr (I ns)), Sl.val (.loc 0), a2, Sl.val (.int m), Sl.val (.int t), Sl.val (.int b), Sl.val (FA m t), Sl.val (FA m (b * t)), Sl.val (.lst (I l)), Sl.val (.int z), a10, Sl.val (.int q), Sl.val (.lst (I (rws t l))), Sl.val (.int n), Sl.val (sonD m t n), a15, a16, a17, a18, a19, a20, a21, a22, a23, a24] (dr ns k) = .nx [Sl.val (.scr (I ns)), Sl.val (.loc 0), a2, Sl.val (.int m), Sl.val (.int t), Sl.val (.int b), Sl.val (FA m t), Sl.val (FA m (b * t)), Sl.val (.lst (I l)), Sl.val (.int z), a10, Sl.val (.int q), Sl.val (.lst (I (rws t l))), Sl.val (.int n), Sl.val (sonD m t n), a15, a16, a17, a18, a19, a20, a21, a22, a23, a24] (dr ns k) := by
  have ht : 1 ≤ t ∧ t ≤ 99 := ⟨B.t0, by have := B.t1; omega⟩
  rcases so_or (n := n) B.m0 ht ⟨hn.1, by omega⟩ with ⟨rfl, h2, h3⟩ | ⟨s, S, hb⟩
  · rw [h3 t]
    simp [x_law_20, Gh.isNon]
  · rw [S.eq]
    have w4 : Gh.isNon (.lst (I s)) = false := rfl
    by_cases h0 : 0 < n
    · obtain ⟨hm, rfl⟩ := S.pos h0
      have hlen : (son m t n.toNat).length = n.toNat := son_len _ _ _
      have hs : son m t n.toNat ≠ [] := fun h => by rw [h] at hlen; simp at hlen; omega
      have w5 := ix_last _ hs (dr ns k)
      rw [hlen, son_at _ _ _ _ (by omega)] at w5
      by_cases h5 : 0 < ((n.toNat - 1 : Nat) : Int) / m * t
      · have hn2 : 2 ≤ n.toNat := by
          refine Classical.byContradiction fun h => ?_
          rw [show n.toNat - 1 = 0 by omega] at h5
          simp at h5
        have hn2' : ¬ n < 2 := by omega
        have w6 := ix_neg (son m t n.toNat) 2 (by decide) (by rw [hlen]; exact hn2) (dr ns k)
        rw [hlen] at w6
        have w6 : gIx (.lst (I (son m t n.toNat))) (.int (-2)) (dr ns k) = .ok (.int (((n.toNat - 2 : Nat) : Int) / m * t)) (dr ns k) := by
          rw [← son_at m t n.toNat _ (by omega)]
          exact w6
        have w7 : gList [.lst (I (son m t n.toNat))] (dr ns k) = .ok (.lst (I (son m t n.toNat))) (dr ns k) := rfl
        have w8 := cut_last (son m t n.toNat)
        rw [hlen] at w8
        have hlt : ((n.toNat - 2 : Nat) : Int) / m * t ≤ ((n.toNat - 1 : Nat) : Int) / m * t := Int.mul_le_mul_of_nonneg_right (div_mono hm (by omega)) (by omega)
        obtain ⟨v, hv⟩ : ∃ v, v = (if ((n.toNat - 2 : Nat) : Int) / m * t > ((n.toNat - 1 : Nat) : Int) / m * t - 1 then ((n.toNat - 2 : Nat) : Int) / m * t else ((n.toNat - 1 : Nat) : Int) / m * t - 1) := ⟨_, rfl⟩
        have hv2 : v = max (((n.toNat - 1 : Nat) : Int) / m * t - 1) (((n.toNat - 2 : Nat) : Int) / m * t) := by
          rw [hv]
          split <;> omega
        have w9 : gMax2 [.int (((n.toNat - 1 : Nat) : Int) / m * t - 1), .int (((n.toNat - 2 : Nat) : Int) / m * t)] (dr ns k) = .ok (.int v) (dr ns k) := by
          rw [hv]
          rfl
        have w10 := add_one ((son m t n.toNat).take (n.toNat - 1)) v (by rw [List.length_take, hlen]; omega) (dr ns k)
        have w11 := are_within_ok m t (alt m t n.toNat v) (.lst (I (alt m t n.toNat v))) (.inl rfl) (alt_ok m t n.toNat v hm ht ⟨hn2, by omega⟩ (by omega) (by omega)) (by rw [alt_len _ _ _ _ (by omega)]; omega) (dr ns k)
        have w12 : I ((son m t n.toNat).take (n.toNat - 1) ++ [v]) = I (alt m t n.toNat v) := rfl
        rw [w12] at w10
        by_cases hc : ((n.toNat - 2 : Nat) : Int) / m * t < ((n.toNat - 1 : Nat) : Int) / m * t
        · have w13 := sooner m t n.toNat hm B.t0 hn2 (alt m t n.toNat v) (alt_len _ _ _ _ (by omega)) (fun j hj => alt_low _ _ _ _ _ hj) (by rw [alt_top _ _ _ _ (by omega), hv2]) hc
          rw [w13] at w11
          simp [x_law_20, w4, h0, w5, h5, w7, gCutL, w8, w9, w6, hn2', w10, w11, flatL, isLoc]
        · cases ha : aw m t (alt m t n.toNat v) with
          | false =>
            rw [ha] at w11
            simp [x_law_20, w4, h0, w5, h5, w7, gCutL, w8, w9, w6, hn2', w10, w11, flatL, isLoc]
          | true =>
            rw [ha] at w11
            simp [x_law_20, w4, h0, w5, h5, w7, gCutL, w8, w9, w6, hn2', w10, w11, flatL, isLoc, hc]
      · simp [x_law_20, w4, h0, w5, h5]
    · simp [x_law_20, w4, h0]
theorem st22 {a2 a10 a15 a16 a17 a18 a19 a20 a21 a22 a23 a24 : Sl} (ns : List Int) (k m t b z q n : Int) (l : List Int) (B : Mtb m t b) (F : Fl l z) (hn : l.length ≤ 11) : x_law_22 [Sl.val (.scr (I ns)), Sl.val (.loc 0), a2, Sl.val (.int m), Sl.val (.int t), Sl.val (.int b), Sl.val (FA m t), Sl.val (FA m (b * t)), Sl.val (.lst (I l)), Sl.val (.int z), a10, Sl.val (.int q), Sl.val (.lst (I (rws t l))), Sl.val (.int n), Sl.val (sonD m t n), a15, a16, a17, a18, a19, a20, a21, a22, a23, a24] (dr ns k) = .nx [Sl.val (.scr (I ns)), Sl.val (.loc 0), a2, Sl.val (.int m), Sl.val (.int t), Sl.val (.int b), Sl.val (FA m t), Sl.val (FA m (b * t)), Sl.val (.lst (I l)), Sl.val (.int z), a10, Sl.val (.int q), Sl.val (.lst (I (rws t l))), Sl.val (.int n), Sl.val (sonD m t n), a15, a16, a17, a18, a19, a20, a21, a22, a23, a24] (dr ns k) := by
  have hm : 0 ≤ m ∧ m ≤ 999 := ⟨B.m0, by have := B.m1; omega⟩
  have ht : 1 ≤ t ∧ t ≤ 999 := ⟨B.t0, by have := B.t1; omega⟩
  have w1 := are_within_ok m t l (.lst (I l)) (.inl rfl) F.ok (by omega) (dr ns k)
  have w2 := soonest_ok m t (l.length : Int) hm ht ⟨by omega, by omega⟩ (dr ns k)
  by_cases hl : l = []
  · have w3 := ne_l0 l (dr ns k)
    rw [decide_eq_true hl] at w3
    simp [x_law_22, w3, flatL]
  · cases ha : aw m t l with
    | false =>
      rw [ha] at w1
      simp [x_law_22, hl, flatL, w1]
    | true =>
      rw [ha] at w1
      obtain ⟨hm1, h5⟩ := no_sooner m t l F.ok B.m0 B.t0 ha hl
      have hp := List.length_pos_iff.mpr hl
      have w3 : sonD m t (l.length : Int) = .lst (I (son m t l.length)) := by
        unfold sonD
        rw [if_neg (by omega), Int.toNat_natCast]
      have hs : son m t l.length ≠ [] := fun h => by
        have := son_len m t l.length
        rw [h] at this
        simp at this
        omega
      have w5 := ix_last _ hs (dr ns k)
      rw [son_len, son_at _ _ _ _ (by omega)] at w5
      have w6 := ix_last l hl (dr ns k)
      have w7 := ix_first l hl (dr ns k)
      have w8 : ¬ at0 l (l.length - 1) - at0 l 0 < ((l.length - 1 : Nat) : Int) / m * t := by omega
      simp [x_law_22, hl, flatL, w1, w2, w3, w5, w6, w7, len_lst, w8]
theorem st23 {a2 a10 a15 a16 a17 a18 a19 a20 a21 a22 a23 a24 : Sl} (ns : List Int) (hl : ns.length ≤ 63) (k m t b z q n : Int) (l : List Int) (hk : 0 ≤ k) : ∃ x k' : Int, 1 ≤ x ∧ x ≤ 40 ∧ 0 ≤ k' ∧ x_law_23 [Sl.val (.scr (I ns)), Sl.val (.loc 0), a2, Sl.val (.int m), Sl.val (.int t), Sl.val (.int b), Sl.val (FA m t), Sl.val (FA m (b * t)), Sl.val (.lst (I l)), Sl.val (.int z), a10, Sl.val (.int q), Sl.val (.lst (I (rws t l))), Sl.val (.int n), Sl.val (sonD m t n), a15, a16, a17, a18, a19, a20, a21, a22, a23, a24] (dr ns k) = .nx [Sl.val (.scr (I ns)), Sl.val (.loc 0), a2, Sl.val (.int m), Sl.val (.int t), Sl.val (.int b), Sl.val (FA m t), Sl.val (FA m (b * t)), Sl.val (.lst (I l)), Sl.val (.int z), a10, Sl.val (.int q), Sl.val (.lst (I (rws t l))), Sl.val (.int n), Sl.val (sonD m t n), Sl.val (.int x), a16, a17, a18, a19, a20, a21, a22, a23, a24] (dr ns k') := by
  obtain ⟨x, q0, q1, w1⟩ := take_ok ns k 40 hk (by decide) hl
  refine ⟨1 + x, k + 1, by omega, by omega, by omega, ?_⟩
  simp [x_law_23, w1]
theorem st24 {a2 a10 a16 a17 a18 a19 a20 a21 a22 a23 a24 : Sl} (ns : List Int) (k m t b z q n x : Int) (l : List Int) (B : Mtb m t b) (hx : 1 ≤ x ∧ x ≤ 40) : x_law_24 [Sl.val (.scr (I ns)), Sl.val (.loc 0), a2, Sl.val (.int m), Sl.val (.int t), Sl.val (.int b), Sl.val (FA m t), Sl.val (FA m (b * t)), Sl.val (.lst (I l)), Sl.val (.int z), a10, Sl.val (.int q), Sl.val (.lst (I (rws t l))), Sl.val (.int n), Sl.val (sonD m t n), Sl.val (.int x), a16, a17, a18, a19, a20, a21, a22, a23, a24] (dr ns k) = .nx [Sl.val (.scr (I ns)), Sl.val (.loc 0), a2, Sl.val (.int m), Sl.val (.int t), Sl.val (.int b), Sl.val (FA m t), Sl.val (FA m (b * t)), Sl.val (.lst (I l)), Sl.val (.int z), a10, Sl.val (.int q), Sl.val (.lst (I (rws t l))), Sl.val (.int n), Sl.val (sonD m t n), Sl.val (.int x), Sl.val (.int (mw m t x)), a17, a18, a19, a20, a21, a22, a23, a24] (dr ns k) := by
  have w1 := most_within_ok m t x ⟨B.m0, by have := B.m1; omega⟩ ⟨B.t0, by have := B.t1; omega⟩ ⟨hx.1, by omega⟩ (dr ns k)
  simp [x_law_24, w1]

end Lw
namespace Lw
open Gh L2 PyProof.Rows PySem.Spec PySem

theorem st25 {a2 a10 a17 a18 a19 a20 a21 a22 a23 a24 : Sl} (ns : List Int) (k m t b z q n x : Int) (l : List Int) (B : Mtb m t b) (hx : 1 ≤ x ∧ x ≤ 40) : ∃ du : Int, (m * x < 50 → du = mw m t x) ∧ x_law_25 [Sl.val (.scr (I ns)), Sl.val (.loc 0), a2, Sl.val (.int m), Sl.val (.int t), Sl.val (.int b), Sl.val (FA m t), Sl.val (FA m (b * t)), Sl.val (.lst (I l)), Sl.val (.int z), a10, Sl.val (.int q), Sl.val (.lst (I (rws t l))), Sl.val (.int n), Sl.val (sonD m t n), Sl.val (.int x), Sl.val (.int (mw m t x)), a17, a18, a19, a20, a21, a22, a23, a24] (dr ns k) = .nx [Sl.val (.scr (I ns)), Sl.val (.loc 0), a2, Sl.val (.int m), Sl.val (.int t), Sl.val (.int b), Sl.val (FA m t), Sl.val (FA m (b * t)), Sl.val (.lst (I l)), Sl.val (.int z), a10, Sl.val (.int q), Sl.val (.lst (I (rws t l))), Sl.val (.int n), Sl.val (sonD m t n), Sl.val (.int x), Sl.val (.int (mw m t x)), Sl.val (.int du), a18, a19, a20, a21, a22, a23, a24] (dr ns k) := by
  have hm : 0 ≤ m ∧ m ≤ 999 := ⟨B.m0, by have := B.m1; omega⟩
  have ht : 1 ≤ t ∧ t ≤ 999 := ⟨B.t0, by have := B.t1; omega⟩
  have w1 := soonest_ok m t 60 hm ht ⟨by decide, by decide⟩ (dr ns k)
  obtain ⟨s, hs, hl, hw⟩ : ∃ s : List Int, ((lSeq (eIf (tB (e2 gGt (ePeek 3) (eC (.int 0)))) (eCall m_soonest (aCons (eVar 6) (aCons (eC (.int 60)) aNil))) (eLst aNil)))) [Sl.val (.scr (I ns)), Sl.val (.loc 0), a2, Sl.val (.int m), Sl.val (.int t), Sl.val (.int b), Sl.val (FA m t), Sl.val (FA m (b * t)), Sl.val (.lst (I l)), Sl.val (.int z), a10, Sl.val (.int q), Sl.val (.lst (I (rws t l))), Sl.val (.int n), Sl.val (sonD m t n), Sl.val (.int x), Sl.val (.int (mw m t x)), a17, a18, a19, a20, a21, Sl.val (.int 0), a23, a24] (dr ns k) = .ok (I s) (dr ns k) ∧ s.length < 100000 ∧ (m * x < 50 → max 0 (((s.filter fun y => decide (0 ≤ y) && decide (y < 0 + x)).length : Nat) : Int) = mw m t x) := by
    by_cases hm0 : 0 < m
    · have w2 : sonD m t 60 = .lst (I (son m t 60)) := by
        unfold sonD
        rw [if_neg (by omega)]
        rfl
      refine ⟨son m t 60, by simp [hm0, w1, w2], by rw [son_len]; decide, fun h50 => ?_⟩
      have h1 : mw m t x ≤ m * x := by
        rw [mw_up, Int.mul_comm m x]
        exact Int.mul_le_mul_of_nonneg_right (up_le (by omega) (by omega)) hm.1
      rw [due_is m t x 60 hm0 (by omega) (by omega) (by omega)]
      have h2 : 0 ≤ mw m t x := Int.mul_nonneg (up_nn (by omega) (by omega)) hm.1
      omega
    · have : m = 0 := by omega
      subst this
      refine ⟨[], by simp [flatL], by decide, fun _ => ?_⟩
      show (0 : Int) = _
      unfold mw
      rw [Int.mul_zero]
  obtain ⟨c, hc⟩ : ∃ c : Nat, c = (s.filter fun y => decide (0 ≤ y) && decide (y < 0 + x)).length := ⟨_, rfl⟩
  rw [← hc] at hw
  have y1 : (eComp (lSeq (eIf (tB (e2 gGt (ePeek 3) (eC (.int 0)))) (eCall m_soonest (aCons (eVar 6) (aCons (eC (.int 60)) aNil))) (eLst aNil))) (bName 23) (tB (eChain gLe gLt (ePeek 22) (ePeek 23) (e2 gAddI (ePeek 22) (ePeek 15)))) (eC (.int 0)) [23]) [Sl.val (.scr (I ns)), Sl.val (.loc 0), a2, Sl.val (.int m), Sl.val (.int t), Sl.val (.int b), Sl.val (FA m t), Sl.val (FA m (b * t)), Sl.val (.lst (I l)), Sl.val (.int z), a10, Sl.val (.int q), Sl.val (.lst (I (rws t l))), Sl.val (.int n), Sl.val (sonD m t n), Sl.val (.int x), Sl.val (.int (mw m t x)), a17, a18, a19, a20, a21, Sl.val (.int 0), a23, a24] (dr ns k) = .ok (.lst ((s.filter fun y => decide (0 ≤ y) && decide (y < 0 + x)).map fun _ => D.int 0)) (dr ns k) := by
    refine compI s (fun _ => .int 0) (fun y => decide (0 ≤ y) && decide (y < 0 + x)) hs hl fun a ha => ⟨_, rfl, ?_, fun _ => ⟨rfl, rfl⟩⟩
    by_cases h : 0 ≤ a <;> simp [wipeR, h]
  have y2 : gLen [.lst ((s.filter fun y => decide (0 ≤ y) && decide (y < 0 + x)).map fun _ => D.int 0)] (dr ns k) = .ok (.int (c : Int)) (dr ns k) := by
    rw [hc]
    show RC.ok (D.int ((((s.filter fun y => decide (0 ≤ y) && decide (y < 0 + x)).map fun _ => D.int 0).length : Nat) : Int)) (dr ns k) = _
    rw [List.length_map]
  have y3 : (eComp (lSeq (eLst (aCons (eC (.int 0)) aNil))) (bName 22) tYes (eN gLen (aCons (eComp (lSeq (eIf (tB (e2 gGt (ePeek 3) (eC (.int 0)))) (eCall m_soonest (aCons (eVar 6) (aCons (eC (.int 60)) aNil))) (eLst aNil))) (bName 23) (tB (eChain gLe gLt (ePeek 22) (ePeek 23) (e2 gAddI (ePeek 22) (ePeek 15)))) (eC (.int 0)) [23]) aNil)) [22]) [Sl.val (.scr (I ns)), Sl.val (.loc 0), a2, Sl.val (.int m), Sl.val (.int t), Sl.val (.int b), Sl.val (FA m t), Sl.val (FA m (b * t)), Sl.val (.lst (I l)), Sl.val (.int z), a10, Sl.val (.int q), Sl.val (.lst (I (rws t l))), Sl.val (.int n), Sl.val (sonD m t n), Sl.val (.int x), Sl.val (.int (mw m t x)), a17, a18, a19, a20, a21, a22, a23, a24] (dr ns k) = .ok (.lst [.int (c : Int)]) (dr ns k) := by
    have y := compI1 (bd := (bName 22)) (me := (eN gLen (aCons (eComp (lSeq (eIf (tB (e2 gGt (ePeek 3) (eC (.int 0)))) (eCall m_soonest (aCons (eVar 6) (aCons (eC (.int 60)) aNil))) (eLst aNil))) (bName 23) (tB (eChain gLe gLt (ePeek 22) (ePeek 23) (e2 gAddI (ePeek 22) (ePeek 15)))) (eC (.int 0)) [23]) aNil))) (vs := [22]) (mi := (lSeq (eLst (aCons (eC (.int 0)) aNil)))) (ρ := [Sl.val (.scr (I ns)), Sl.val (.loc 0), a2, Sl.val (.int m), Sl.val (.int t), Sl.val (.int b), Sl.val (FA m t), Sl.val (FA m (b * t)), Sl.val (.lst (I l)), Sl.val (.int z), a10, Sl.val (.int q), Sl.val (.lst (I (rws t l))), Sl.val (.int n), Sl.val (sonD m t n), Sl.val (.int x), Sl.val (.int (mw m t x)), a17, a18, a19, a20, a21, a22, a23, a24]) (st := dr ns k) [0] (fun _ => .int (c : Int)) (by simp [flatL, isLoc]; rfl) (by decide) fun a ha => by
      have ha : a = 0 := by simpa using ha
      subst ha
      refine ⟨_, rfl, ?_, rfl⟩
      have y4 : ((eN gLen (aCons (eComp (lSeq (eIf (tB (e2 gGt (ePeek 3) (eC (.int 0)))) (eCall m_soonest (aCons (eVar 6) (aCons (eC (.int 60)) aNil))) (eLst aNil))) (bName 23) (tB (eChain gLe gLt (ePeek 22) (ePeek 23) (e2 gAddI (ePeek 22) (ePeek 15)))) (eC (.int 0)) [23]) aNil))) [Sl.val (.scr (I ns)), Sl.val (.loc 0), a2, Sl.val (.int m), Sl.val (.int t), Sl.val (.int b), Sl.val (FA m t), Sl.val (FA m (b * t)), Sl.val (.lst (I l)), Sl.val (.int z), a10, Sl.val (.int q), Sl.val (.lst (I (rws t l))), Sl.val (.int n), Sl.val (sonD m t n), Sl.val (.int x), Sl.val (.int (mw m t x)), a17, a18, a19, a20, a21, Sl.val (.int 0), a23, a24] (dr ns k) = .ok (.int (c : Int)) (dr ns k) := by
        simp only [r_eN, r_aCons, r_aNil, RC.bind_ok]
        rw [y1]
        simp only [RC.bind_ok]
        exact y2
      exact y4
    exact y
  have y5 : gAdd (.lst [.int 0]) (.lst [.int (c : Int)]) (dr ns k) = .ok (.lst [.int 0, .int (c : Int)]) (dr ns k) := rfl
  have y6 : gMax [.lst [.int 0, .int (c : Int)]] (dr ns k) = .ok (.int (max 0 (c : Int))) (dr ns k) := rfl
  rw [show max 0 (c : Int) = (c : Int) by omega] at y6
  refine ⟨(c : Int), fun h => by have := hw h; omega, ?_⟩
  simp [x_law_25, y3, y5, y6, flatL, isLoc]
theorem st27 {a2 a10 a18 a19 a20 a21 a22 a23 a24 : Sl} (ns : List Int) (k m t b z q n x du : Int) (l : List Int) (B : Mtb m t b) (hx : 1 ≤ x ∧ x ≤ 40) (hd : m * x < 50 → du = mw m t x) : x_law_27 [Sl.val (.scr (I ns)), Sl.val (.loc 0), a2, Sl.val (.int m), Sl.val (.int t), Sl.val (.int b), Sl.val (FA m t), Sl.val (FA m (b * t)), Sl.val (.lst (I l)), Sl.val (.int z), a10, Sl.val (.int q), Sl.val (.lst (I (rws t l))), Sl.val (.int n), Sl.val (sonD m t n), Sl.val (.int x), Sl.val (.int (mw m t x)), Sl.val (.int du), a18, a19, a20, a21, a22, a23, a24] (dr ns k) = .nx [Sl.val (.scr (I ns)), Sl.val (.loc 0), a2, Sl.val (.int m), Sl.val (.int t), Sl.val (.int b), Sl.val (FA m t), Sl.val (FA m (b * t)), Sl.val (.lst (I l)), Sl.val (.int z), a10, Sl.val (.int q), Sl.val (.lst (I (rws t l))), Sl.val (.int n), Sl.val (sonD m t n), Sl.val (.int x), Sl.val (.int (mw m t x)), Sl.val (.int du), a18, a19, a20, a21, a22, a23, a24] (dr ns k) := by
  have hm : 0 ≤ m ∧ m ≤ 999 := ⟨B.m0, by have := B.m1; omega⟩
  have ht : 1 ≤ t ∧ t ≤ 999 := ⟨B.t0, by have := B.t1; omega⟩
  have hbt := B.bt
  have hbx : 1 ≤ b * x ∧ b * x ≤ 999 := by
    have h1 : 1 * 1 ≤ b * x := Int.mul_le_mul (by have := B.b0; omega) hx.1 (by decide) (by have := B.b0; omega)
    have h2 : b * x ≤ 5 * 40 := Int.mul_le_mul B.b1 hx.2 (by omega) (by decide)
    omega
  have w1 := least_most_ok m t x hm ht ⟨hx.1, by omega⟩ (dr ns k)
  have w2 := most_within_ok m (b * t) (b * x) hm ⟨hbt.1, by omega⟩ hbx (dr ns k)
  rw [mw_scale (by omega) (by have := B.b0; omega)] at w2
  obtain ⟨v, hv⟩ : ∃ v, v = (if x - 1 > 1 then x - 1 else 1) := ⟨_, rfl⟩
  have hv1 : 1 ≤ v ∧ v ≤ x := by
    rw [hv]
    split <;> omega
  have w3 : gMax2 [.int 1, .int (x - 1)] (dr ns k) = .ok (.int v) (dr ns k) := by
    rw [hv]
    rfl
  have w4 := most_within_ok m t v hm ht ⟨hv1.1, by omega⟩ (dr ns k)
  have w5 : ¬ mw m t x < mw m t v := by
    have := mw_mono hm.1 (show 0 < t by omega) hv1.2
    omega
  have s1 := sm m (by omega) (by omega)
  have s2 := sm b (by have := B.b0; omega) (by have := B.b1; omega)
  by_cases h50 : m * x < 50
  · have hd := hd h50
    subst hd
    simp [x_law_27, w1, w2, w3, w4, w5, s1, s2]
  · by_cases he : mw m t x = du
    · simp [x_law_27, w1, w2, w3, w4, w5, s1, s2, he]
      subst he
      simp [w1, w2, w3, w4, w5, s1, s2]
    · simp [x_law_27, w1, w2, w3, w4, w5, s1, s2, he, h50]
theorem st28 {a2 a10 a18 a19 a20 a21 a22 a23 a24 : Sl} (ns : List Int) (hl : ns.length ≤ 63) (k m t b z q n x du : Int) (l : List Int) (hk : 0 ≤ k) : ∃ w k' : Int, 1 ≤ w ∧ w ≤ 90 ∧ 0 ≤ k' ∧ x_law_28 [Sl.val (.scr (I ns)), Sl.val (.loc 0), a2, Sl.val (.int m), Sl.val (.int t), Sl.val (.int b), Sl.val (FA m t), Sl.val (FA m (b * t)), Sl.val (.lst (I l)), Sl.val (.int z), a10, Sl.val (.int q), Sl.val (.lst (I (rws t l))), Sl.val (.int n), Sl.val (sonD m t n), Sl.val (.int x), Sl.val (.int (mw m t x)), Sl.val (.int du), a18, a19, a20, a21, a22, a23, a24] (dr ns k) = .nx [Sl.val (.scr (I ns)), Sl.val (.loc 0), a2, Sl.val (.int m), Sl.val (.int t), Sl.val (.int b), Sl.val (FA m t), Sl.val (FA m (b * t)), Sl.val (.lst (I l)), Sl.val (.int z), a10, Sl.val (.int q), Sl.val (.lst (I (rws t l))), Sl.val (.int n), Sl.val (sonD m t n), Sl.val (.int x), Sl.val (.int (mw m t x)), Sl.val (.int du), Sl.val (.int w), a19, a20, a21, a22, a23, a24] (dr ns k') := by
  obtain ⟨w, q0, q1, w1⟩ := take_ok ns k 90 hk (by decide) hl
  refine ⟨1 + w, k + 1, by omega, by omega, by omega, ?_⟩
  simp [x_law_28, w1]
theorem Mtb.bnd {m t b q w : Int} (B : Mtb m t b) (hq : 0 ≤ q ∧ q < 6) (hw : 1 ≤ w ∧ w ≤ 99) : Bnd q w m t := ⟨⟨hq.1, by omega⟩, hw, ⟨B.m0, by have := B.m1; omega⟩, ⟨B.t0, by have := B.t1; omega⟩⟩
theorem st29 {a2 a10 a19 a20 a21 a22 a23 a24 : Sl} (ns : List Int) (k m t b z q n x du w : Int) (l : List Int) (B : Mtb m t b) (hq : 0 ≤ q ∧ q < 6) (hw : 1 ≤ w ∧ w ≤ 90) : x_law_29 [Sl.val (.scr (I ns)), Sl.val (.loc 0), a2, Sl.val (.int m), Sl.val (.int t), Sl.val (.int b), Sl.val (FA m t), Sl.val (FA m (b * t)), Sl.val (.lst (I l)), Sl.val (.int z), a10, Sl.val (.int q), Sl.val (.lst (I (rws t l))), Sl.val (.int n), Sl.val (sonD m t n), Sl.val (.int x), Sl.val (.int (mw m t x)), Sl.val (.int du), Sl.val (.int w), a19, a20, a21, a22, a23, a24] (dr ns k) = .nx [Sl.val (.scr (I ns)), Sl.val (.loc 0), a2, Sl.val (.int m), Sl.val (.int t), Sl.val (.int b), Sl.val (FA m t), Sl.val (FA m (b * t)), Sl.val (.lst (I l)), Sl.val (.int z), a10, Sl.val (.int q), Sl.val (.lst (I (rws t l))), Sl.val (.int n), Sl.val (sonD m t n), Sl.val (.int x), Sl.val (.int (mw m t x)), Sl.val (.int du), Sl.val (.int w), Sl.val (jd q w m t), a20, a21, a22, a23, a24] (dr ns k) := by
  have w1 := judge_ok (B.bnd hq ⟨hw.1, by omega⟩) (dr ns k)
  simp [x_law_29, w1]

end Lw
namespace Lw
open Gh L2 PyProof.Rows PySem.Spec PySem
structure Ps (q w m t : Int) (s : List Int) : Prop where
  ok : okF 0 s
  len : (s.length : Int) = q + 1
  aw : aw m t s = true
  fb : fb q w s = some (s.length - 1)
theorem ps_of {q w m t : Int} (hm : 0 ≤ m) (ht : 1 ≤ t ∧ t ≤ 99) (hq : 0 ≤ q ∧ q < 6) (h : ¬ mw m t w ≤ q) : Ps q w m t (son m t (q + 1).toNat) := by
  have hm1 : 0 < m := by
    refine Classical.byContradiction fun z => h ?_
    have : m = 0 := by omega
    subst this
    unfold mw
    rw [Int.mul_zero]
    exact hq.1
  have e := passed_fb q w m t hm1 (by omega) hq.1 h
  refine ⟨son_ok m t _ hm1 ht (by omega), by rw [son_len]; omega, son_aw m t _ hm1 (by omega), ?_⟩
  rw [e, son_len, show (q + 1).toNat - 1 = q.toNat by omega]
theorem jd_b {q w m t : Int} (h : mw m t w ≤ q) : jd q w m t = BE (mw m t w) := by unfold jd; rw [if_pos h]
theorem jd_p {q w m t : Int} (h : ¬ mw m t w ≤ q) : jd q w m t = PA (son m t (q + 1).toNat) := by unfold jd; rw [if_neg h]
theorem inst_b (v : Int) (st : Store) : instOf st (BE v) = some (("Bears" : Str), [(("many" : Str), D.int v)]) := rfl
theorem inst_p (l : List Int) (st : Store) : instOf st (PA l) = some (("Passed" : Str), [(("falls" : Str), D.tup (I l))]) := rfl
theorem no_b (v : Int) : (List.lookup ("shows" : Str) [(("many" : Str), D.int v)]).isNone = true := by kernel_rfl
theorem no_p (l : List Int) : (List.lookup ("shows" : Str) [(("falls" : Str), D.tup (I l))]).isNone = true := by kernel_rfl

theorem st31 {a2 a10 a20 a21 a22 a23 a24 : Sl} (ns : List Int) (k m t b z q n x du w : Int) (l : List Int) (B : Mtb m t b) (hq : 0 ≤ q ∧ q < 6) (hw : 1 ≤ w ∧ w ≤ 90) : x_law_31 [Sl.val (.scr (I ns)), Sl.val (.loc 0), a2, Sl.val (.int m), Sl.val (.int t), Sl.val (.int b), Sl.val (FA m t), Sl.val (FA m (b * t)), Sl.val (.lst (I l)), Sl.val (.int z), a10, Sl.val (.int q), Sl.val (.lst (I (rws t l))), Sl.val (.int n), Sl.val (sonD m t n), Sl.val (.int x), Sl.val (.int (mw m t x)), Sl.val (.int du), Sl.val (.int w), Sl.val (jd q w m t), a20, a21, a22, a23, a24] (dr ns k) = .nx [Sl.val (.scr (I ns)), Sl.val (.loc 0), a2, Sl.val (.int m), Sl.val (.int t), Sl.val (.int b), Sl.val (FA m t), Sl.val (FA m (b * t)), Sl.val (.lst (I l)), Sl.val (.int z), a10, Sl.val (.int q), Sl.val (.lst (I (rws t l))), Sl.val (.int n), Sl.val (sonD m t n), Sl.val (.int x), Sl.val (.int (mw m t x)), Sl.val (.int du), Sl.val (.int w), Sl.val (jd q w m t), a20, a21, a22, a23, a24] (dr ns k) := by
  have ht : 1 ≤ t ∧ t ≤ 99 := ⟨B.t0, by have := B.t1; omega⟩
  have b1 := B.bnd hq (w := w) ⟨hw.1, by omega⟩
  have w1 := most_within_ok m t w b1.hm ⟨B.t0, by omega⟩ ⟨hw.1, by omega⟩ (dr ns k)
  by_cases h : mw m t w ≤ q
  · rw [jd_b h]
    have w2 := shows_b b1 (dr ns k) h
    have w3 : (eMethU [("Bears", m_Bears_shows), ("Passed", m_Passed_shows)] "shows" (eVar 19) (aCons (eVar 11) (aCons (eVar 18) (aCons (eVar 6) aNil)))) [Sl.val (.scr (I ns)), Sl.val (.loc 0), a2, Sl.val (.int m), Sl.val (.int t), Sl.val (.int b), Sl.val (FA m t), Sl.val (FA m (b * t)), Sl.val (.lst (I l)), Sl.val (.int z), a10, Sl.val (.int q), Sl.val (.lst (I (rws t l))), Sl.val (.int n), Sl.val (sonD m t n), Sl.val (.int x), Sl.val (.int (mw m t x)), Sl.val (.int du), Sl.val (.int w), Sl.val (BE (mw m t w)), a20, a21, a22, a23, a24] (dr ns k) = .ok (.bl true) (dr ns k) := by
      rw [r_meth]
      simp only [r_var, List.getElem?_cons_succ, List.getElem?_cons_zero, RC.bind_ok, inst_b, look_b]
      simp [no_b, w2]
    simp [x_law_31, -r_meth, w1, w3, bool_b, h]
  · rw [jd_p h]
    have S := ps_of (q := q) (w := w) B.m0 ht hq h
    have hs : son m t (q + 1).toNat ≠ [] := fun h => by
      have := S.len
      rw [h] at this
      simp at this
      omega
    have w2 := shows_p b1 (son m t (q + 1).toNat) (dr ns k) S.ok (by have := S.len; omega) S.aw S.fb hs
    have w3 : (eMethU [("Bears", m_Bears_shows), ("Passed", m_Passed_shows)] "shows" (eVar 19) (aCons (eVar 11) (aCons (eVar 18) (aCons (eVar 6) aNil)))) [Sl.val (.scr (I ns)), Sl.val (.loc 0), a2, Sl.val (.int m), Sl.val (.int t), Sl.val (.int b), Sl.val (FA m t), Sl.val (FA m (b * t)), Sl.val (.lst (I l)), Sl.val (.int z), a10, Sl.val (.int q), Sl.val (.lst (I (rws t l))), Sl.val (.int n), Sl.val (sonD m t n), Sl.val (.int x), Sl.val (.int (mw m t x)), Sl.val (.int du), Sl.val (.int w), Sl.val (PA (son m t (q + 1).toNat)), a20, a21, a22, a23, a24] (dr ns k) = .ok (.bl true) (dr ns k) := by
      rw [r_meth]
      simp only [r_var, List.getElem?_cons_succ, List.getElem?_cons_zero, RC.bind_ok, inst_p, look_p]
      simp [no_p, w2]
    simp [x_law_31, -r_meth, w1, w3, bool_p, h]
theorem st33 {a2 a10 a20 a21 a22 a23 a24 : Sl} (ns : List Int) (k m t b z q n x du w : Int) (l : List Int) (B : Mtb m t b) (hq : 0 ≤ q ∧ q < 6) (hw : 1 ≤ w ∧ w ≤ 90) : x_law_33 [Sl.val (.scr (I ns)), Sl.val (.loc 0), a2, Sl.val (.int m), Sl.val (.int t), Sl.val (.int b), Sl.val (FA m t), Sl.val (FA m (b * t)), Sl.val (.lst (I l)), Sl.val (.int z), a10, Sl.val (.int q), Sl.val (.lst (I (rws t l))), Sl.val (.int n), Sl.val (sonD m t n), Sl.val (.int x), Sl.val (.int (mw m t x)), Sl.val (.int du), Sl.val (.int w), Sl.val (jd q w m t), a20, a21, a22, a23, a24] (dr ns k) = .nx [Sl.val (.scr (I ns)), Sl.val (.loc 0), a2, Sl.val (.int m), Sl.val (.int t), Sl.val (.int b), Sl.val (FA m t), Sl.val (FA m (b * t)), Sl.val (.lst (I l)), Sl.val (.int z), a10, Sl.val (.int q), Sl.val (.lst (I (rws t l))), Sl.val (.int n), Sl.val (sonD m t n), Sl.val (.int x), Sl.val (.int (mw m t x)), Sl.val (.int du), Sl.val (.int w), Sl.val (jd q w m t), a20, a21, a22, a23, a24] (dr ns k) := by
  have ht : 1 ≤ t ∧ t ≤ 99 := ⟨B.t0, by have := B.t1; omega⟩
  have b1 := B.bnd hq (w := w) ⟨hw.1, by omega⟩
  by_cases h : mw m t w ≤ q
  · rw [jd_b h]
    simp [x_law_33, bool_b]
  · rw [jd_p h]
    have S := ps_of (q := q) (w := w) B.m0 ht hq h
    have w2 : gList [.tup (I (son m t (q + 1).toNat))] (dr ns k) = .ok (.lst (I (son m t (q + 1).toNat))) (dr ns k) := rfl
    have w3 := are_within_ok m t _ (.lst (I (son m t (q + 1).toNat))) (.inl rfl) S.ok (by have := S.len; omega) (dr ns k)
    have w4 := first_beyond_ok q w _ (.lst (I (son m t (q + 1).toNat))) (.inl rfl) S.ok (by have := S.len; omega) b1.h1 b1.h2 (dr ns k)
    have w5 := S.len
    have w6 : (((son m t (q + 1).toNat).length - 1 : Nat) : Int) = q := by omega
    rw [S.aw] at w3
    rw [S.fb] at w4
    rw [show optD (some ((son m t (q + 1).toNat).length - 1)) = D.int q from by show D.int _ = _; rw [w6]] at w4
    have w7 := len_tup (son m t (q + 1).toNat) (dr ns k)
    rw [w5] at w7
    simp [x_law_33, bool_p, w2, w3, w4, w7]
theorem st34 {a2 a10 a20 a21 a22 a23 a24 : Sl} (ns : List Int) (k m t b z q n x du w : Int) (l : List Int) (B : Mtb m t b) (hq : 0 ≤ q ∧ q < 6) (hw : 1 ≤ w ∧ w ≤ 90) : x_law_34 [Sl.val (.scr (I ns)), Sl.val (.loc 0), a2, Sl.val (.int m), Sl.val (.int t), Sl.val (.int b), Sl.val (FA m t), Sl.val (FA m (b * t)), Sl.val (.lst (I l)), Sl.val (.int z), a10, Sl.val (.int q), Sl.val (.lst (I (rws t l))), Sl.val (.int n), Sl.val (sonD m t n), Sl.val (.int x), Sl.val (.int (mw m t x)), Sl.val (.int du), Sl.val (.int w), Sl.val (jd q w m t), a20, a21, a22, a23, a24] (dr ns k) = .nx [Sl.val (.scr (I ns)), Sl.val (.loc 0), a2, Sl.val (.int m), Sl.val (.int t), Sl.val (.int b), Sl.val (FA m t), Sl.val (FA m (b * t)), Sl.val (.lst (I l)), Sl.val (.int z), a10, Sl.val (.int q), Sl.val (.lst (I (rws t l))), Sl.val (.int n), Sl.val (sonD m t n), Sl.val (.int x), Sl.val (.int (mw m t x)), Sl.val (.int du), Sl.val (.int w), Sl.val (jd q w m t), Sl.val (.int (gtD m t q)), a21, a22, a23, a24] (dr ns k) := by
  have w1 := greatest_ok m t q ⟨B.m0, by have := B.m1; omega⟩ ⟨B.t0, by have := B.t1; omega⟩ ⟨hq.1, by omega⟩ (dr ns k)
  simp [x_law_34, w1]
theorem st36 {a2 a10 a21 a22 a23 a24 : Sl} (ns : List Int) (k m t b z q n x du w : Int) (l : List Int) (B : Mtb m t b) (hq : 0 ≤ q ∧ q < 6) (hw : 1 ≤ w ∧ w ≤ 90) : x_law_36 [Sl.val (.scr (I ns)), Sl.val (.loc 0), a2, Sl.val (.int m), Sl.val (.int t), Sl.val (.int b), Sl.val (FA m t), Sl.val (FA m (b * t)), Sl.val (.lst (I l)), Sl.val (.int z), a10, Sl.val (.int q), Sl.val (.lst (I (rws t l))), Sl.val (.int n), Sl.val (sonD m t n), Sl.val (.int x), Sl.val (.int (mw m t x)), Sl.val (.int du), Sl.val (.int w), Sl.val (jd q w m t), Sl.val (.int (gtD m t q)), a21, a22, a23, a24] (dr ns k) = .nx [Sl.val (.scr (I ns)), Sl.val (.loc 0), a2, Sl.val (.int m), Sl.val (.int t), Sl.val (.int b), Sl.val (FA m t), Sl.val (FA m (b * t)), Sl.val (.lst (I l)), Sl.val (.int z), a10, Sl.val (.int q), Sl.val (.lst (I (rws t l))), Sl.val (.int n), Sl.val (sonD m t n), Sl.val (.int x), Sl.val (.int (mw m t x)), Sl.val (.int du), Sl.val (.int w), Sl.val (jd q w m t), Sl.val (.int (gtD m t q)), a21, a22, a23, a24] (dr ns k) := by
  obtain ⟨g0, g1, g2, g3⟩ := gt_facts m t q B.m0 (by have := B.t0; omega)
  generalize gtD m t q = g at g0 g1 g2 g3
  by_cases h0 : 0 < g
  · have w1 := judge_ok (B.bnd hq (w := g) ⟨by omega, by omega⟩) (dr ns k)
    rw [jd_b (g2 h0)] at w1
    by_cases h9 : g < 99
    · have w2 := judge_ok (B.bnd hq (w := g + 1) ⟨by omega, by omega⟩) (dr ns k)
      rw [jd_p (g3 h9)] at w2
      simp [x_law_36, h0, h9, w1, w2, bool_b, bool_p]
    · simp [x_law_36, h0, h9, w1, bool_b]
  · have h9 : g < 99 := by omega
    have w2 := judge_ok (B.bnd hq (w := g + 1) ⟨by omega, by omega⟩) (dr ns k)
    rw [jd_p (g3 h9)] at w2
    simp [x_law_36, h0, h9, w2, bool_p]

/-- one turn of the law -/
theorem turn_ok {a2 a3 a4 a5 a6 a7 a8 a9 a10 a11 a12 a13 a14 a15 a16 a17 a18 a19 a20 a21 a22 a23 a24 : Sl} (ns : List Int) (hl : ns.length ≤ 63) (k : Int) (hk : 0 ≤ k) : ∃ (k' : Int) (c2 c3 c4 c5 c6 c7 c8 c9 c10 c11 c12 c13 c14 c15 c16 c17 c18 c19 c20 c21 c22 c23 c24 : Sl), 0 ≤ k' ∧
    (sSeq x_law_1 (sSeq x_law_2 (sSeq x_law_3 (sSeq x_law_6 (sSeq x_law_7 (sSeq x_law_8 (sSeq x_law_10 (sSeq x_law_12 (sSeq x_law_13 (sSeq x_law_14 (sSeq x_law_16 (sSeq x_law_18 (sSeq x_law_20 (sSeq x_law_22 (sSeq x_law_23 (sSeq x_law_24 (sSeq x_law_25 (sSeq x_law_27 (sSeq x_law_28 (sSeq x_law_29 (sSeq x_law_31 (sSeq x_law_33 (sSeq x_law_34 x_law_36)))))))))))))))))))))))
      [Sl.val (.scr (I ns)), Sl.val (.loc 0), a2, a3, a4, a5, a6, a7, a8, a9, a10, a11, a12, a13, a14, a15, a16, a17, a18, a19, a20, a21, a22, a23, a24] (dr ns k) = .nx [Sl.val (.scr (I ns)), Sl.val (.loc 0), c2, c3, c4, c5, c6, c7, c8, c9, c10, c11, c12, c13, c14, c15, c16, c17, c18, c19, c20, c21, c22, c23, c24] (dr ns k') := by
  obtain ⟨m, t, b, k1, B, hk1, q1⟩ := st1 (a2 := a2) (a3 := a3) (a4 := a4) (a5 := a5) (a6 := a6) (a7 := a7) (a8 := a8) (a9 := a9) (a10 := a10) (a11 := a11) (a12 := a12) (a13 := a13) (a14 := a14) (a15 := a15) (a16 := a16) (a17 := a17) (a18 := a18) (a19 := a19) (a20 := a20) (a21 := a21) (a22 := a22) (a23 := a23) (a24 := a24) ns hl k hk
  rw [seq_nx q1, seq_nx (st2 ns k1 m t b B), seq_nx (st3 ns k1 m t b)]
  obtain ⟨l, z, k2, c10, hk2, F, hz, hn, q6⟩ := st6 (a2 := a2) (a10 := a10) (a11 := a11) (a12 := a12) (a13 := a13) (a14 := a14) (a15 := a15) (a16 := a16) (a17 := a17) (a18 := a18) (a19 := a19) (a20 := a20) (a21 := a21) (a22 := a22) (a23 := a23) (a24 := a24) ns hl k1 m t b hk1
  rw [seq_nx q6]
  obtain ⟨q, k3, hq0, hq1, hk3, q7⟩ := st7 (a2 := a2) (a10 := c10) (a11 := a11) (a12 := a12) (a13 := a13) (a14 := a14) (a15 := a15) (a16 := a16) (a17 := a17) (a18 := a18) (a19 := a19) (a20 := a20) (a21 := a21) (a22 := a22) (a23 := a23) (a24 := a24) ns hl k2 m t b z l hk2
  have hq : 0 ≤ q ∧ q < 6 := ⟨hq0, hq1⟩
  rw [seq_nx q7, seq_nx (st8 ns k3 m t b z q l hn), seq_nx (st10 ns k3 m t b z q l hn B F hq), seq_nx (st12 ns k3 m t b z q l hn B F hz)]
  obtain ⟨n, k4, n0, n1, hk4, q13⟩ := st13 (a2 := a2) (a10 := c10) (a13 := a13) (a14 := a14) (a15 := a15) (a16 := a16) (a17 := a17) (a18 := a18) (a19 := a19) (a20 := a20) (a21 := a21) (a22 := a22) (a23 := a23) (a24 := a24) ns hl k3 m t b z q l hk3
  have hN : 0 ≤ n ∧ n < 12 := ⟨n0, n1⟩
  rw [seq_nx q13, seq_nx (st14 ns k4 m t b z q n l B hN), seq_nx (st16 ns k4 m t b z q n l B hN), seq_nx (st18 ns k4 m t b z q n l B hN), seq_nx (st20 ns k4 m t b z q n l B hN), seq_nx (st22 ns k4 m t b z q n l B F hn)]
  obtain ⟨x, k5, x0, x1, hk5, q23⟩ := st23 (a2 := a2) (a10 := c10) (a15 := a15) (a16 := a16) (a17 := a17) (a18 := a18) (a19 := a19) (a20 := a20) (a21 := a21) (a22 := a22) (a23 := a23) (a24 := a24) ns hl k4 m t b z q n l hk4
  rw [seq_nx q23, seq_nx (st24 ns k5 m t b z q n x l B ⟨x0, x1⟩)]
  obtain ⟨du, hdu, q25⟩ := st25 (a2 := a2) (a10 := c10) (a17 := a17) (a18 := a18) (a19 := a19) (a20 := a20) (a21 := a21) (a22 := a22) (a23 := a23) (a24 := a24) ns k5 m t b z q n x l B ⟨x0, x1⟩
  rw [seq_nx q25, seq_nx (st27 ns k5 m t b z q n x du l B ⟨x0, x1⟩ hdu)]
  obtain ⟨w, k6, w0, w1, hk6, q28⟩ := st28 (a2 := a2) (a10 := c10) (a18 := a18) (a19 := a19) (a20 := a20) (a21 := a21) (a22 := a22) (a23 := a23) (a24 := a24) ns hl k5 m t b z q n x du l hk5
  have hw : 1 ≤ w ∧ w ≤ 90 := ⟨w0, w1⟩
  rw [seq_nx q28, seq_nx (st29 ns k6 m t b z q n x du w l B hq hw), seq_nx (st31 ns k6 m t b z q n x du w l B hq hw), seq_nx (st33 ns k6 m t b z q n x du w l B hq hw), seq_nx (st34 ns k6 m t b z q n x du w l B hq hw), st36 ns k6 m t b z q n x du w l B hq hw]
  exact ⟨k6, _, _, _, _, _, _, _, _, _, _, _, _, _, _, _, _, _, _, _, _, _, _, _, hk6, rfl⟩
theorem plain (ns : List Int) (h : ns.length ≤ 63) : m_law [.scr (ns.map D.int)] [] = .ok (.bl true) [] := by
  show m_law [.scr (I ns)] [] = .ok (.bl true) []
  obtain ⟨ρ2, st2, e, k, c2, c3, c4, c5, c6, c7, c8, c9, c10, c11, c12, c13, c14, c15, c16, c17, c18, c19, c20, c21, c22, c23, c24, hk, rfl, rfl⟩ := forGo_inv (bd := bName 2)
    (b := sSeq x_law_1 (sSeq x_law_2 (sSeq x_law_3 (sSeq x_law_6 (sSeq x_law_7 (sSeq x_law_8 (sSeq x_law_10 (sSeq x_law_12 (sSeq x_law_13 (sSeq x_law_14 (sSeq x_law_16 (sSeq x_law_18 (sSeq x_law_20 (sSeq x_law_22 (sSeq x_law_23 (sSeq x_law_24 (sSeq x_law_25 (sSeq x_law_27 (sSeq x_law_28 (sSeq x_law_29 (sSeq x_law_31 (sSeq x_law_33 (sSeq x_law_34 x_law_36)))))))))))))))))))))))
    (fun (i : Nat) => D.int (0 + (i : Int))) (fun ρ s => ∃ (k : Int) (c2 c3 c4 c5 c6 c7 c8 c9 c10 c11 c12 c13 c14 c15 c16 c17 c18 c19 c20 c21 c22 c23 c24 : Sl), 0 ≤ k ∧ ρ = [Sl.val (.scr (I ns)), Sl.val (.loc 0), c2, c3, c4, c5, c6, c7, c8, c9, c10, c11, c12, c13, c14, c15, c16, c17, c18, c19, c20, c21, c22, c23, c24] ∧ s = dr ns k) (List.range 8)
    (by
      rintro i _ ρ s ⟨k, c2, c3, c4, c5, c6, c7, c8, c9, c10, c11, c12, c13, c14, c15, c16, c17, c18, c19, c20, c21, c22, c23, c24, hk, rfl, rfl⟩
      obtain ⟨k', d2, d3, d4, d5, d6, d7, d8, d9, d10, d11, d12, d13, d14, d15, d16, d17, d18, d19, d20, d21, d22, d23, d24, hk', e⟩ := turn_ok (a2 := .val (.int (0 + (i : Int)))) (a3 := c3) (a4 := c4) (a5 := c5) (a6 := c6) (a7 := c7) (a8 := c8) (a9 := c9) (a10 := c10) (a11 := c11) (a12 := c12) (a13 := c13) (a14 := c14) (a15 := c15) (a16 := c16) (a17 := c17) (a18 := c18) (a19 := c19) (a20 := c20) (a21 := c21) (a22 := c22) (a23 := c23) (a24 := c24) ns h k hk
      exact ⟨_, rfl, _, _, e, k', d2, d3, d4, d5, d6, d7, d8, d9, d10, d11, d12, d13, d14, d15, d16, d17, d18, d19, d20, d21, d22, d23, d24, hk', rfl, rfl⟩)
    [.val (.scr (I ns)), .val (.loc 0), .un, .un, .un, .un, .un, .un, .un, .un, .un, .un, .un, .un, .un, .un, .un, .un, .un, .un, .un, .un, .un, .un, .un] (dr ns 0) ⟨0, .un, .un, .un, .un, .un, .un, .un, .un, .un, .un, .un, .un, .un, .un, .un, .un, .un, .un, .un, .un, .un, .un, .un, by decide, rfl, rfl⟩
  have e0 : x_law_0 [.val (.scr (I ns)), .un, .un, .un, .un, .un, .un, .un, .un, .un, .un, .un, .un, .un, .un, .un, .un, .un, .un, .un, .un, .un, .un, .un, .un] [] = .nx [.val (.scr (I ns)), .val (.loc 0), .un, .un, .un, .un, .un, .un, .un, .un, .un, .un, .un, .un, .un, .un, .un, .un, .un, .un, .un, .un, .un, .un, .un] (dr ns 0) := rfl
  have e1 : x_law_37 [.val (.scr (I ns)), .val (.loc 0), .un, .un, .un, .un, .un, .un, .un, .un, .un, .un, .un, .un, .un, .un, .un, .un, .un, .un, .un, .un, .un, .un, .un] (dr ns 0) = .nx _ (dr ns k) := e
  have q : b_law [.val (.scr (I ns)), .un, .un, .un, .un, .un, .un, .un, .un, .un, .un, .un, .un, .un, .un, .un, .un, .un, .un, .un, .un, .un, .un, .un, .un] [] = .rt (.bl true) (dr ns k) := by
    unfold b_law
    rw [seq_nx e0, seq_nx e1]
    rfl
  exact callD_rt (np := 1) (nl := 25) (st' := dr ns k) rfl q rfl

end Lw
namespace Lw
open Gh L2 PyProof.Rows PySem.Spec PySem
theorem law_end {P : Program} {w : World} {K : PySem.W.Frag} {mg : Glob} (T : Txt K mg) : LawB P w K mg 7 "law" m_law := by
  refine lawB_of T.g_law (fun f fd F s u => ?_) fun base f fd F => fn_law T F
  obtain ⟨oc, od, kV, doc, pm, an, cdv, ct, osl, rfl, lk, hcd⟩ := F.ex
  exact .of_eq rfl
end Lw
open PySem PySem.W PyProof.Rows
set_option maxRecDepth 100000 in
set_option maxHeartbeats 0 in
theorem PySem.Challenge.cw_watchedhands_k63_falls_within_ticks_holds : PySem.Challenge.rw_watchedhands_k63_falls_within_ticks.Holds := by
  w_on; o_law; k_head; (case hw => w_witness2)
  k_fill
  refine Gh.law_walk (l := PySem.Challenge.rw_watchedhands_k63_falls_within_ticks) (k := 7) (m := Lw.m_law) rfl rfl ⟨rfl, by decide, by decide⟩ (fun w h Y => PySem.W.kIn_of Y) Lw.plain ?B
  case B =>
    intro w mg h KX G
    refine Lw.law_end ?_
    have c_Faults := Gh.the KX (fun K => Gh.TC K mg "Faults") (by
      refine' Gh.tc_mk KX G ?a ?pg ?hd ?po ?sa ?mk ?kc
      (case a => k_is); (case pg => k_is); (case hd => k_is); (case po => k_is); (case sa => k_is); (case mk => k_is); (case kc => k_is))
    have c_Bears := Gh.the KX (fun K => Gh.TC K mg "Bears") (by
      refine' Gh.tc_mk KX G ?a ?pg ?hd ?po ?sa ?mk ?kc
      (case a => k_is); (case pg => k_is); (case hd => k_is); (case po => k_is); (case sa => k_is); (case mk => k_is); (case kc => k_is))
    have c_Passed := Gh.the KX (fun K => Gh.TC K mg "Passed") (by
      refine' Gh.tc_mk KX G ?a ?pg ?hd ?po ?sa ?mk ?kc
      (case a => k_is); (case pg => k_is); (case hd => k_is); (case po => k_is); (case sa => k_is); (case mk => k_is); (case kc => k_is))
    have m_Bears___bool__ := Gh.the KX (fun K => Gh.TM K mg "Bears" "__bool__" "Bears.__bool__" Lw.s_Bears___bool__) (by
      refine' Gh.tm_mk KX G ?a ?b ?i ?l ?d ?k
      (case a => k_is); (case b => k_is); (case i => k_is); (case l => k_is); (case d => k_is); (case k => k_is))
    have m_Bears___eq__ := Gh.the KX (fun K => Gh.TM K mg "Bears" "__eq__" "Bears.__eq__" Lw.s_Bears___eq__) (by
      refine' Gh.tm_mk KX G ?a ?b ?i ?l ?d ?k
      (case a => k_is); (case b => k_is); (case i => k_is); (case l => k_is); (case d => k_is); (case k => k_is))
    have m_Passed___eq__ := Gh.the KX (fun K => Gh.TM K mg "Passed" "__eq__" "Passed.__eq__" Lw.s_Passed___eq__) (by
      refine' Gh.tm_mk KX G ?a ?b ?i ?l ?d ?k
      (case a => k_is); (case b => k_is); (case i => k_is); (case l => k_is); (case d => k_is); (case k => k_is))
    have m_Bears___init__ := Gh.the KX (fun K => Gh.TM K mg "Bears" "__init__" "Bears.__init__" Lw.s_Bears___init__) (by
      refine' Gh.tm_mk KX G ?a ?b ?i ?l ?d ?k
      (case a => k_is); (case b => k_is); (case i => k_is); (case l => k_is); (case d => k_is); (case k => k_is))
    have m_Passed___init__ := Gh.the KX (fun K => Gh.TM K mg "Passed" "__init__" "Passed.__init__" Lw.s_Passed___init__) (by
      refine' Gh.tm_mk KX G ?a ?b ?i ?l ?d ?k
      (case a => k_is); (case b => k_is); (case i => k_is); (case l => k_is); (case d => k_is); (case k => k_is))
    have g_check_faults := Gh.the KX (fun K => Gh.TG K mg "check_faults" "check_faults" Lw.s_check_faults) (by
      refine' Gh.tg_mk KX G ?a ?l ?c ?k
      (case a => k_is); (case l => k_is); (case c => k_is); (case k => k_is))
    have g_is_integer := Gh.the KX (fun K => Gh.TG K mg "is_integer" "is_integer" Lw.s_is_integer) (by
      refine' Gh.tg_mk KX G ?a ?l ?c ?k
      (case a => k_is); (case l => k_is); (case c => k_is); (case k => k_is))
    have g_is_number := Gh.the KX (fun K => Gh.TG K mg "is_number" "is_number" Lw.s_is_number) (by
      refine' Gh.tg_mk KX G ?a ?l ?c ?k
      (case a => k_is); (case l => k_is); (case c => k_is); (case k => k_is))
    have g_check_number := Gh.the KX (fun K => Gh.TG K mg "check_number" "check_number" Lw.s_check_number) (by
      refine' Gh.tg_mk KX G ?a ?l ?c ?k
      (case a => k_is); (case l => k_is); (case c => k_is); (case k => k_is))
    have g_check_bound := Gh.the KX (fun K => Gh.TG K mg "check_bound" "check_bound" Lw.s_check_bound) (by
      refine' Gh.tg_mk KX G ?a ?l ?c ?k
      (case a => k_is); (case l => k_is); (case c => k_is); (case k => k_is))
    have g_most_within := Gh.the KX (fun K => Gh.TG K mg "most_within" "most_within" Lw.s_most_within) (by
      refine' Gh.tg_mk KX G ?a ?l ?c ?k
      (case a => k_is); (case l => k_is); (case c => k_is); (case k => k_is))
    have g_soonest := Gh.the KX (fun K => Gh.TG K mg "soonest" "soonest" Lw.s_soonest) (by
      refine' Gh.tg_mk KX G ?a ?l ?c ?k
      (case a => k_is); (case l => k_is); (case c => k_is); (case k => k_is))
    have g_judge_bound := Gh.the KX (fun K => Gh.TG K mg "judge_bound" "judge_bound" Lw.s_judge_bound) (by
      refine' Gh.tg_mk KX G ?a ?l ?c ?k
      (case a => k_is); (case l => k_is); (case c => k_is); (case k => k_is))
    have m_Bears_shows := Gh.the KX (fun K => Gh.TM K mg "Bears" "shows" "Bears.shows" Lw.s_Bears_shows) (by
      refine' Gh.tm_mk KX G ?a ?b ?i ?l ?d ?k
      (case a => k_is); (case b => k_is); (case i => k_is); (case l => k_is); (case d => k_is); (case k => k_is))
    have m_Faults___init__ := Gh.the KX (fun K => Gh.TM K mg "Faults" "__init__" "Faults.__init__" Lw.s_Faults___init__) (by
      refine' Gh.tm_mk KX G ?a ?b ?i ?l ?d ?k
      (case a => k_is); (case b => k_is); (case i => k_is); (case l => k_is); (case d => k_is); (case k => k_is))
    have m_Passed___bool__ := Gh.the KX (fun K => Gh.TM K mg "Passed" "__bool__" "Passed.__bool__" Lw.s_Passed___bool__) (by
      refine' Gh.tm_mk KX G ?a ?b ?i ?l ?d ?k
      (case a => k_is); (case b => k_is); (case i => k_is); (case l => k_is); (case d => k_is); (case k => k_is))
    have g_is_row := Gh.the KX (fun K => Gh.TG K mg "is_row" "is_row" Lw.s_is_row) (by
      refine' Gh.tg_mk KX G ?a ?l ?c ?k
      (case a => k_is); (case l => k_is); (case c => k_is); (case k => k_is))
    have g_check_falls := Gh.the KX (fun K => Gh.TG K mg "check_falls" "check_falls" Lw.s_check_falls) (by
      refine' Gh.tg_mk KX G ?a ?l ?c ?k
      (case a => k_is); (case l => k_is); (case c => k_is); (case k => k_is))
    have g_within := Gh.the KX (fun K => Gh.TG K mg "within" "within" Lw.s_within) (by
      refine' Gh.tg_mk KX G ?a ?l ?c ?k
      (case a => k_is); (case l => k_is); (case c => k_is); (case k => k_is))
    have g_are_within := Gh.the KX (fun K => Gh.TG K mg "are_within" "are_within" Lw.s_are_within) (by
      refine' Gh.tg_mk KX G ?a ?l ?c ?k
      (case a => k_is); (case l => k_is); (case c => k_is); (case k => k_is))
    have g_first_beyond := Gh.the KX (fun K => Gh.TG K mg "first_beyond" "first_beyond" Lw.s_first_beyond) (by
      refine' Gh.tg_mk KX G ?a ?l ?c ?k
      (case a => k_is); (case l => k_is); (case c => k_is); (case k => k_is))
    have m_Passed_shows := Gh.the KX (fun K => Gh.TM K mg "Passed" "shows" "Passed.shows" Lw.s_Passed_shows) (by
      refine' Gh.tm_mk KX G ?a ?b ?i ?l ?d ?k
      (case a => k_is); (case b => k_is); (case i => k_is); (case l => k_is); (case d => k_is); (case k => k_is))
    have g__law_number := Gh.the KX (fun K => Gh.TG K mg "_law_number" "_law_number" Lw.s__law_number) (by
      refine' Gh.tg_mk KX G ?a ?l ?c ?k
      (case a => k_is); (case l => k_is); (case c => k_is); (case k => k_is))
    have g__law_take := Gh.the KX (fun K => Gh.TG K mg "_law_take" "_law_take" Lw.s__law_take) (by
      refine' Gh.tg_mk KX G ?a ?l ?c ?k
      (case a => k_is); (case l => k_is); (case c => k_is); (case k => k_is))
    have g_greatest_ticks := Gh.the KX (fun K => Gh.TG K mg "greatest_ticks" "greatest_ticks" Lw.s_greatest_ticks) (by
      refine' Gh.tg_mk KX G ?a ?l ?c ?k
      (case a => k_is); (case l => k_is); (case c => k_is); (case k => k_is))
    have g_least_most := Gh.the KX (fun K => Gh.TG K mg "least_most" "least_most" Lw.s_least_most) (by
      refine' Gh.tg_mk KX G ?a ?l ?c ?k
      (case a => k_is); (case l => k_is); (case c => k_is); (case k => k_is))
    have g_span_of := Gh.the KX (fun K => Gh.TG K mg "span_of" "span_of" Lw.s_span_of) (by
      refine' Gh.tg_mk KX G ?a ?l ?c ?k
      (case a => k_is); (case l => k_is); (case c => k_is); (case k => k_is))
    have g_law := Gh.the KX (fun K => Gh.TG K mg "law" "law" Lw.s_law) (by
      refine' Gh.tg_mk KX G ?a ?l ?c ?k
      (case a => k_is); (case l => k_is); (case c => k_is); (case k => k_is))
    have a_falls_Passed := Gh.the KX (fun K => Gh.AttOk K mg "falls" ["Passed"]) (by
      refine Gh.AttOk.cons (by (refine' Gh.tf_mk KX G c_Passed ?a ?n); (case a => k_is); (case n => k_is)) ?_
      exact Gh.AttOk.nil)
    have a_many_Bears := Gh.the KX (fun K => Gh.AttOk K mg "many" ["Bears"]) (by
      refine Gh.AttOk.cons (by (refine' Gh.tf_mk KX G c_Bears ?a ?n); (case a => k_is); (case n => k_is)) ?_
      exact Gh.AttOk.nil)
    have a_many_Faults := Gh.the KX (fun K => Gh.AttOk K mg "many" ["Faults"]) (by
      refine Gh.AttOk.cons (by (refine' Gh.tf_mk KX G c_Faults ?a ?n); (case a => k_is); (case n => k_is)) ?_
      exact Gh.AttOk.nil)
    have a_ticks_Faults := Gh.the KX (fun K => Gh.AttOk K mg "ticks" ["Faults"]) (by
      refine Gh.AttOk.cons (by (refine' Gh.tf_mk KX G c_Faults ?a ?n); (case a => k_is); (case n => k_is)) ?_
      exact Gh.AttOk.nil)
    have i_Bears__Bears__ := Gh.the KX (fun K => Gh.TIs K mg "Bears" ["Bears"] []) (by
      refine' Gh.tis_mk KX G ?a ?ic ?tc ?k1 ?k2 ?k3 ?k4 ?k5 ?k6 ?k7 ?hy ?hn
      (case a => k_is); (case ic => k_is); (case tc => k_is); (case k1 => k_is); (case k2 => k_is); (case k3 => k_is); (case k4 => k_is); (case k5 => k_is); (case k6 => k_is); (case k7 => k_is)
      case hy =>
        intro c hc
        simp only [List.mem_cons, List.not_mem_nil, or_false] at hc
        subst hc
        · refine' Gh.ti1_mk (Gh.insTy_mk KX G c_Bears ?qa ?qha ?qn ?qtk ?qm) Gh.kit_self
          (case qa => k_is); (case qha => k_is); (case qn => k_is); (case qtk => k_is); (case qm => k_is)
      case hn =>
        intro c hc
        cases hc
      skip)
    have i_Faults____ := Gh.the KX (fun K => Gh.TIs K mg "Faults" [] []) (by
      refine' Gh.tis_mk KX G ?a ?ic ?tc ?k1 ?k2 ?k3 ?k4 ?k5 ?k6 ?k7 ?hy ?hn
      (case a => k_is); (case ic => k_is); (case tc => k_is); (case k1 => k_is); (case k2 => k_is); (case k3 => k_is); (case k4 => k_is); (case k5 => k_is); (case k6 => k_is); (case k7 => k_is)
      case hy =>
        intro c hc
        cases hc
      case hn =>
        intro c hc
        cases hc
      skip)
    have i_Faults__Faults__ := Gh.the KX (fun K => Gh.TIs K mg "Faults" ["Faults"] []) (by
      refine' Gh.tis_mk KX G ?a ?ic ?tc ?k1 ?k2 ?k3 ?k4 ?k5 ?k6 ?k7 ?hy ?hn
      (case a => k_is); (case ic => k_is); (case tc => k_is); (case k1 => k_is); (case k2 => k_is); (case k3 => k_is); (case k4 => k_is); (case k5 => k_is); (case k6 => k_is); (case k7 => k_is)
      case hy =>
        intro c hc
        simp only [List.mem_cons, List.not_mem_nil, or_false] at hc
        subst hc
        · refine' Gh.ti1_mk (Gh.insTy_mk KX G c_Faults ?qa ?qha ?qn ?qtk ?qm) Gh.kit_self
          (case qa => k_is); (case qha => k_is); (case qn => k_is); (case qtk => k_is); (case qm => k_is)
      case hn =>
        intro c hc
        cases hc
      skip)
    have i_Passed____Bears := Gh.the KX (fun K => Gh.TIs K mg "Passed" [] ["Bears"]) (by
      refine' Gh.tis_mk KX G ?a ?ic ?tc ?k1 ?k2 ?k3 ?k4 ?k5 ?k6 ?k7 ?hy ?hn
      (case a => k_is); (case ic => k_is); (case tc => k_is); (case k1 => k_is); (case k2 => k_is); (case k3 => k_is); (case k4 => k_is); (case k5 => k_is); (case k6 => k_is); (case k7 => k_is)
      case hy =>
        intro c hc
        cases hc
      case hn =>
        intro c hc
        simp only [List.mem_cons, List.not_mem_nil, or_false] at hc
        subst hc
        · refine' Gh.ti1_mk (Gh.insTy_mk KX G c_Bears ?qa ?qha ?qn ?qtk ?qm) (Gh.kit_ref ?qic ?qtc ?qs ?qz)
          (case qa => k_is); (case qha => k_is); (case qn => k_is); (case qtk => k_is); (case qm => k_is); (case qic => k_is); (case qtc => k_is); (case qs => k_is); (case qz => rfl)
      skip)
    have i_bool := Gh.the KX (fun K => Gh.TIb K mg "bool" []) (Gh.tib_mk (by decide +kernel))
    have i_int := Gh.the KX (fun K => Gh.TIb K mg "int" []) (Gh.tib_mk (by decide +kernel))
    have i_list_tuple := Gh.the KX (fun K => Gh.TIb2 K mg "list" "tuple" []) (Gh.tib2_mk (by decide +kernel) (by decide +kernel) (by decide +kernel))
    have n_Bears_Passed__Bears := Gh.the KX (fun K => Gh.TNf K mg ["Bears", "Passed"] ["Bears"]) (by
      refine Gh.nf_mk fun c hc c' hc' => ?_
      simp only [List.mem_cons, List.not_mem_nil, or_false] at hc hc'
      (rcases hc with rfl | rfl) <;> subst hc'
      · refine' Gh.nf1_mk KX G ?a ?b ?n
        (case a => k_is); (case b => k_is); (case n => k_is)
      · refine' Gh.nf1_mk KX G ?a ?b ?n
        (case a => k_is); (case b => k_is); (case n => k_is)
      skip)
    have z_all : mg "all" = none := PySem.W.mg_none_of KX G (by k_is)
    have z_bool : mg "bool" = none := PySem.W.mg_none_of KX G (by k_is)
    have z_enumerate : mg "enumerate" = none := PySem.W.mg_none_of KX G (by k_is)
    have z_int : mg "int" = none := PySem.W.mg_none_of KX G (by k_is)
    have z_isinstance : mg "isinstance" = none := PySem.W.mg_none_of KX G (by k_is)
    have z_len : mg "len" = none := PySem.W.mg_none_of KX G (by k_is)
    have z_list : mg "list" = none := PySem.W.mg_none_of KX G (by k_is)
    have z_max : mg "max" = none := PySem.W.mg_none_of KX G (by k_is)
    have z_range : mg "range" = none := PySem.W.mg_none_of KX G (by k_is)
    have z_tuple : mg "tuple" = none := PySem.W.mg_none_of KX G (by k_is)
    exact ⟨m_Bears___bool__, m_Bears___eq__, m_Passed___eq__, m_Bears___init__, m_Passed___init__, g_check_faults, g_is_integer, g_is_number, g_check_number, g_check_bound, g_most_within, g_soonest, g_judge_bound, m_Bears_shows, m_Faults___init__, m_Passed___bool__, g_is_row, g_check_falls, g_within, g_are_within, g_first_beyond, m_Passed_shows, g__law_number, g__law_take, g_greatest_ticks, g_least_most, g_span_of, g_law, c_Faults, c_Bears, c_Passed, a_falls_Passed, a_many_Bears, a_many_Faults, a_ticks_Faults, i_Bears__Bears__, i_Faults____, i_Faults__Faults__, i_Passed____Bears, i_bool, i_int, i_list_tuple, n_Bears_Passed__Bears, z_all, z_bool, z_enumerate, z_int, z_isinstance, z_len, z_list, z_max, z_range, z_tuple⟩
